import PyProof.Rows.All
import Wide.All
import OpenK.AllK
import Wide.FinOn
import PySem.Challenge.RW_passhabit_k24_errors_apart
import HandS.ForMost
import HandS.ForExc
import HandS.HeadHook2
import KE.KeyNested
import HandS.Lambda
import HandS.IsInst
import HandS.Star
import HandS.WordsDict
import HandS.TupAny
import HandS.Style
import HandS.Text
import HandS.Defaults
import HandS.Words
import HandS.TupLe
import HandS.SortOrd
import HandS.SortInts
import KE.KSortTup
import PyProof.Rows.SortKeyStr
import HandS.More
import HandS.Zip
import HandS.DictComp
import HandS.Set
import HandS.SetFor
import HandS.SetKeys
import HandS.Property
import HandS.MakeKw
import HandS.MakeKwOnly
import KE.GoesZip
import KE.GoesMore
import KE.GoesEnum
import KE.KDictZip
import HandS.ListItems
import HandS.TupSets
import HandS.HeadHook3
import HandS.Flow
import HandS.Conv
import HandS.NoneIn
import KE.KDictWalk
import KE.KDictList
import HandS.GenYield
import HandS.GenList
import KE.KDictPairs
import KE.KDictKeyed
import HandS.DeepEq
import PyProof.NeKinds
import PyProof.ReprRoads
import PyProof.ReprBulk
import KE.DataFind
import HandS.HeadEnd
import HandS.TupMul
import KE.SortData
import HandS.SetBool
import HandS.DictEq
import HandS.Finally
import KE.SortKeyHeap
import HandS.SortKw
import HandS.HeadHook4
import HandS.EndTab
import KE.KDictDisplayH
import HandS.ExcOwn
import HandS.ExcInit
import HandS.TryOnly
import HandS.ExcIs
import HandS.ExcField
import KE.KExcIs
import PyProof.StrOps2
import HandS.Head0
import HandS.Head1
import HandS.Head2
set_option Elab.async false
set_option linter.all false
set_option maxRecDepth 100000
set_option maxHeartbeats 4000000
namespace DL
open PySem PySem.Spec PyProof.Rows L2

/-- the world whose texts are hashed -/
class TheW where
  w : World
  /-- the tables of code objects that lambdas write, and the lambdas' names -/
  T : List (Addr × Str)
variable [TheW]
/-! ### data -/
inductive D where
  | non | bl (b : Bool) | int (i : Int) | str (x : Str)
  | tup (xs : List D) | lst (xs : List D) | dict (kvs : List (D × D)) | set (xs : List D)
  | ins (C : Str) (fs : List (Str × D)) | ty (n : String) | glo (x : Str)
  | mut (d : D) | nd (kvs : List (D × D)) | exc (C : Str) (fs : List (Str × D))
  deriving Inhabited

/-- the result of an evaluation: a value, an exception (its class, what its field holds), or nothing that is known -/
inductive Res (α : Type) where
  | ok (a : α) | exn (c : Str) (fs : List (Str × D)) | stuck
/-- .. with the slots behind it -/
abbrev Rho := List (Option D)
inductive Out (α : Type) where
  | ok (a : α) (r : Rho) | exn (c : Str) (fs : List (Str × D)) (r : Rho) | stuck

def Res.bind {α β : Type} : Res α → (α → Res β) → Res β
  | .ok a, k => k a
  | .exn c d, _ => .exn c d
  | .stuck, _ => .stuck
def Out.bind {α β : Type} : Out α → (α → Rho → Out β) → Out β
  | .ok a r, k => k a r
  | .exn c d r, _ => .exn c d r
  | .stuck, _ => .stuck
def Res.out {α : Type} (x : Res α) (r : Rho) : Out α := match x with
  | .ok a => .ok a r
  | .exn c d => .exn c d r
  | .stuck => .stuck
abbrev M (α : Type) := Rho → Out α
abbrev P (α : Type) := Rho → Res α
def lift {α : Type} (f : P α) : M α := fun r => (f r).out r

def keyOf : D → Option Key
  | .int i => some (.inl i)
  | .str x => some (.inr x)
  | _ => none

/-- a keyword-only default that is an object -/
def kwAt (K : PySem.W.Frag) (f : Addr) (x : Str) : Addr := match K.lookup f with
  | some ⟨_, _, .func fd, _⟩ => (match fd.kwdefaults with
    | .ref d => (match PySem.W.nsIn K d x with
      | some (some (.ref a)) => a
      | _ => 0)
    | _ => 0)
  | _ => 0
/-- objects that stand from the start: "()" is the empty tuple that Shop's costs have as a default -/
def gx (K : PySem.W.Frag) (x : Str) : Addr := if x = "()" then kwAt K (He.ma K (He.ga K "Shop") "__init__") "costs" else if x = "()c" then kwAt K (He.ga K "least_cover") "costs" else He.ga K x
/-! ### keys that are tuples of any depth -/
mutual
def nkD : D → Option NestedKey
  | .non => some .none
  | .bl b => some (.num (if b = true then 1 else 0))
  | .int i => some (.num i)
  | .str x => some (.text x)
  | .tup ds => (nkL ds).map NestedKey.tup
  | _ => none
def nkL : List D → Option (List NestedKey)
  | [] => some []
  | d :: ds => match nkD d, nkL ds with
    | some k, some ks => some (k :: ks)
    | _, _ => none
end
/-- the dict at a, by its entries: keys (that stand at addresses), values -/
abbrev NE := Nat × List (NestedKey × Addr × Value)
def NdIs (w : World) (h : Heap) (a : Addr) (xs : NE) : Prop :=
  ∃ o es, h.get? a = some o ∧ o.ExactDict ∧ o.data = .dict es xs.1 ∧ es.toList = xs.2.map (fun x => ⟨x.1.hash w, .ref x.2.1, x.2.2⟩) ∧ (xs.2.map (·.1)).Nodup ∧ (a == sysModules) = false
def NdO (w : World) (a : Addr) (xs : NE) : HO := .ext fun h => NdIs w h a xs
/-- the object at a: an exception of the class at C, its dict at d (if it has one) -/
def XcO (a C : Addr) (d : Option Addr) : HO := .ext fun h => ∃ oe vs, h.get? a = some oe ∧ L2.Zc (.ref C) d oe ∧ oe.data = .fields vs
/-! ### how data stands in the heap -/
section
variable (K : PySem.W.Frag) (G : Hp)
mutual
def Rep : D → V → Prop
  | .non, v => v = .non
  | .bl b, v => v = .bl b
  | .int i, v => v = .int i
  | .str x, v => v = .str x
  | .ty n, v => v = .ty n
  | .glo x, v => v = .ref (gx K x)
  | .tup ds, v => ∃ a vs, v = .ref a ∧ SqT K G a vs ∧ RepL ds vs
  | .lst ds, v => ∃ a vs, v = .ref a ∧ G a = some (.lst vs) ∧ RepL ds vs
  | .dict kvs, v => ∃ a o kv, v = .ref a ∧ G a = some (.frz o (.dK kv)) ∧ RepK kvs kv
  | .set ds, v => ∃ a vs, v = .ref a ∧ SqL K G a vs ∧ RepL ds vs
  | .ins C fs, v => ∃ a dx fv, v = .ref a ∧ G a = some (.ins (He.ga K C) dx fv) ∧ RepF fs fv
  | .mut _, _ => False
  | .nd kvs, v => ∃ a xs, v = .ref a ∧ G a = some (NdO TheW.w a xs) ∧ RepN kvs xs.2
  | .exc C fs, v => ∃ a dd, v = .ref a ∧ G a = some (XcO a (He.ga K C) dd) ∧ ((fs = [] ∧ dd = none) ∨ ∃ b fv, dd = some b ∧ G b = some (.xd fv) ∧ RepF fs fv)
def RepL : List D → List V → Prop
  | [], vs => vs = []
  | d :: ds, vs => ∃ v r, vs = v :: r ∧ Rep d v ∧ RepL ds r
def RepK : List (D × D) → List (Key × V) → Prop
  | [], vs => vs = []
  | (k, d) :: ds, vs => ∃ j v r, vs = (j, v) :: r ∧ keyOf k = some j ∧ Rep d v ∧ RepK ds r
def RepN : List (D × D) → List (NestedKey × Addr × Value) → Prop
  | [], xs => xs = []
  | (k, d) :: ds, xs => ∃ nk ka u dv r, xs = (nk, ka, u) :: r ∧ nkD k = some nk ∧ nk.depth ≤ 8 ∧ Rep k (.ref ka) ∧ RelV dv u ∧ Rep d dv ∧ RepN ds r
def RepF : List (Str × D) → List (Str × V) → Prop
  | [], vs => vs = []
  | (x, d) :: ds, vs => ∃ v r, vs = (x, v) :: r ∧ Rep d v ∧ RepF ds r
end
end
theorem same_seqT {K : PySem.W.Frag} {H H' : Hp} {a : Addr} {xs : List V} (e : Same H H') (h : SqT K H a xs) : SqT K H' a xs := by
  rcases h with (h | ⟨o, h⟩) | h
  · exact .inl (.inl (e _ _ h))
  · exact .inl (.inr ⟨o, e _ _ h⟩)
  · exact .inr h
/-- (.set is a list that stands from the start: the script) -/
theorem same_seqL {K : PySem.W.Frag} {H H' : Hp} {a : Addr} {xs : List V} (e : Same H H') (h : SqL K H a xs) : SqL K H' a xs := by
  rcases h with (h | ⟨o, h⟩) | h
  · exact .inl (.inl (e _ _ h))
  · exact .inl (.inr ⟨o, e _ _ h⟩)
  · exact .inr h
section
variable {K : PySem.W.Frag} {G G' : Hp}
mutual
theorem Rep.mono (e : Same G G') : ∀ (d : D) {v : V}, Rep K G d v → Rep K G' d v
  | .non, _, h => h
  | .bl _, _, h => h
  | .int _, _, h => h
  | .str _, _, h => h
  | .ty _, _, h => h
  | .glo _, _, h => h
  | .tup ds, _, ⟨a, vs, h1, h2, h3⟩ => ⟨a, vs, h1, same_seqT e h2, RepL.mono e ds h3⟩
  | .lst ds, _, ⟨a, vs, h1, h2, h3⟩ => ⟨a, vs, h1, e _ _ h2, RepL.mono e ds h3⟩
  | .dict kvs, _, ⟨a, o, kv, h1, h2, h3⟩ => ⟨a, o, kv, h1, e _ _ h2, RepK.mono e kvs h3⟩
  | .set ds, _, ⟨a, vs, h1, h2, h3⟩ => ⟨a, vs, h1, same_seqL e h2, RepL.mono e ds h3⟩
  | .ins C fs, _, ⟨a, dx, fv, h1, h2, h3⟩ => ⟨a, dx, fv, h1, e _ _ h2, RepF.mono e fs h3⟩
  | .mut _, _, h => h
  | .nd kvs, _, ⟨a, xs, h1, h2, h3⟩ => ⟨a, xs, h1, e _ _ h2, RepN.mono e kvs h3⟩
  | .exc C fs, _, ⟨a, dd, h1, h2, h3⟩ => ⟨a, dd, h1, e _ _ h2, match h3 with
    | .inl z => .inl z
    | .inr ⟨b, fv, z1, z2, z3⟩ => .inr ⟨b, fv, z1, e _ _ z2, RepF.mono e fs z3⟩⟩
theorem RepL.mono (e : Same G G') : ∀ (ds : List D) {vs : List V}, RepL K G ds vs → RepL K G' ds vs
  | [], _, h => h
  | d :: ds, _, ⟨v, r, h1, h2, h3⟩ => ⟨v, r, h1, Rep.mono e d h2, RepL.mono e ds h3⟩
theorem RepK.mono (e : Same G G') : ∀ (ds : List (D × D)) {vs : List (Key × V)}, RepK K G ds vs → RepK K G' ds vs
  | [], _, h => h
  | (k, d) :: ds, _, ⟨j, v, r, h1, h2, h3, h4⟩ => ⟨j, v, r, h1, h2, Rep.mono e d h3, RepK.mono e ds h4⟩
theorem RepN.mono (e : Same G G') : ∀ (ds : List (D × D)) {xs : List (NestedKey × Addr × Value)}, RepN K G ds xs → RepN K G' ds xs
  | [], _, h => h
  | (k, d) :: ds, _, ⟨nk, ka, u, dv, r, h1, h2, h3, h4, h5, h6, h7⟩ => ⟨nk, ka, u, dv, r, h1, h2, h3, Rep.mono e k h4, h5, Rep.mono e d h6, RepN.mono e ds h7⟩
theorem RepF.mono (e : Same G G') : ∀ (ds : List (Str × D)) {vs : List (Str × V)}, RepF K G ds vs → RepF K G' ds vs
  | [], _, h => h
  | (x, d) :: ds, _, ⟨v, r, h1, h2, h3⟩ => ⟨v, r, h1, Rep.mono e d h2, RepF.mono e ds h3⟩
end
end
end DL
namespace DL
open PySem PySem.Spec PyProof.Rows L2
variable [TheW]
/-! ### objects that are owned: H tells them, G (what is shared and stays) does not -/
def isMut : D → Bool
  | .mut _ => true
  | _ => false
section
variable (K : PySem.W.Frag) (G H : Hp)
mutual
def OwnV : D → V → List Addr → Prop
  | .mut d, v, fp => OwnO d v fp
  | .non, v, fp => Rep K G .non v ∧ fp = []
  | .bl b, v, fp => Rep K G (.bl b) v ∧ fp = []
  | .int i, v, fp => Rep K G (.int i) v ∧ fp = []
  | .str x, v, fp => Rep K G (.str x) v ∧ fp = []
  | .ty n, v, fp => Rep K G (.ty n) v ∧ fp = []
  | .glo x, v, fp => Rep K G (.glo x) v ∧ fp = []
  | .nd x, v, fp => Rep K G (.nd x) v ∧ fp = []
  | .exc C fs, v, fp => Rep K G (.exc C fs) v ∧ fp = []
  | .tup xs, v, fp => Rep K G (.tup xs) v ∧ fp = []
  | .lst xs, v, fp => Rep K G (.lst xs) v ∧ fp = []
  | .dict xs, v, fp => Rep K G (.dict xs) v ∧ fp = []
  | .set xs, v, fp => Rep K G (.set xs) v ∧ fp = []
  | .ins C fs, v, fp => Rep K G (.ins C fs) v ∧ fp = []
def OwnO : D → V → List Addr → Prop
  | .lst ds, v, fp => ∃ a vs f, v = .ref a ∧ H a = some (.lst vs) ∧ OwnL ds vs f ∧ fp = a :: f ∧ a ∉ f
  | .dict kvs, v, fp => ∃ a kv f, v = .ref a ∧ H a = some (.dK kv) ∧ OwnK kvs kv f ∧ fp = a :: f ∧ a ∉ f
  | .ins C fs, v, fp => ∃ a dx fv f, v = .ref a ∧ H a = some (.ins (He.ga K C) dx fv) ∧ OwnF fs fv f ∧ fp = a :: f ∧ a ∉ f
  | .nd kvs, v, fp => ∃ a xs, v = .ref a ∧ H a = some (NdO TheW.w a xs) ∧ RepN K G kvs xs.2 ∧ fp = [a]
  | .tup ds, v, fp => ∃ a vs f, v = .ref a ∧ H a = some (.tup vs) ∧ OwnL ds vs f ∧ fp = a :: f ∧ a ∉ f
  | _, _, _ => False
def OwnL : List D → List V → List Addr → Prop
  | [], vs, fp => vs = [] ∧ fp = []
  | d :: ds, vs, fp => ∃ v r f g, vs = v :: r ∧ OwnV d v f ∧ OwnL ds r g ∧ fp = f ++ g ∧ ∀ a ∈ f, a ∉ g
def OwnK : List (D × D) → List (Key × V) → List Addr → Prop
  | [], vs, fp => vs = [] ∧ fp = []
  | (k, d) :: ds, vs, fp => ∃ j v r f g, vs = (j, v) :: r ∧ keyOf k = some j ∧ OwnV d v f ∧ OwnK ds r g ∧ fp = f ++ g ∧ ∀ a ∈ f, a ∉ g
def OwnF : List (Str × D) → List (Str × V) → List Addr → Prop
  | [], vs, fp => vs = [] ∧ fp = []
  | (x, d) :: ds, vs, fp => ∃ v r f g, vs = (x, v) :: r ∧ OwnV d v f ∧ OwnF ds r g ∧ fp = f ++ g ∧ ∀ a ∈ f, a ∉ g
end
end
section
variable {K : PySem.W.Frag} {G H : Hp}
theorem ownV_mut {d : D} {v : V} {fp : List Addr} : OwnV K G H (.mut d) v fp ↔ OwnO K G H d v fp := by rw [OwnV]
theorem ownV_val {d : D} {v : V} {fp : List Addr} (h : isMut d = false) : OwnV K G H d v fp ↔ (Rep K G d v ∧ fp = []) := by
  cases d <;> first | (simp only [isMut] at h; exact absurd h (by decide)) | (rw [OwnV])
variable {G' H' : Hp}
mutual
theorem OwnV.mono (e : Same G G') : ∀ (d : D) {v : V} {fp : List Addr}, (∀ a ∈ fp, H' a = H a) → OwnV K G H d v fp → OwnV K G' H' d v fp
  | .mut d, _, _, k, h => OwnO.mono e d k h
  | .non, _, _, _, ⟨h1, h2⟩ => ⟨h1, h2⟩
  | .bl b, _, _, _, ⟨h1, h2⟩ => ⟨h1, h2⟩
  | .int i, _, _, _, ⟨h1, h2⟩ => ⟨h1, h2⟩
  | .str x, _, _, _, ⟨h1, h2⟩ => ⟨h1, h2⟩
  | .ty n, _, _, _, ⟨h1, h2⟩ => ⟨h1, h2⟩
  | .glo x, _, _, _, ⟨h1, h2⟩ => ⟨h1, h2⟩
  | .nd x, _, _, _, ⟨h1, h2⟩ => ⟨Rep.mono e _ h1, h2⟩
  | .exc C fs, _, _, _, ⟨h1, h2⟩ => ⟨Rep.mono e _ h1, h2⟩
  | .tup xs, _, _, _, ⟨h1, h2⟩ => ⟨Rep.mono e _ h1, h2⟩
  | .lst xs, _, _, _, ⟨h1, h2⟩ => ⟨Rep.mono e _ h1, h2⟩
  | .dict xs, _, _, _, ⟨h1, h2⟩ => ⟨Rep.mono e _ h1, h2⟩
  | .set xs, _, _, _, ⟨h1, h2⟩ => ⟨Rep.mono e _ h1, h2⟩
  | .ins C fs, _, _, _, ⟨h1, h2⟩ => ⟨Rep.mono e _ h1, h2⟩
theorem OwnO.mono (e : Same G G') : ∀ (d : D) {v : V} {fp : List Addr}, (∀ a ∈ fp, H' a = H a) → OwnO K G H d v fp → OwnO K G' H' d v fp
  | .lst ds, _, _, k, ⟨a, vs, f, h1, h2, h3, h4, h5⟩ => by
    subst h4
    exact ⟨a, vs, f, h1, (k a List.mem_cons_self).trans h2, OwnL.mono e ds (fun b hb => k b (List.mem_cons_of_mem _ hb)) h3, rfl, h5⟩
  | .dict kvs, _, _, k, ⟨a, vs, f, h1, h2, h3, h4, h5⟩ => by
    subst h4
    exact ⟨a, vs, f, h1, (k a List.mem_cons_self).trans h2, OwnK.mono e kvs (fun b hb => k b (List.mem_cons_of_mem _ hb)) h3, rfl, h5⟩
  | .ins C fs, _, _, k, ⟨a, dx, vs, f, h1, h2, h3, h4, h5⟩ => by
    subst h4
    exact ⟨a, dx, vs, f, h1, (k a List.mem_cons_self).trans h2, OwnF.mono e fs (fun b hb => k b (List.mem_cons_of_mem _ hb)) h3, rfl, h5⟩
  | .mut d, _, _, _, h => by exact h.elim
  | .non, _, _, _, h => by exact h.elim
  | .bl b, _, _, _, h => by exact h.elim
  | .int i, _, _, _, h => by exact h.elim
  | .str x, _, _, _, h => by exact h.elim
  | .ty n, _, _, _, h => by exact h.elim
  | .glo x, _, _, _, h => by exact h.elim
  | .nd kvs, _, _, k, ⟨a, xs, h1, h2, h3, h4⟩ => by
    subst h4
    exact ⟨a, xs, h1, (k a List.mem_cons_self).trans h2, RepN.mono e kvs h3, rfl⟩
  | .tup ds, _, _, k, ⟨a, vs, f, h1, h2, h3, h4, h5⟩ => by
    subst h4
    exact ⟨a, vs, f, h1, (k a List.mem_cons_self).trans h2, OwnL.mono e ds (fun b hb => k b (List.mem_cons_of_mem _ hb)) h3, rfl, h5⟩
  | .set xs, _, _, _, h => by exact h.elim
  | .exc C fs, _, _, _, h => by exact h.elim
theorem OwnL.mono (e : Same G G') : ∀ (ds : List D) {vs : List V} {fp : List Addr}, (∀ a ∈ fp, H' a = H a) → OwnL K G H ds vs fp → OwnL K G' H' ds vs fp
  | [], _, _, _, h => h
  | d :: ds, _, _, k, ⟨v, r, f, g, h1, h2, h3, h4, h5⟩ => by
    subst h4
    exact ⟨v, r, f, g, h1, OwnV.mono e d (fun a ha => k a (List.mem_append_left _ ha)) h2, OwnL.mono e ds (fun a ha => k a (List.mem_append_right _ ha)) h3, rfl, h5⟩
theorem OwnK.mono (e : Same G G') : ∀ (ds : List (D × D)) {vs : List (Key × V)} {fp : List Addr}, (∀ a ∈ fp, H' a = H a) → OwnK K G H ds vs fp → OwnK K G' H' ds vs fp
  | [], _, _, _, h => h
  | (x, d) :: ds, _, _, k, ⟨j, v, r, f, g, h1, h0, h2, h3, h4, h5⟩ => by
    subst h4
    exact ⟨j, v, r, f, g, h1, h0, OwnV.mono e d (fun a ha => k a (List.mem_append_left _ ha)) h2, OwnK.mono e ds (fun a ha => k a (List.mem_append_right _ ha)) h3, rfl, h5⟩
theorem OwnF.mono (e : Same G G') : ∀ (ds : List (Str × D)) {vs : List (Str × V)} {fp : List Addr}, (∀ a ∈ fp, H' a = H a) → OwnF K G H ds vs fp → OwnF K G' H' ds vs fp
  | [], _, _, _, h => h
  | (x, d) :: ds, _, _, k, ⟨v, r, f, g, h1, h2, h3, h4, h5⟩ => by
    subst h4
    exact ⟨v, r, f, g, h1, OwnV.mono e d (fun a ha => k a (List.mem_append_left _ ha)) h2, OwnF.mono e ds (fun a ha => k a (List.mem_append_right _ ha)) h3, rfl, h5⟩
end
mutual
theorem OwnV.there : ∀ (d : D) {v : V} {fp : List Addr}, OwnV K G H d v fp → ∀ a ∈ fp, H a ≠ none
  | .mut d, _, _, h => OwnO.there d h
  | .non, _, _, ⟨_, h⟩ => by subst h; simp
  | .bl b, _, _, ⟨_, h⟩ => by subst h; simp
  | .int i, _, _, ⟨_, h⟩ => by subst h; simp
  | .str x, _, _, ⟨_, h⟩ => by subst h; simp
  | .ty n, _, _, ⟨_, h⟩ => by subst h; simp
  | .glo x, _, _, ⟨_, h⟩ => by subst h; simp
  | .nd x, _, _, ⟨_, h⟩ => by subst h; simp
  | .exc C fs, _, _, ⟨_, h⟩ => by subst h; simp
  | .tup xs, _, _, ⟨_, h⟩ => by subst h; simp
  | .lst xs, _, _, ⟨_, h⟩ => by subst h; simp
  | .dict xs, _, _, ⟨_, h⟩ => by subst h; simp
  | .set xs, _, _, ⟨_, h⟩ => by subst h; simp
  | .ins C fs, _, _, ⟨_, h⟩ => by subst h; simp
theorem OwnO.there : ∀ (d : D) {v : V} {fp : List Addr}, OwnO K G H d v fp → ∀ a ∈ fp, H a ≠ none
  | .lst ds, _, _, ⟨a, vs, f, h1, h2, h3, h4, h5⟩ => by
    subst h4
    intro b hb
    rcases List.mem_cons.mp hb with rfl | hb
    · rw [h2]; simp
    · exact OwnL.there ds h3 b hb
  | .dict kvs, _, _, ⟨a, vs, f, h1, h2, h3, h4, h5⟩ => by
    subst h4
    intro b hb
    rcases List.mem_cons.mp hb with rfl | hb
    · rw [h2]; simp
    · exact OwnK.there kvs h3 b hb
  | .ins C fs, _, _, ⟨a, dx, vs, f, h1, h2, h3, h4, h5⟩ => by
    subst h4
    intro b hb
    rcases List.mem_cons.mp hb with rfl | hb
    · rw [h2]; simp
    · exact OwnF.there fs h3 b hb
  | .mut d, _, _, h => by exact h.elim
  | .non, _, _, h => by exact h.elim
  | .bl b, _, _, h => by exact h.elim
  | .int i, _, _, h => by exact h.elim
  | .str x, _, _, h => by exact h.elim
  | .ty n, _, _, h => by exact h.elim
  | .glo x, _, _, h => by exact h.elim
  | .nd kvs, _, _, ⟨a, xs, h1, h2, h3, h4⟩ => by
    subst h4
    intro b hb
    rw [List.mem_singleton.mp hb, h2]
    simp
  | .tup ds, _, _, ⟨a, vs, f, h1, h2, h3, h4, h5⟩ => by
    subst h4
    intro b hb
    rcases List.mem_cons.mp hb with rfl | hb
    · rw [h2]; simp
    · exact OwnL.there ds h3 b hb
  | .set xs, _, _, h => by exact h.elim
  | .exc C fs, _, _, h => by exact h.elim
theorem OwnL.there : ∀ (ds : List D) {vs : List V} {fp : List Addr}, OwnL K G H ds vs fp → ∀ a ∈ fp, H a ≠ none
  | [], _, _, ⟨_, h⟩ => by subst h; simp
  | d :: ds, _, _, ⟨v, r, f, g, h1, h2, h3, h4, h5⟩ => by
    subst h4
    intro b hb
    exact (List.mem_append.mp hb).elim (OwnV.there d h2 b) (OwnL.there ds h3 b)
theorem OwnK.there : ∀ (ds : List (D × D)) {vs : List (Key × V)} {fp : List Addr}, OwnK K G H ds vs fp → ∀ a ∈ fp, H a ≠ none
  | [], _, _, ⟨_, h⟩ => by subst h; simp
  | (x, d) :: ds, _, _, ⟨j, v, r, f, g, h1, h0, h2, h3, h4, h5⟩ => by
    subst h4
    intro b hb
    exact (List.mem_append.mp hb).elim (OwnV.there d h2 b) (OwnK.there ds h3 b)
theorem OwnF.there : ∀ (ds : List (Str × D)) {vs : List (Str × V)} {fp : List Addr}, OwnF K G H ds vs fp → ∀ a ∈ fp, H a ≠ none
  | [], _, _, ⟨_, h⟩ => by subst h; simp
  | (x, d) :: ds, _, _, ⟨v, r, f, g, h1, h2, h3, h4, h5⟩ => by
    subst h4
    intro b hb
    exact (List.mem_append.mp hb).elim (OwnV.there d h2 b) (OwnF.there ds h3 b)
end
end

/-! ### tables: what code objects they tell -/
def NT : HO → Bool
  | .tbl _ => false
  | _ => true
def SameT (H H' : Hp) : Prop := ∀ b o, H b = some o → NT o = true → H' b = some o
def NTG (G : Hp) : Prop := ∀ b ps, G b ≠ some (.tbl ps)
def TabS (G H : Hp) (P : Addr) (q : Str) : Prop := ∃ ps : Array Value, H P = some (.tbl ps) ∧ TriplesOk ps.toList ∧ ∀ (pos : Pos) (cv : Value), codeAmong pos ps.toList = some cv → ∃ c, cv = .ref c ∧ G c = some (LamX.CodeO c q)
def Tabs (G H : Hp) : Prop := ∀ p ∈ TheW.T, TabS G H p.1 p.2
theorem SameT.of {H H' : Hp} (e : Same H H') : SameT H H' := fun _ _ h _ => e _ _ h
theorem SameT.refl (H : Hp) : SameT H H := fun _ _ h _ => h
theorem SameT.trans {H H1 H2 : Hp} (a : SameT H H1) (b : SameT H1 H2) : SameT H H2 := fun c o h n => b c o (a c o h n) n
/-- .. of an object that is no table -/
theorem SameT.at {H H' : Hp} (e : SameT H H') {b : Addr} {o : HO} (h : H b = some o) (n : NT o = true := by first | rfl | assumption) : H' b = some o := e b o h n
theorem TabS.mono {G H G' H' : Hp} {P : Addr} {q : Str} (t : TabS G H P q) (g : Same G G') (h : H' P = H P) : TabS G' H' P q := by
  obtain ⟨ps, h1, h2, h3⟩ := t
  refine ⟨ps, h.trans h1, h2, fun pos cv hc => ?_⟩
  obtain ⟨c, e1, e2⟩ := h3 pos cv hc
  exact ⟨c, e1, g _ _ e2⟩
theorem Tabs.same {G H G' H' : Hp} (t : Tabs G H) (g : Same G G') (h : Same H H') : Tabs G' H' := fun p hp => by
  obtain ⟨ps, h1, h2⟩ := t p hp
  exact TabS.mono (t p hp) g ((h _ _ h1).trans h1.symm)
/-! ### the state of a frame -/
/-- what a def's entry was: the written part, the heap, what of it is shared, the owned arguments' addresses, the arguments -/
structure Ct where
  H0 : Hp
  G0 : Hp
  F0 : Nat → List Addr
  ar : List V
def SlotR (K : PySem.W.Frag) (G H : Hp) : Option V → Option D → List Addr → Prop
  | some v, some d, fp => OwnV K G H d v fp
  | none, some _, _ => False
  | _, none, fp => fp = []
structure At (K : PySem.W.Frag) (c : Ct) (G : Hp) (σ : L2.St) (H : Hp) (ρ : Rho) : Prop where
  sub : Same G H
  g0 : Same c.G0 G
  gnew : ∀ a, G a ≠ none → c.G0 a ≠ none ∨ c.H0 a = none
  keepT : ∀ a o, c.H0 a = some o → (∀ i, a ∉ c.F0 i) → NT o = true → H a = some o
  dom : ∀ a, c.H0 a ≠ none → H a ≠ none
  tb : Tabs G H
  nt : NTG G
  f0 : ∀ i, c.ar.length ≤ i → c.F0 i = []
  arl : c.ar.length ≤ σ.length
  len : ρ.length = σ.length
  par : ∀ (i : Nat) (v : V) (d : D), c.ar[i]? = some v → ρ[i]? = some (some (.mut d)) → σ[i]? = some (some v)
  slot : ∃ fp : Nat → List Addr, (∀ i, SlotR K G H (σ.getD i none) (ρ.getD i none) (fp i)) ∧ (∀ i j a, a ∈ fp i → a ∈ fp j → i = j) ∧ ∀ i a, a ∈ fp i → G a = none ∧ (c.H0 a = none ∨ a ∈ c.F0 i)
theorem At.keep {K : PySem.W.Frag} {c : Ct} {G H : Hp} {σ : L2.St} {ρ : Rho} (A : At K c G σ H ρ) (a : Addr) (o : HO) (e : c.H0 a = some o) (n : ∀ i, a ∉ c.F0 i) (t : NT o = true := by first | rfl | assumption) : H a = some o := A.keepT a o e n t
/-- only new objects, some of them shared -/
structure Grow (G H G' H' : Hp) : Prop where
  g : Same G G'
  ht : SameT H H'
  s : Same G' H'
  n : ∀ a, G' a ≠ none → G a ≠ none ∨ H a = none
  dm : ∀ a, H a ≠ none → H' a ≠ none
  tb : Tabs G H → Tabs G' H'
  nt : NTG G → NTG G'
theorem Grow.h {G H G' H' : Hp} (g : Grow G H G' H') (a : Addr) (o : HO) (e : H a = some o) (t : NT o = true := by first | rfl | assumption) : H' a = some o := g.ht a o e t
theorem ne_none_of {α : Type} {o : Option α} {x : α} (h : o = some x) : o ≠ none := by rw [h]; simp
theorem same_ne {H H' : Hp} (e : Same H H') {a : Addr} (h : H a ≠ none) : H' a ≠ none := by
  cases q : H a with
  | none => exact absurd q h
  | some o => rw [e _ _ q]; simp
theorem Grow.free {G H G' H' : Hp} (g : Grow G H G' H') {a : Addr} (h : H' a = none) : H a = none := by
  cases q : H a with
  | none => rfl
  | some o => exact absurd h (g.dm a (ne_none_of q))
theorem Grow.of {G H G' H' : Hp} (g : Same G G') (h : Same H H') (s : Same G' H') (n : ∀ a, G' a ≠ none → G a ≠ none ∨ H a = none) (nt : NTG G → NTG G') : Grow G H G' H' := ⟨g, .of h, s, n, fun _ z => same_ne h z, fun t => t.same g h, nt⟩
theorem Grow.refl {G H : Hp} (s : Same G H) : Grow G H G H := .of (.refl _) (.refl _) s (fun _ h => .inl h) id
theorem Grow.trans {G H G1 H1 G2 H2 : Hp} (a : Grow G H G1 H1) (b : Grow G1 H1 G2 H2) : Grow G H G2 H2 :=
  ⟨a.g.trans b.g, a.ht.trans b.ht, b.s, fun x hx => (b.n x hx).elim (a.n x) fun z => .inr (a.free z), fun x hx => b.dm x (a.dm x hx), fun t => b.tb (a.tb t), fun t => b.nt (a.nt t)⟩
/-- a new object, not shared -/
theorem Grow.new {G H : Hp} (s : Same G H) {p : Addr} {o : HO} (hp : H p = none) : Grow G H G (upd H p o) :=
  .of (.refl _) (fun b u e => by rw [upd_ne (ne_of_none e hp)]; exact e) (fun b u e => by rw [upd_ne (ne_of_none (s _ _ e) hp)]; exact s _ _ e) (fun _ h => .inl h) id
theorem NTG.upd {G : Hp} (t : NTG G) {p : Addr} {o : HO} (n : NT o = true := by first | rfl | assumption) : NTG (upd G p o) := fun b ps e => by
  by_cases hb : b = p
  · subst hb
    rw [upd_same] at e
    cases e
    cases n
  · rw [upd_ne hb] at e
    exact t b ps e
/-- a new object, shared -/
theorem Grow.share {G H : Hp} (s : Same G H) {p : Addr} {o : HO} (hp : H p = none) (nto : NT o = true := by first | rfl | assumption) : Grow G H (upd G p o) (upd H p o) := by
  have gp : G p = none := s.free hp
  refine .of (fun b u e => by rw [upd_ne (ne_of_none e gp)]; exact e) (fun b u e => by rw [upd_ne (ne_of_none e hp)]; exact e) (fun b u e => ?_) (fun a h => ?_) fun t => t.upd nto
  · by_cases hb : b = p
    · subst hb; rw [upd_same] at e ⊢; exact e
    · rw [upd_ne hb] at e ⊢; exact s _ _ e
  · by_cases hb : a = p
    · exact .inr (hb ▸ hp)
    · rw [upd_ne hb] at h; exact .inl h
theorem SlotR.mono {K : PySem.W.Frag} {G H G' H' : Hp} (e : Same G G') {v : Option V} {d : Option D} {fp : List Addr} (k : ∀ a ∈ fp, H' a = H a) (h : SlotR K G H v d fp) : SlotR K G' H' v d fp := by
  cases v with
  | none => cases d <;> exact h
  | some v => cases d with
    | none => exact h
    | some d => exact OwnV.mono e d k h
theorem SlotR.there {K : PySem.W.Frag} {G H : Hp} {v : Option V} {d : Option D} {fp : List Addr} (h : SlotR K G H v d fp) : ∀ a ∈ fp, H a ≠ none := by
  cases v with
  | none => cases d with
    | none => intro a ha; have : fp = [] := h; subst this; simp at ha
    | some d => exact h.elim
  | some v => cases d with
    | none => intro a ha; have : fp = [] := h; subst this; simp at ha
    | some d => exact OwnV.there d h
section
variable {K : PySem.W.Frag} {c : Ct} {G H G' H' : Hp} {σ : L2.St} {ρ : Rho}
section
variable {K : PySem.W.Frag} {G H : Hp}
mutual
theorem OwnV.nt : ∀ (d : D) {v : V} {fp : List Addr}, OwnV K G H d v fp → ∀ a ∈ fp, ∀ o, H a = some o → NT o = true
  | .mut d, _, _, h => OwnO.nt d h
  | .non, _, _, ⟨_, h⟩ => by subst h; simp
  | .bl b, _, _, ⟨_, h⟩ => by subst h; simp
  | .int i, _, _, ⟨_, h⟩ => by subst h; simp
  | .str x, _, _, ⟨_, h⟩ => by subst h; simp
  | .ty n, _, _, ⟨_, h⟩ => by subst h; simp
  | .glo x, _, _, ⟨_, h⟩ => by subst h; simp
  | .nd x, _, _, ⟨_, h⟩ => by subst h; simp
  | .exc C fs, _, _, ⟨_, h⟩ => by subst h; simp
  | .tup xs, _, _, ⟨_, h⟩ => by subst h; simp
  | .lst xs, _, _, ⟨_, h⟩ => by subst h; simp
  | .dict xs, _, _, ⟨_, h⟩ => by subst h; simp
  | .set xs, _, _, ⟨_, h⟩ => by subst h; simp
  | .ins C fs, _, _, ⟨_, h⟩ => by subst h; simp
theorem OwnO.nt : ∀ (d : D) {v : V} {fp : List Addr}, OwnO K G H d v fp → ∀ a ∈ fp, ∀ o, H a = some o → NT o = true
  | .lst ds, _, _, ⟨a, vs, f, h1, h2, h3, h4, h5⟩ => by
    subst h4
    intro b hb
    rcases List.mem_cons.mp hb with rfl | hb
    · intro o e; rw [h2] at e; cases e; rfl
    · exact OwnL.nt ds h3 b hb
  | .dict kvs, _, _, ⟨a, vs, f, h1, h2, h3, h4, h5⟩ => by
    subst h4
    intro b hb
    rcases List.mem_cons.mp hb with rfl | hb
    · intro o e; rw [h2] at e; cases e; rfl
    · exact OwnK.nt kvs h3 b hb
  | .ins C fs, _, _, ⟨a, dx, vs, f, h1, h2, h3, h4, h5⟩ => by
    subst h4
    intro b hb
    rcases List.mem_cons.mp hb with rfl | hb
    · intro o e; rw [h2] at e; cases e; rfl
    · exact OwnF.nt fs h3 b hb
  | .mut d, _, _, h => by exact h.elim
  | .non, _, _, h => by exact h.elim
  | .bl b, _, _, h => by exact h.elim
  | .int i, _, _, h => by exact h.elim
  | .str x, _, _, h => by exact h.elim
  | .ty n, _, _, h => by exact h.elim
  | .glo x, _, _, h => by exact h.elim
  | .nd kvs, _, _, ⟨a, xs, h1, h2, h3, h4⟩ => by
    subst h4
    intro b hb
    intro o e; rw [List.mem_singleton.mp hb, h2] at e; cases e; rfl
  | .tup ds, _, _, ⟨a, vs, f, h1, h2, h3, h4, h5⟩ => by
    subst h4
    intro b hb
    rcases List.mem_cons.mp hb with rfl | hb
    · intro o e; rw [h2] at e; cases e; rfl
    · exact OwnL.nt ds h3 b hb
  | .set xs, _, _, h => by exact h.elim
  | .exc C fs, _, _, h => by exact h.elim
theorem OwnL.nt : ∀ (ds : List D) {vs : List V} {fp : List Addr}, OwnL K G H ds vs fp → ∀ a ∈ fp, ∀ o, H a = some o → NT o = true
  | [], _, _, ⟨_, h⟩ => by subst h; simp
  | d :: ds, _, _, ⟨v, r, f, g, h1, h2, h3, h4, h5⟩ => by
    subst h4
    intro b hb
    exact (List.mem_append.mp hb).elim (OwnV.nt d h2 b) (OwnL.nt ds h3 b)
theorem OwnK.nt : ∀ (ds : List (D × D)) {vs : List (Key × V)} {fp : List Addr}, OwnK K G H ds vs fp → ∀ a ∈ fp, ∀ o, H a = some o → NT o = true
  | [], _, _, ⟨_, h⟩ => by subst h; simp
  | (x, d) :: ds, _, _, ⟨j, v, r, f, g, h1, h0, h2, h3, h4, h5⟩ => by
    subst h4
    intro b hb
    exact (List.mem_append.mp hb).elim (OwnV.nt d h2 b) (OwnK.nt ds h3 b)
theorem OwnF.nt : ∀ (ds : List (Str × D)) {vs : List (Str × V)} {fp : List Addr}, OwnF K G H ds vs fp → ∀ a ∈ fp, ∀ o, H a = some o → NT o = true
  | [], _, _, ⟨_, h⟩ => by subst h; simp
  | (x, d) :: ds, _, _, ⟨v, r, f, g, h1, h2, h3, h4, h5⟩ => by
    subst h4
    intro b hb
    exact (List.mem_append.mp hb).elim (OwnV.nt d h2 b) (OwnF.nt ds h3 b)
end
end
/-- owned objects are no tables -/
theorem SlotR.nt {K : PySem.W.Frag} {G H : Hp} {v : Option V} {d : Option D} {fp : List Addr} (h : SlotR K G H v d fp) : ∀ a ∈ fp, ∀ o, H a = some o → NT o = true := by
  cases v with
  | none => cases d with
    | none => intro a ha; have : fp = [] := h; subst this; simp at ha
    | some d => exact h.elim
  | some v => cases d with
    | none => intro a ha; have : fp = [] := h; subst this; simp at ha
    | some d => exact OwnV.nt d h
theorem At.grow (A : At K c G σ H ρ) (g : Grow G H G' H') : At K c G' σ H' ρ := by
  obtain ⟨fp, s1, s2, s3⟩ := A.slot
  refine ⟨g.s, A.g0.trans g.g, fun a ha => ?_, fun a o e n t => g.h _ _ (A.keep a o e n), fun a h => g.dm a (A.dom a h), g.tb A.tb, g.nt A.nt, A.f0, A.arl, A.len, A.par, fp, fun i => (s1 i).mono g.g fun a ha => ?_, s2, fun i a ha => ?_⟩
  · rcases g.n a ha with z | z
    · exact A.gnew a z
    · by_cases q : c.H0 a = none
      · exact .inr q
      · exact absurd z (A.dom a q)
  · cases q : H a with
    | none => exact absurd q ((s1 i).there a ha)
    | some o => exact g.h _ _ q ((s1 i).nt a ha o q)
  · obtain ⟨z1, z2⟩ := s3 i a ha
    refine ⟨?_, z2⟩
    cases q : G' a with
    | none => rfl
    | some o =>
      rcases g.n a (ne_none_of q) with z | z
      · exact absurd z1 z
      · exact absurd z ((s1 i).there a ha)
end
end DL
namespace DL
open PySem PySem.Spec PyProof.Rows L2
variable [TheW]
/-! ### readings by denotations -/
/-- an exception of the program's own: its class, its fields -/
def RepX (K : PySem.W.Frag) (G : Hp) (x : Str) (fs : List (Str × D)) (cls : Value) (dd : Option Addr) : Prop :=
  cls = .ref (He.ga K x) ∧ ((fs = [] ∧ dd = none) ∨ ∃ a fv, dd = some a ∧ G a = some (.xd fv) ∧ RepF K G fs fv)
/-- data read in place: shared, or the content of an owned object whose items are shared -/
def RdO (K : PySem.W.Frag) (G H : Hp) : D → V → Prop
  | .lst ds, v => ∃ a vs, v = .ref a ∧ H a = some (.lst vs) ∧ RepL K G ds vs
  | .dict kvs, v => ∃ a kv, v = .ref a ∧ Rd H a (.dK kv) ∧ RepK K G kvs kv
  | .nd kvs, v => ∃ a xs, v = .ref a ∧ H a = some (NdO TheW.w a xs) ∧ RepN K G kvs xs.2
  | d, v => Rep K G d v
theorem SameT.rd {H H' : Hp} (e : SameT H H') {a : Addr} {u : HO} (h : Rd H a u) (n : NT u = true := by first | rfl | assumption) : Rd H' a u := by
  rcases h with h | ⟨o, h⟩
  · exact .inl (e _ _ h n)
  · exact .inr ⟨o, e _ _ h rfl⟩
theorem SameT.seq {K : PySem.W.Frag} {H H' : Hp} {a : Addr} {xs : List V} (e : SameT H H') (h : SqL K H a xs) : SqL K H' a xs := by
  rcases h with (h | ⟨o, h⟩) | h
  · exact .inl (.inl (e _ _ h rfl))
  · exact .inl (.inr ⟨o, e _ _ h rfl⟩)
  · exact .inr h
theorem Rep.rdO {K : PySem.W.Frag} {G H : Hp} (s : Same G H) {d : D} {v : V} (h : Rep K G d v) : RdO K G H d v := by
  cases d with
  | lst ds => obtain ⟨a, vs, h1, h2, h3⟩ := h; exact ⟨a, vs, h1, s _ _ h2, h3⟩
  | dict kvs => obtain ⟨a, o, kv, h1, h2, h3⟩ := h; exact ⟨a, kv, h1, .inr ⟨o, s _ _ h2⟩, h3⟩
  | nd kvs => obtain ⟨a, xs, h1, h2, h3⟩ := h; exact ⟨a, xs, h1, s _ _ h2, h3⟩
  | _ => exact h
theorem RdO.grow {K : PySem.W.Frag} {G H G' H' : Hp} (eg : Same G G') (eh : SameT H H') {d : D} {v : V} (h : RdO K G H d v) : RdO K G' H' d v := by
  cases d with
  | lst ds => obtain ⟨a, vs, h1, h2, h3⟩ := h; exact ⟨a, vs, h1, eh _ _ h2 rfl, RepL.mono eg _ h3⟩
  | dict kvs => obtain ⟨a, kv, h1, h2, h3⟩ := h; exact ⟨a, kv, h1, eh.rd h2, RepK.mono eg _ h3⟩
  | nd kvs => obtain ⟨a, xs, h1, h2, h3⟩ := h; exact ⟨a, xs, h1, eh _ _ h2 rfl, RepN.mono eg _ h3⟩
  | _ => exact Rep.mono eg _ h
/-- how a value stands: by the heap ahead, what is shared and the heap behind -/
abbrev RR (α β : Type) := Hp → α → β → Hp → Hp → Prop
def rv (K : PySem.W.Frag) : RR D V := fun _ d v G _ => Rep K G d v
def rb (K : PySem.W.Frag) : RR D V := fun _ d v G H => RdO K G H d v
def ro (K : PySem.W.Frag) : RR D V := fun H0 d v G H => ∃ fp, OwnO K G H d v fp ∧ ∀ a ∈ fp, G a = none ∧ H0 a = none
def rl (K : PySem.W.Frag) : RR (List D) (List V) := fun _ d v G _ => RepL K G d v
def rbl (K : PySem.W.Frag) : RR (List D) (List V) := fun _ d v G H => Paired (RdO K G H) d v
def rt : RR Bool Bool := fun _ b b' _ _ => b' = b
section
variable {α β γ δ : Type}
def PostP (K : PySem.W.Frag) (W : WX) (σ : L2.St) (G H : Hp) (R : RR α β) (Q : β → Hp → Prop) : Res α → Prop
  | .ok a => ∀ v G' H', Grow G H G' H' → R H a v G' H' → Q v H'
  | .exn x fs => ∀ cls dd G' H', Grow G H G' H' → RepX K G' x fs cls dd → W cls dd σ H'
  | .stuck => False
/-- the reading of a pure expression -/
def tP (K : PySem.W.Frag) (c : Ct) (W : WX) (R : RR α β) (f : P α) : L2.St → Hp → (β → Hp → Prop) → Prop := fun σ H Q => ∃ G ρ, At K c G σ H ρ ∧ PostP K W σ G H R Q (f ρ)
variable {K : PySem.W.Frag} {c : Ct} {W : WX} {σ : L2.St} {G H G1 H1 : Hp} {R : RR α β} {S : RR γ δ} {Q Q' : β → Hp → Prop}
theorem PostP.imp {o : Res α} (h : PostP K W σ G H R Q o) (i : ∀ v H', Q v H' → Q' v H') : PostP K W σ G H R Q' o := by
  cases o with
  | ok a => exact fun v G' H' g r => i _ _ (h v G' H' g r)
  | exn x fs => exact h
  | stuck => exact h
theorem PostP.bind {S : RR γ δ} {Q2 : δ → Hp → Prop} {o : Res α} {k : α → Res γ} (h : PostP K W σ G H S Q2 (o.bind k)) (hS : ∀ a v G' H', Grow G H G' H' → S H a v G' H' → S H a v G' H' := by intro _ _ _ _ _ h; exact h) :
    PostP K W σ G H R (fun v H1 => ∃ a G1, Grow G H G1 H1 ∧ R H a v G1 H1 ∧ PostP K W σ G1 H1 (fun _ => S H) Q2 (k a)) o := by
  cases o with
  | ok a =>
    intro v G1 H1 g r
    refine ⟨a, G1, g, r, ?_⟩
    have h : PostP K W σ G H S Q2 (k a) := h
    cases e : k a with
    | ok b => rw [e] at h; exact fun w G2 H2 g2 s => h w G2 H2 (g.trans g2) s
    | exn x fs => rw [e] at h; exact fun cls dd G2 H2 g2 s => h cls dd G2 H2 (g.trans g2) s
    | stuck => rw [e] at h; exact h
  | exn x fs => exact h
  | stuck => exact h
end
theorem PE.imp {X : Cx} {e : Expr} {t t' : TE} (h : PE X e t) (i : ∀ σ H Q, t' σ H Q → t σ H Q) : PE X e t' := ⟨fun pins s σ H Q I q => h.run pins s σ H Q I (i σ H Q q)⟩
theorem PT.imp {X : Cx} {e : Expr} {t t' : TT} (h : PT X e t) (i : ∀ σ H Q, t' σ H Q → t σ H Q) : PT X e t' := ⟨fun pins s σ H Q I q => h.run pins s σ H Q I (i σ H Q q)⟩
theorem PA.imp {X : Cx} {e : List Expr} {t t' : TA} (h : PA X e t) (i : ∀ σ H Q, t' σ H Q → t σ H Q) : PA X e t' := ⟨fun pos pins s σ H Q I q => h.run pos pins s σ H Q I (i σ H Q q)⟩
theorem PS.imp {X : Cx} {e : Stmt} {t t' : TS} (h : PS X e t) (i : ∀ D σ H, t' D σ H → t D σ H) : PS X e t' := ⟨fun pins s σ H Q I q => h.run pins s σ H Q I (i Q σ H q)⟩
theorem PSs.imp {X : Cx} {e : List Stmt} {t t' : TS} (h : PSs X e t) (i : ∀ D σ H, t' D σ H → t D σ H) : PSs X e t' := ⟨fun pins s σ H Q I q => h.run pins s σ H Q I (i Q σ H q)⟩

/-- pure expressions: a shared value; a value read in place; a new owned object; a test; arguments -/
abbrev DP (c : Ct) (W : WX) (X : Cx) (e : Expr) (f : P D) : Prop := PE X e (tP X.K c W (rv X.K) f)
abbrev DB (c : Ct) (W : WX) (X : Cx) (e : Expr) (f : P D) : Prop := PE X e (tP X.K c W (rb X.K) f)
abbrev DN (c : Ct) (W : WX) (X : Cx) (e : Expr) (f : P D) : Prop := PE X e (tP X.K c W (ro X.K) f)
abbrev DT (c : Ct) (W : WX) (X : Cx) (e : Expr) (f : P Bool) : Prop := PT X e (tP X.K c W rt f)
abbrev DA (c : Ct) (W : WX) (X : Cx) (es : List Expr) (f : P (List D)) : Prop := PA X es (tP X.K c W (rl X.K) f)
abbrev DAB (c : Ct) (W : WX) (X : Cx) (es : List Expr) (f : P (List D)) : Prop := PA X es (tP X.K c W (rbl X.K) f)

section
variable {c : Ct} {W : WX} {X : Cx} {e : Expr} {f : P D}
theorem dp_b (h : DP c W X e f) : DB c W X e f := PE.imp h fun σ H Q ⟨G, ρ, A, p⟩ => ⟨G, ρ, A, by
  cases o : f ρ with
  | ok d => rw [o] at p; exact fun v G' H' g r => p v G' H' g (Rep.rdO g.s r)
  | exn x fs => rw [o] at p; exact p
  | stuck => rw [o] at p; exact p⟩

/-! ### names, constants -/
def pVar (i : Nat) : P D := fun ρ => match ρ[i]? with
  | some (some d) => (match isMut d with
    | false => .ok d
    | true => .stuck)
  | _ => .stuck
def content : D → D
  | .mut d => d
  | d => d
mutual
/-- no owned object within -/
def plain : D → Bool
  | .mut _ => false
  | .tup xs => plainL xs
  | .lst xs => plainL xs
  | .dict xs => plainK xs
  | .ins _ fs => plainF fs
  | _ => true
def plainL : List D → Bool
  | [] => true
  | d :: ds => plain d && plainL ds
def plainK : List (D × D) → Bool
  | [] => true
  | (_, d) :: ds => plain d && plainK ds
def plainF : List (Str × D) → Bool
  | [] => true
  | (_, d) :: ds => plain d && plainF ds
end
def noMutL : List D → Bool
  | [] => true
  | d :: ds => !isMut d && noMutL ds
def noMutK : List (D × D) → Bool
  | [] => true
  | (_, d) :: ds => !isMut d && noMutK ds
def flat : D → Bool
  | .lst ds => noMutL ds
  | .dict kvs => noMutK kvs
  | .nd _ => true
  | _ => false
/-- the i-th slot's object read in place -/
def pVarB (i : Nat) : P D := fun ρ => match ρ[i]? with
  | some (some (.mut d)) => (match flat d with
    | true => .ok d
    | false => .stuck)
  | some (some d) => .ok d
  | _ => .stuck
theorem ownL_rep {K : PySem.W.Frag} {G H : Hp} : ∀ {ds : List D} {vs : List V} {fp : List Addr}, noMutL ds = true → OwnL K G H ds vs fp → RepL K G ds vs ∧ fp = []
  | [], _, _, _, ⟨h1, h2⟩ => ⟨h1, h2⟩
  | d :: ds, _, _, hm, ⟨v, r, f, g, h1, h2, h3, h4, h5⟩ => by
    obtain ⟨m1, m2⟩ := Bool.and_eq_true_iff.mp (show (!isMut d && noMutL ds) = true from hm)
    obtain ⟨a1, a2⟩ := (ownV_val (by simpa using m1)).mp h2
    obtain ⟨b1, b2⟩ := ownL_rep m2 h3
    subst a2 b2
    exact ⟨⟨v, r, h1, a1, b1⟩, h4⟩
theorem ownK_rep {K : PySem.W.Frag} {G H : Hp} : ∀ {ds : List (D × D)} {vs : List (Key × V)} {fp : List Addr}, noMutK ds = true → OwnK K G H ds vs fp → RepK K G ds vs ∧ fp = []
  | [], _, _, _, ⟨h1, h2⟩ => ⟨h1, h2⟩
  | (k, d) :: ds, _, _, hm, ⟨j, v, r, f, g, h1, h0, h2, h3, h4, h5⟩ => by
    obtain ⟨m1, m2⟩ := Bool.and_eq_true_iff.mp (show (!isMut d && noMutK ds) = true from hm)
    obtain ⟨a1, a2⟩ := (ownV_val (by simpa using m1)).mp h2
    obtain ⟨b1, b2⟩ := ownK_rep m2 h3
    subst a2 b2
    exact ⟨⟨j, v, r, h1, h0, a1, b1⟩, h4⟩
theorem getD_of {α : Type} {l : List (Option α)} {i : Nat} {x : Option α} (h : l[i]? = some x) : l.getD i none = x := by simp [List.getD, h]
theorem At.get {K : PySem.W.Frag} {G H : Hp} {σ : L2.St} {ρ : Rho} (A : At K c G σ H ρ) {i : Nat} {d : D} (h : ρ[i]? = some (some d)) : ∃ v fp, σ[i]? = some (some v) ∧ OwnV K G H d v fp := by
  obtain ⟨fp, s1, _, _⟩ := A.slot
  have s := s1 i
  rw [getD_of h] at s
  have hi : i < σ.length := by rw [← A.len]; exact (List.getElem?_eq_some_iff.mp h).1
  cases q : σ[i]? with
  | none => exact absurd (List.getElem?_eq_none_iff.mp q) (by omega)
  | some o =>
    rw [getD_of q] at s
    cases o with
    | none => exact s.elim
    | some v => exact ⟨v, fp i, rfl, s⟩
theorem At.val {K : PySem.W.Frag} {G H : Hp} {σ : L2.St} {ρ : Rho} (A : At K c G σ H ρ) {i : Nat} {d : D} (h : ρ[i]? = some (some d)) (hm : isMut d = false) : ∃ v, σ[i]? = some (some v) ∧ Rep K G d v := by
  obtain ⟨v, fp, h1, h2⟩ := A.get h
  exact ⟨v, h1, ((ownV_val hm).mp h2).1⟩
variable {pos : Pos}
theorem dp_var (i : Nat) {x : Str} (hN : X.N[i]? = some x := by rfl) (hv : Vis X.env.scope x := by first | exact Or.inl rfl | exact Or.inr (Or.inl rfl) | exact Or.inr (Or.inr rfl)) (hd : (x == ("__debug__" : Str)) = false := by decide)
    (hcd : (x == ("__classdict__" : Str)) = false := by decide) : DP c W X (.Name x pos) (pVar i) :=
  PE.imp (pe_var hN hv hd hcd) fun σ H Q ⟨G, ρ, A, p⟩ => by
    unfold pVar at p
    split at p
    · rename_i d e
      split at p
      · rename_i hm
        obtain ⟨v, h1, h2⟩ := A.val e hm
        exact ⟨v, h1, p v G H (.refl A.sub) h2⟩
      · exact p.elim
    · exact p.elim
theorem db_var (i : Nat) {x : Str} (hN : X.N[i]? = some x := by rfl) (hv : Vis X.env.scope x := by first | exact Or.inl rfl | exact Or.inr (Or.inl rfl) | exact Or.inr (Or.inr rfl)) (hd : (x == ("__debug__" : Str)) = false := by decide)
    (hcd : (x == ("__classdict__" : Str)) = false := by decide) : DB c W X (.Name x pos) (pVarB i) :=
  PE.imp (pe_var hN hv hd hcd) fun σ H Q ⟨G, ρ, A, p⟩ => by
    unfold pVarB at p
    split at p
    · rename_i d e
      split at p
      · rename_i hm
        obtain ⟨v, fp, h1, h2⟩ := A.get e
        have h2 := ownV_mut.mp h2
        refine ⟨v, h1, p v G H (.refl A.sub) ?_⟩
        cases d with
        | lst ds => obtain ⟨a, vs, f, q1, q2, q3, _, _⟩ := h2; exact ⟨a, vs, q1, q2, (ownL_rep hm q3).1⟩
        | dict kvs => obtain ⟨a, vs, f, q1, q2, q3, _, _⟩ := h2; exact ⟨a, vs, q1, .inl q2, (ownK_rep hm q3).1⟩
        | nd kvs => obtain ⟨a, xs, q1, q2, q3, _⟩ := h2; exact ⟨a, xs, q1, q2, q3⟩
        | _ => exact absurd hm (by simp [flat])
      · exact p.elim
    · rename_i d hne e
      have hm : isMut d = false := by cases d <;> first | rfl | exact absurd rfl (hne _)
      obtain ⟨v, h1, h2⟩ := A.val e hm
      exact ⟨v, h1, p v G H (.refl A.sub) (Rep.rdO A.sub h2)⟩
    · exact p.elim
def pC (d : D) : P D := fun _ => .ok d
theorem dp_int {i j} : DP c W X (.Constant (.int i) j pos) (pC (.int i)) := PE.imp pe_int fun σ H Q ⟨G, ρ, A, p⟩ => p _ G H (.refl A.sub) rfl
theorem dp_bl {i j} : DP c W X (.Constant (.bool i) j pos) (pC (.bl i)) := PE.imp pe_bl fun σ H Q ⟨G, ρ, A, p⟩ => p _ G H (.refl A.sub) rfl
theorem dp_non {j} : DP c W X (.Constant .none j pos) (pC .non) := PE.imp pe_non fun σ H Q ⟨G, ρ, A, p⟩ => p _ G H (.refl A.sub) rfl
theorem dp_str {i j} : DP c W X (.Constant (.str i) j pos) (pC (.str i)) := PE.imp pe_str fun σ H Q ⟨G, ρ, A, p⟩ => p _ G H (.refl A.sub) rfl
end
end DL
namespace DL
open PySem PySem.Spec PyProof.Rows L2
variable [TheW]
/-! ### operators by data -/
def PostV (R : RR D V) (G H : Hp) (Q : VK) : Res D → Prop
  | .ok d => ∀ v G' H', Grow G H G' H' → R H d v G' H' → Q v H'
  | _ => False
def OpD (K : PySem.W.Frag) (R : RR D V) (r : R2) (h : D → D → Res D) : Prop :=
  ∀ (G H : Hp) (x y : V) (dx dy : D) (Q : VK), Same G H → RdO K G H dx x → RdO K G H dy y → PostV R G H Q (h dx dy) → r x y H Q
def pOp (h : D → D → Res D) (f g : P D) : P D := fun ρ => (f ρ).bind fun x => (g ρ).bind fun y => h x y
def pUn (h : D → Res D) (f : P D) : P D := fun ρ => (f ρ).bind h
/-- a result whose standing does not lean on the heap ahead -/
structure Steady (R : RR D V) : Prop where
  back : ∀ {G H G1 H1 : Hp} {d : D} {v : V} {G' H' : Hp}, Grow G H G1 H1 → R H1 d v G' H' → R H d v G' H'
theorem steady_rv {K : PySem.W.Frag} : Steady (rv K) := ⟨fun _ h => h⟩
theorem steady_ro {K : PySem.W.Frag} : Steady (ro K) := ⟨fun g ⟨fp, h1, h2⟩ => ⟨fp, h1, fun a ha => ⟨(h2 a ha).1, g.free (h2 a ha).2⟩⟩⟩
section
variable {c : Ct} {W : WX} {X : Cx} {a b e : Expr} {f g : P D} {pos : Pos} {R : RR D V}
theorem PostV.post {σ : L2.St} {G H G1 H1 : Hp} {Q : VK} {o : Res D} (st : Steady R) (gr : Grow G H G1 H1) (h : PostP X.K W σ G1 H1 (fun _ => R H) Q o) (ne : ∀ x fs, o ≠ .exn x fs) : PostV R G1 H1 Q o := by
  cases o with
  | ok d => exact fun v G' H' g' r => h v G' H' g' (st.back gr r)
  | exn x fs => exact absurd rfl (ne x fs)
  | stuck => exact h
/-- h raises nothing -/
abbrev Quiet (h : D → D → Res D) : Prop := ∀ x y z fs, h x y ≠ .exn z fs
theorem PE_op {op : Operator} {r : R2} {h : D → D → Res D} (ho : OpR X (binaryOp op) r) (hd : OpD X.K R r h) (st : Steady R) (hq : Quiet h) (ha : DB c W X a f) (hb : DB c W X b g) : PE X (.BinOp a op b pos) (tP X.K c W R (pOp h f g)) :=
  PE.imp (pe_op ho ha hb) fun σ H Q ⟨G, ρ, A, p⟩ => ⟨G, ρ, A, (PostP.bind p).imp fun x H1 ⟨dx, G1, g1, r1, p1⟩ => ⟨G1, ρ, A.grow g1, (PostP.bind p1).imp fun y H2 ⟨dy, G2, g2, r2, p2⟩ =>
    hd G2 H2 x y dx dy Q g2.s (RdO.grow g2.g g2.ht r1) r2 (PostV.post st (g1.trans g2) p2 (hq _ _))⟩⟩
theorem PE_cmp {op : CmpOp} {r : R2} {h : D → D → Res D} (ho : OpR X (compareOp op) r) (hd : OpD X.K R r h) (st : Steady R) (hq : Quiet h) (ha : DB c W X a f) (hb : DB c W X b g) (hm : behindInMarks op b = false := by first | exact nomark _ | rfl) : PE X (.Compare a [op] [b] pos) (tP X.K c W R (pOp h f g)) :=
  PE.imp (pe_cmpR ho ha hb hm) fun σ H Q ⟨G, ρ, A, p⟩ => ⟨G, ρ, A, (PostP.bind p).imp fun x H1 ⟨dx, G1, g1, r1, p1⟩ => ⟨G1, ρ, A.grow g1, (PostP.bind p1).imp fun y H2 ⟨dy, G2, g2, r2, p2⟩ =>
    hd G2 H2 x y dx dy Q g2.s (RdO.grow g2.g g2.ht r1) r2 (PostV.post st (g1.trans g2) p2 (hq _ _))⟩⟩
/-- an expression that gives a bool, as a test -/
def pTest (f : P D) : P Bool := fun ρ => (f ρ).bind fun d => match d with
  | .bl b => .ok b
  | _ => .stuck
theorem dt_val (h : DP c W X e f) (he : ∀ whole, isTrue e X.env whole = (do let v ← whole; standAt e.pos; holding [v] (truthy v)) := by intro _; rfl) : DT c W X e (pTest f) :=
  PT.imp (pt_val h he) fun σ H Q ⟨G, ρ, A, p⟩ => ⟨G, ρ, A, (PostP.bind p).imp fun x H1 ⟨dx, G1, g1, r1, p1⟩ => by
    cases dx with
    | bl b => exact ⟨b, r1, p1 b G1 H1 (.refl g1.s) rfl⟩
    | _ => exact p1.elim⟩
theorem dt_cmp {op : CmpOp} {r : R2} {h : D → D → Res D} (ho : OpR X (compareOp op) r) (hd : OpD X.K (rv X.K) r h) (hq : Quiet h) (ha : DB c W X a f) (hb : DB c W X b g) (hm : behindInMarks op b = false := by first | exact nomark _ | rfl) :
    DT c W X (.Compare a [op] [b] pos) (pTest (pOp h f g)) :=
  PT.imp (pt_cmpR ho ha hb hm) fun σ H Q ⟨G, ρ, A, p⟩ => by
    have p : PostP X.K W σ G H rt Q (((f ρ).bind fun x => (g ρ).bind fun y => h x y).bind fun d => match d with
      | .bl b => .ok b
      | _ => .stuck) := p
    have e1 : (((f ρ).bind fun x => (g ρ).bind fun y => h x y).bind fun d => match d with
      | .bl b => (Res.ok b : Res Bool)
      | _ => .stuck) = (f ρ).bind fun x => (g ρ).bind fun y => (h x y).bind fun d => match d with
      | .bl b => .ok b
      | _ => .stuck := by
      cases f ρ with
      | ok x => show ((g ρ).bind fun y => h x y).bind _ = (g ρ).bind _; cases g ρ <;> rfl
      | _ => rfl
    rw [e1] at p
    refine ⟨G, ρ, A, (PostP.bind p).imp fun x H1 ⟨dx, G1, g1, r1, p1⟩ => ⟨G1, ρ, A.grow g1, (PostP.bind p1).imp fun y H2 ⟨dy, G2, g2, r2, p2⟩ => ?_⟩⟩
    refine hd G2 H2 x y dx dy _ g2.s (RdO.grow g2.g g2.ht r1) r2 ?_
    cases o : h dx dy with
    | ok d =>
      rw [o] at p2
      intro v G' H' g' r'
      cases d with
      | bl b => exact ⟨b, r', p2 b G' H' g' rfl⟩
      | _ => exact p2.elim
    | exn z fs => exact absurd o (hq _ _ z fs)
    | stuck => rw [o] at p2; exact p2
/-! ### and, or, not, if else -/
def pAnd (f g : P Bool) : P Bool := fun ρ => (f ρ).bind fun b => if b = true then g ρ else .ok false
def pOr (f g : P Bool) : P Bool := fun ρ => (f ρ).bind fun b => if b = true then .ok true else g ρ
def pNot (f : P Bool) : P Bool := fun ρ => (f ρ).bind fun b => .ok (!b)
def pIf {α : Type} (t : P Bool) (f g : P α) : P α := fun ρ => (t ρ).bind fun b => if b = true then f ρ else g ρ
abbrev DW (c : Ct) (W : WX) (X : Cx) (e : Expr) (f : P Bool) : Prop := PW X e (tP X.K c W rt f)
theorem PW.imp {X : Cx} {e : Expr} {t t' : TT} (h : PW X e t) (i : ∀ σ H Q, t' σ H Q → t σ H Q) : PW X e t' := ⟨fun wh pins s σ H Q I q => h.run wh pins s σ H Q I (i σ H Q q)⟩
variable {fa fb ft : P Bool} {rest : List Expr} {t : Expr}
theorem dw_and1 (ha : DT c W X a fa) : DW c W X (.BoolOp .And [a] pos) fa := pw_and1 ha
theorem dw_or1 (ha : DT c W X a fa) : DW c W X (.BoolOp .Or [a] pos) fa := pw_or1 ha
theorem dw_and (ha : DT c W X a fa) (hb : DW c W X (.BoolOp .And (b :: rest) pos) fb) : DW c W X (.BoolOp .And (a :: b :: rest) pos) (pAnd fa fb) :=
  PW.imp (pw_and ha hb) fun σ H Q ⟨G, ρ, A, p⟩ => ⟨G, ρ, A, (PostP.bind p).imp fun x H1 ⟨dx, G1, g1, r1, p1⟩ => by
    have r1 : x = dx := r1
    subst r1
    cases x with
    | true => simp only [if_true] at p1 ⊢; exact ⟨G1, ρ, A.grow g1, p1⟩
    | false => simp only [Bool.false_eq_true, if_false] at p1 ⊢; exact p1 false G1 H1 (.refl g1.s) rfl⟩
theorem dw_or (ha : DT c W X a fa) (hb : DW c W X (.BoolOp .Or (b :: rest) pos) fb) : DW c W X (.BoolOp .Or (a :: b :: rest) pos) (pOr fa fb) :=
  PW.imp (pw_or ha hb) fun σ H Q ⟨G, ρ, A, p⟩ => ⟨G, ρ, A, (PostP.bind p).imp fun x H1 ⟨dx, G1, g1, r1, p1⟩ => by
    have r1 : x = dx := r1
    subst r1
    cases x with
    | true => simp only [if_true] at p1 ⊢; exact p1 true G1 H1 (.refl g1.s) rfl
    | false => simp only [Bool.false_eq_true, if_false] at p1 ⊢; exact ⟨G1, ρ, A.grow g1, p1⟩⟩
theorem dt_w (h : DW c W X e fa) : DT c W X e fa := h.pt
theorem dt_not (ha : DT c W X a fa) : DT c W X (.UnaryOp .Not a pos) (pNot fa) :=
  PT.imp (pt_not ha) fun σ H Q ⟨G, ρ, A, p⟩ => ⟨G, ρ, A, (PostP.bind p).imp fun x H1 ⟨dx, G1, g1, r1, p1⟩ => by
    have r1 : x = dx := r1
    subst r1
    exact p1 (!x) G1 H1 (.refl g1.s) rfl⟩
/-- .. as values: bools -/
def pNotV (f : P D) : P D := fun ρ => (f ρ).bind fun d => match d with
  | .bl b => .ok (.bl !b)
  | _ => .stuck
def pAndV (f g : P D) : P D := fun ρ => (f ρ).bind fun d => match d with
  | .bl true => g ρ
  | .bl false => .ok (.bl false)
  | _ => .stuck
def pOrV (f g : P D) : P D := fun ρ => (f ρ).bind fun d => match d with
  | .bl false => g ρ
  | .bl true => .ok (.bl true)
  | _ => .stuck
theorem dp_one {op} (ha : DP c W X a f) : DP c W X (.BoolOp op [a] pos) f := pe_one ha
end
end DL
namespace DL
open PySem PySem.Spec PyProof.Rows L2
variable [TheW]
/-! ### == of data -/
mutual
def eqD : D → D → Bool
  | .non, .non => true
  | .bl a, .bl b => a == b
  | .bl a, .int j => (if a then 1 else 0) == j
  | .int i, .bl b => i == (if b then 1 else 0)
  | .int i, .int j => i == j
  | .str x, .str y => x == y
  | .tup xs, .tup ys => eqDL xs ys
  | .lst xs, .lst ys => eqDL xs ys
  | _, _ => false
def eqDL : List D → List D → Bool
  | [], [] => true
  | x :: xs, y :: ys => eqD x y && eqDL xs ys
  | _, _ => false
end
mutual
/-- data of None, bools, ints, texts, tuples, lists -/
def simple : D → Bool
  | .non => true
  | .bl _ => true
  | .int _ => true
  | .str _ => true
  | .tup xs => simpleL xs
  | .lst xs => simpleL xs
  | _ => false
def simpleL : List D → Bool
  | [] => true
  | d :: ds => simple d && simpleL ds
end
mutual
def dep : D → Nat
  | .tup xs => depL xs + 1
  | .lst xs => depL xs + 1
  | _ => 0
def depL : List D → Nat
  | [] => 0
  | d :: ds => max (dep d) (depL ds)
end
section
variable {c : Ct} {X : Cx} {pins : List (Addr × Obj)} {σ : L2.St} {G H : Hp} {s : Shared}
theorem eqDL_len {xs ys : List D} (h : xs.length ≠ ys.length) : eqDL xs ys = false := by
  induction xs generalizing ys with
  | nil => cases ys with
    | nil => exact absurd rfl h
    | cons y ys => rfl
  | cons x xs ih => cases ys with
    | nil => rfl
    | cons y ys =>
      have := ih (ys := ys) (by simpa using h)
      simp [eqDL, this]
theorem eqDL_range {xs ys : List D} (h : xs.length = ys.length) : ((List.range xs.length).all fun i => eqD (xs.getD i .non) (ys.getD i .non)) = eqDL xs ys := by
  induction xs generalizing ys with
  | nil => cases ys with
    | nil => rfl
    | cons y ys => simp at h
  | cons x xs ih => cases ys with
    | nil => simp at h
    | cons y ys =>
      have := ih (ys := ys) (by simpa using h)
      rw [List.length_cons, List.range_succ_eq_map, List.all_cons, List.all_map]
      simp only [eqDL, ← this]
      rfl
theorem eqDL_range2 {xs ys : List D} : (((List.range (min xs.length ys.length)).all fun i => eqD (xs.getD i .non) (ys.getD i .non)) && xs.length == ys.length) = eqDL xs ys := by
  by_cases h : xs.length = ys.length
  · rw [← eqDL_range h, ← h, Nat.min_self]
    simp
  · have e : (xs.length == ys.length) = false := by simpa using h
    rw [e, Bool.and_false, eqDL_len h]
theorem depL_mem {ds : List D} {i : Nat} {d : D} (h : ds[i]? = some d) : dep d ≤ depL ds := by
  induction ds generalizing i with
  | nil => simp at h
  | cons x xs ih => cases i with
    | zero => simp at h; subst h; simp only [depL]; omega
    | succ i => have := ih (i := i) (by simpa using h); simp only [depL]; omega
theorem simpleL_mem {ds : List D} {i : Nat} {d : D} (hs : simpleL ds = true) (h : ds[i]? = some d) : simple d = true := by
  induction ds generalizing i with
  | nil => simp at h
  | cons x xs ih =>
    obtain ⟨h1, h2⟩ := Bool.and_eq_true_iff.mp (show (simple x && simpleL xs) = true from hs)
    cases i with
    | zero => simp at h; subst h; exact h1
    | succ i => exact ih (i := i) h2 (by simpa using h)
theorem RepL.length {K : PySem.W.Frag} : ∀ {ds : List D} {vs : List V}, RepL K G ds vs → vs.length = ds.length
  | [], _, h => by have h : _ = [] := h; subst h; rfl
  | d :: ds, _, ⟨v, r, h1, h2, h3⟩ => by subst h1; simp [RepL.length h3]
theorem RepL.get {K : PySem.W.Frag} : ∀ {ds : List D} {vs : List V} {i : Nat} {d : D}, RepL K G ds vs → ds[i]? = some d → ∃ v, vs[i]? = some v ∧ Rep K G d v
  | [], _, _, _, _, e => by simp at e
  | d :: ds, _, 0, d', ⟨v, r, h1, h2, h3⟩, e => by
    subst h1
    simp at e
    subst e
    exact ⟨v, rfl, h2⟩
  | d :: ds, _, i + 1, d', ⟨v, r, h1, h2, h3⟩, e => by
    subst h1
    obtain ⟨v', q1, q2⟩ := RepL.get (i := i) h3 (by simpa using e)
    exact ⟨v', by simpa using q1, q2⟩
/-- a list, a tuple of data as it lies in the machine -/
theorem Inv.dlist (I : Inv X pins σ H s) {a : Addr} {vs : List V} (h : H a = some (.lst vs)) : ∃ its : List Value, Vals vs its ∧ s.heap.IsList a its.toArray ∧ vs.length ≤ sizeLine := by
  obtain ⟨its, r, pl, hz⟩ := I.list (SqL.of h)
  exact ⟨its, r, pl.isList, hz⟩
/-- == by the machine, in a display and by itself -/
def EqB (A : Around) (s : Shared) (u v : Value) (b : Bool) : Prop := SeqAt.RcAt A s u v b ∧ SeqAt.EqAt A s u v b
mutual
theorem eqD_refl : ∀ d : D, simple d = true → eqD d d = true
  | .non, _ => rfl
  | .bl b, _ => by simp [eqD]
  | .int i, _ => by simp [eqD]
  | .str x, _ => by simp [eqD]
  | .tup xs, h => by simp only [eqD]; exact eqDL_refl xs (by simpa [simple] using h)
  | .lst xs, h => by simp only [eqD]; exact eqDL_refl xs (by simpa [simple] using h)
  | .dict _, h => absurd h (by simp [simple])
  | .set _, h => absurd h (by simp [simple])
  | .ins _ _, h => absurd h (by simp [simple])
  | .ty _, h => absurd h (by simp [simple])
  | .glo _, h => absurd h (by simp [simple])
  | .nd _, h => absurd h (by simp [simple])
  | .exc _ _, h => absurd h (by simp [simple])
  | .mut _, h => absurd h (by simp [simple])
theorem eqDL_refl : ∀ ds : List D, simpleL ds = true → eqDL ds ds = true
  | [], _ => rfl
  | d :: ds, h => by
    obtain ⟨h1, h2⟩ := Bool.and_eq_true_iff.mp (show (simple d && simpleL ds) = true from h)
    simp [eqDL, eqD_refl d h1, eqDL_refl ds h2]
end
theorem lst_ne_tup (I : Inv X pins σ H s) {a : Addr} {vs ws : List V} (h : H a = some (.lst vs)) (h' : SqT X.K H a ws) : False := by
  obtain ⟨i1, r1, ⟨o1, q1, q2, _⟩, _⟩ := Inv.dlist I h
  obtain ⟨i2, r2, ⟨o2, p1, p2, _⟩, _⟩ := I.tuple h'
  rw [q1] at p1
  cases p1
  rw [q2] at p2
  exact absurd p2 (by decide)
mutual
/-- the data that a value bears is one -/
theorem rep_inj (I : Inv X pins σ H s) (sub : Same G H) : ∀ (d e : D) (v : V), simple d = true → simple e = true → Rep X.K G d v → Rep X.K G e v → d = e
  | .non, e, v, _, he, hv, hw => by
    have hv : v = .non := hv
    subst hv
    cases e <;> first | rfl | (simp [Rep] at hw) | exact absurd he (by simp [simple])
  | .bl b, e, v, _, he, hv, hw => by
    have hv : v = .bl b := hv
    subst hv
    cases e <;> first | (simp [Rep] at hw; done) | (simp [Rep] at hw; rw [hw]) | exact absurd he (by simp [simple])
  | .int b, e, v, _, he, hv, hw => by
    have hv : v = .int b := hv
    subst hv
    cases e <;> first | (simp [Rep] at hw; done) | (simp [Rep] at hw; rw [hw]) | exact absurd he (by simp [simple])
  | .str b, e, v, _, he, hv, hw => by
    have hv : v = .str b := hv
    subst hv
    cases e <;> first | (simp [Rep] at hw; done) | (simp [Rep] at hw; rw [hw]) | exact absurd he (by simp [simple])
  | .tup xs, e, v, hd, he, ⟨a, vs, h1, h2, h3⟩, hw => by
    subst h1
    cases e with
    | tup ys =>
      obtain ⟨b, ws, k1, k2, k3⟩ := hw
      cases k1
      have e := I.tuple_inj (same_seqT sub h2) (same_seqT sub k2)
      subst e
      rw [repL_inj I sub xs ys _ (by simpa [simple] using hd) (by simpa [simple] using he) h3 k3]
    | lst ys =>
      obtain ⟨b, ws, k1, k2, k3⟩ := hw
      cases k1
      exact (lst_ne_tup I (sub _ _ k2) (same_seqT sub h2)).elim
    | _ => first | (simp [Rep] at hw; done) | exact absurd he (by simp [simple])
  | .lst xs, e, v, hd, he, ⟨a, vs, h1, h2, h3⟩, hw => by
    subst h1
    cases e with
    | lst ys =>
      obtain ⟨b, ws, k1, k2, k3⟩ := hw
      cases k1
      rw [h2] at k2
      cases k2
      rw [repL_inj I sub xs ys _ (by simpa [simple] using hd) (by simpa [simple] using he) h3 k3]
    | tup ys =>
      obtain ⟨b, ws, k1, k2, k3⟩ := hw
      cases k1
      exact (lst_ne_tup I (sub _ _ h2) (same_seqT sub k2)).elim
    | _ => first | (simp [Rep] at hw; done) | exact absurd he (by simp [simple])
  | .dict _, _, _, h, _, _, _ => absurd h (by simp [simple])
  | .set _, _, _, h, _, _, _ => absurd h (by simp [simple])
  | .ins _ _, _, _, h, _, _, _ => absurd h (by simp [simple])
  | .ty _, _, _, h, _, _, _ => absurd h (by simp [simple])
  | .glo _, _, _, h, _, _, _ => absurd h (by simp [simple])
  | .nd _, _, _, h, _, _, _ => absurd h (by simp [simple])
  | .exc _ _, _, _, h, _, _, _ => absurd h (by simp [simple])
  | .mut _, _, _, h, _, _, _ => absurd h (by simp [simple])
theorem repL_inj (I : Inv X pins σ H s) (sub : Same G H) : ∀ (ds es : List D) (vs : List V), simpleL ds = true → simpleL es = true → RepL X.K G ds vs → RepL X.K G es vs → ds = es
  | [], es, vs, _, _, h, h' => by
    have h : vs = [] := h
    subst h
    cases es with
    | nil => rfl
    | cons e es => obtain ⟨_, _, q, _⟩ := h'; cases q
  | d :: ds, es, vs, hd, he, ⟨v, r, h1, h2, h3⟩, h' => by
    subst h1
    cases es with
    | nil => have h' : v :: r = [] := h'; cases h'
    | cons e es =>
      obtain ⟨w, q, k1, k2, k3⟩ := h'
      cases k1
      obtain ⟨a1, a2⟩ := Bool.and_eq_true_iff.mp (show (simple d && simpleL ds) = true from hd)
      obtain ⟨b1, b2⟩ := Bool.and_eq_true_iff.mp (show (simple e && simpleL es) = true from he)
      rw [rep_inj I sub d e v a1 b1 h2 k2, repL_inj I sub ds es r a2 b2 h3 k3]
end
section
variable {A : Around}
abbrev Each (X : Cx) (G : Hp) (A : Around) (s : Shared) (xs ys : List D) : Prop := ∀ (i : Nat) (d e : D) (w w' : V) (u' v' : Value), xs[i]? = some d → ys[i]? = some e → Rep X.K G d w → Rep X.K G e w' → True → True → RelV w u' → RelV w' v' → EqB A.in1 s u' v' (eqD d e)
theorem items_at {xs : List D} {vs : List V} {its : List Value} (l : RepL X.K G xs vs) (r : Vals vs its) {j : Nat} (h : j < its.toArray.size) : ∃ d w, xs[j]? = some d ∧ Rep X.K G d w ∧ RelV w its.toArray[j] ∧ xs.getD j .non = d := by
  have hj : j < xs.length := by rw [← l.length, r.length]; simpa using h
  obtain ⟨w, e1, e2⟩ := l.get (List.getElem?_eq_getElem hj)
  obtain ⟨u, e3, e4⟩ := r.get e1
  have e5 : its.toArray[j] = u := by
    obtain ⟨_, q⟩ := List.getElem?_eq_some_iff.mp e3
    simpa using q
  exact ⟨xs[j], w, List.getElem?_eq_getElem hj, e2, by rw [e5]; exact e4, by simp [List.getD, List.getElem?_eq_getElem hj]⟩
theorem tups_eq (I : Inv X pins σ H s) (sub : Same G H) {xs ys : List D} {vs ws : List V} {a b : Addr} (sx : simpleL xs = true) (sy : simpleL ys = true) (l : RepL X.K G xs vs) (m : RepL X.K G ys ws) (h : SqT X.K G a vs) (k : SqT X.K G b ws) (hu : A.units < cLine)
    (ih : Each X G A s xs ys) : EqB A s (.ref a) (.ref b) (eqDL xs ys) := by
  obtain ⟨its, r, pl, hz⟩ := I.tuple (same_seqT sub h)
  obtain ⟨jts, r', pl', hz'⟩ := I.tuple (same_seqT sub k)
  have e : ((List.range (min its.toArray.size jts.toArray.size)).all (fun i => eqD (xs.getD i .non) (ys.getD i .non)) && its.toArray.size == jts.toArray.size) = eqDL xs ys := by
    have e1 : its.toArray.size = xs.length := by rw [← l.length, r.length]; simp
    have e2 : jts.toArray.size = ys.length := by rw [← m.length, r'.length]; simp
    rw [e1, e2]
    exact eqDL_range2
  have rc : SeqAt.RcAt A s (.ref a) (.ref b) (eqDL xs ys) := by
    rw [← e]
    refine SeqAt.RcAt.tuples (e := fun i => eqD (xs.getD i .non) (ys.getD i .non)) pl pl' hu fun j h1 h2 => ?_
    obtain ⟨d, w, q1, q2, q3, q4⟩ := items_at l r h1
    obtain ⟨d', w', p1, p2, p3, p4⟩ := items_at m r' h2
    rw [q4, p4]
    exact (ih j d d' w w' _ _ q1 p1 q2 p2 trivial trivial q3 p3).2
  refine ⟨rc, ?_⟩
  by_cases hab : a = b
  · subst hab
    have e1 := I.tuple_inj (same_seqT sub h) (same_seqT sub k)
    subst e1
    rw [repL_inj I sub xs ys _ sx sy l m, eqDL_refl ys sy]
    exact .same _
  · exact .of_refs hab rc
theorem lsts_eq (I : Inv X pins σ H s) (sub : Same G H) {xs ys : List D} {vs ws : List V} {a b : Addr} (sx : simpleL xs = true) (sy : simpleL ys = true) (l : RepL X.K G xs vs) (m : RepL X.K G ys ws) (h : H a = some (.lst vs)) (k : H b = some (.lst ws)) (hu : A.units < cLine)
    (ih : Each X G A s xs ys) : EqB A s (.ref a) (.ref b) (eqDL xs ys) := by
  obtain ⟨its, r, pl, hz⟩ := Inv.dlist I h
  obtain ⟨jts, r', pl', hz'⟩ := Inv.dlist I k
  have e1 : its.toArray.size = xs.length := by rw [← l.length, r.length]; simp
  have e2 : jts.toArray.size = ys.length := by rw [← m.length, r'.length]; simp
  have rc : SeqAt.RcAt A s (.ref a) (.ref b) (eqDL xs ys) := by
    by_cases hl : xs.length = ys.length
    · rw [← eqDL_range hl, ← e1]
      refine SeqAt.RcAt.lists (e := fun i => eqD (xs.getD i .non) (ys.getD i .non)) pl pl' (by rw [e1, e2, hl]) hu fun j h1 h2 => ?_
      obtain ⟨d, w, q1, q2, q3, q4⟩ := items_at l r h1
      obtain ⟨d', w', p1, p2, p3, p4⟩ := items_at m r' h2
      rw [q4, p4]
      exact (ih j d d' w w' _ _ q1 p1 q2 p2 trivial trivial q3 p3).2
    · rw [eqDL_len hl]
      exact SeqAt.RcAt.lists_lengths pl pl' (by rw [e1, e2]; simpa using hl) hu
  refine ⟨rc, ?_⟩
  by_cases hab : a = b
  · subst hab
    rw [h] at k
    cases k
    rw [repL_inj I sub xs ys _ sx sy l m, eqDL_refl ys sy]
    exact .same _
  · exact .of_refs hab rc
end
theorem eqAt_n (I : Inv X pins σ H s) (sub : Same G H) : ∀ (n : Nat) (dx dy : D) (A : Around) (x y : V) (u v : Value), dep dx < n → simple dx = true → simple dy = true → Rep X.K G dx x → Rep X.K G dy y → RelV x u → RelV y v → A.units + min (dep dx) (dep dy) < cLine →
    EqB A s u v (eqD dx dy)
  | 0, _, _, _, _, _, _, _, h, _, _, _, _, _, _, _ => absurd h (Nat.not_lt_zero _)
  | n + 1, .non, dy, A, x, y, u, v, hn, sx, sy, rx, ry, ru, rw, hu => by
    have rx : x = .non := rx; subst rx; cases ru
    cases dy with
    | non => have ry : y = .non := ry; subst ry; cases rw; exact ⟨.none_none, .same _⟩
    | bl q => have ry : y = .bl q := ry; subst ry; cases rw; exact ⟨.none_bool q, .none_bool q⟩
    | int q => have ry : y = .int q := ry; subst ry; obtain ⟨tq, rfl⟩ := rw; exact ⟨.none_int q tq, .none_int q tq⟩
    | str q => have ry : y = .str q := ry; subst ry; obtain ⟨tq, rfl⟩ := rw; exact ⟨.none_str q tq, .none_str q tq⟩
    | tup q => obtain ⟨aq, vsq, rfl, hq, lq⟩ := ry; cases rw; obtain ⟨itsq, rq, plq, hzq⟩ := I.tuple (same_seqT sub hq); exact ⟨.none_tuple plq (by have := hu; simp only [dep] at this; omega), .none_tuple plq (by have := hu; simp only [dep] at this; omega)⟩
    | lst q => obtain ⟨aq, vsq, rfl, hq, lq⟩ := ry; cases rw; obtain ⟨itsq, rq, plq, hzq⟩ := Inv.dlist I (sub _ _ hq); exact ⟨.none_list plq (by have := hu; simp only [dep] at this; omega), .none_list plq (by have := hu; simp only [dep] at this; omega)⟩
    | _ => exact absurd sy (by simp [simple])
  | n + 1, .bl p, dy, A, x, y, u, v, hn, sx, sy, rx, ry, ru, rw, hu => by
    have rx : x = .bl p := rx; subst rx; cases ru
    cases dy with
    | non => have ry : y = .non := ry; subst ry; cases rw; exact ⟨.bool_none p, .bool_none p⟩
    | bl q => have ry : y = .bl q := ry; subst ry; cases rw; exact ⟨.bool_bool p q, .bool_bool p q⟩
    | int q => have ry : y = .int q := ry; subst ry; obtain ⟨tq, rfl⟩ := rw; exact ⟨.bool_int p q tq, .bool_int p q tq⟩
    | str q => have ry : y = .str q := ry; subst ry; obtain ⟨tq, rfl⟩ := rw; exact ⟨.bool_str p q tq, .bool_str p q tq⟩
    | tup q => obtain ⟨aq, vsq, rfl, hq, lq⟩ := ry; cases rw; obtain ⟨itsq, rq, plq, hzq⟩ := I.tuple (same_seqT sub hq); exact ⟨.bool_tuple p plq (by have := hu; simp only [dep] at this; omega), .bool_tuple p plq (by have := hu; simp only [dep] at this; omega)⟩
    | lst q => obtain ⟨aq, vsq, rfl, hq, lq⟩ := ry; cases rw; obtain ⟨itsq, rq, plq, hzq⟩ := Inv.dlist I (sub _ _ hq); exact ⟨.bool_list p plq (by have := hu; simp only [dep] at this; omega), .bool_list p plq (by have := hu; simp only [dep] at this; omega)⟩
    | _ => exact absurd sy (by simp [simple])
  | n + 1, .int p, dy, A, x, y, u, v, hn, sx, sy, rx, ry, ru, rw, hu => by
    have rx : x = .int p := rx; subst rx; obtain ⟨tp, rfl⟩ := ru
    cases dy with
    | non => have ry : y = .non := ry; subst ry; cases rw; exact ⟨.int_none p tp, .int_none p tp⟩
    | bl q => have ry : y = .bl q := ry; subst ry; cases rw; exact ⟨.int_bool p tp q, .int_bool p tp q⟩
    | int q => have ry : y = .int q := ry; subst ry; obtain ⟨tq, rfl⟩ := rw; exact ⟨.int_int p tp q tq, .int_int p tp q tq⟩
    | str q => have ry : y = .str q := ry; subst ry; obtain ⟨tq, rfl⟩ := rw; exact ⟨.int_str p tp q tq, .int_str p tp q tq⟩
    | tup q => obtain ⟨aq, vsq, rfl, hq, lq⟩ := ry; cases rw; obtain ⟨itsq, rq, plq, hzq⟩ := I.tuple (same_seqT sub hq); exact ⟨.int_tuple p tp plq (by have := hu; simp only [dep] at this; omega), .int_tuple p tp plq (by have := hu; simp only [dep] at this; omega)⟩
    | lst q => obtain ⟨aq, vsq, rfl, hq, lq⟩ := ry; cases rw; obtain ⟨itsq, rq, plq, hzq⟩ := Inv.dlist I (sub _ _ hq); exact ⟨.int_list p tp plq (by have := hu; simp only [dep] at this; omega), .int_list p tp plq (by have := hu; simp only [dep] at this; omega)⟩
    | _ => exact absurd sy (by simp [simple])
  | n + 1, .str p, dy, A, x, y, u, v, hn, sx, sy, rx, ry, ru, rw, hu => by
    have rx : x = .str p := rx; subst rx; obtain ⟨tp, rfl⟩ := ru
    cases dy with
    | non => have ry : y = .non := ry; subst ry; cases rw; exact ⟨.str_none p tp, .str_none p tp⟩
    | bl q => have ry : y = .bl q := ry; subst ry; cases rw; exact ⟨.str_bool p tp q, .str_bool p tp q⟩
    | int q => have ry : y = .int q := ry; subst ry; obtain ⟨tq, rfl⟩ := rw; exact ⟨.str_int p tp q tq, .str_int p tp q tq⟩
    | str q => have ry : y = .str q := ry; subst ry; obtain ⟨tq, rfl⟩ := rw; exact ⟨.str_str p tp q tq, .str_str p tp q tq⟩
    | tup q => obtain ⟨aq, vsq, rfl, hq, lq⟩ := ry; cases rw; obtain ⟨itsq, rq, plq, hzq⟩ := I.tuple (same_seqT sub hq); exact ⟨.str_tuple p tp plq (by have := hu; simp only [dep] at this; omega), .str_tuple p tp plq (by have := hu; simp only [dep] at this; omega)⟩
    | lst q => obtain ⟨aq, vsq, rfl, hq, lq⟩ := ry; cases rw; obtain ⟨itsq, rq, plq, hzq⟩ := Inv.dlist I (sub _ _ hq); exact ⟨.str_list p tp plq (by have := hu; simp only [dep] at this; omega), .str_list p tp plq (by have := hu; simp only [dep] at this; omega)⟩
    | _ => exact absurd sy (by simp [simple])
  | n + 1, .tup p, dy, A, x, y, u, v, hn, sx, sy, rx, ry, ru, rw, hu => by
    obtain ⟨ap, vsp, rfl, hp, lp⟩ := rx; cases ru; obtain ⟨itsp, rp, plp, hzp⟩ := I.tuple (same_seqT sub hp)
    cases dy with
    | non => have ry : y = .non := ry; subst ry; cases rw; exact ⟨.tuple_none plp (by have := hu; simp only [dep] at this; omega), .tuple_none plp (by have := hu; simp only [dep] at this; omega)⟩
    | bl q => have ry : y = .bl q := ry; subst ry; cases rw; exact ⟨.tuple_bool q plp (by have := hu; simp only [dep] at this; omega), .tuple_bool q plp (by have := hu; simp only [dep] at this; omega)⟩
    | int q => have ry : y = .int q := ry; subst ry; obtain ⟨tq, rfl⟩ := rw; exact ⟨.tuple_int q tq plp (by have := hu; simp only [dep] at this; omega), .tuple_int q tq plp (by have := hu; simp only [dep] at this; omega)⟩
    | str q => have ry : y = .str q := ry; subst ry; obtain ⟨tq, rfl⟩ := rw; exact ⟨.tuple_str q tq plp (by have := hu; simp only [dep] at this; omega), .tuple_str q tq plp (by have := hu; simp only [dep] at this; omega)⟩
    | tup q =>
      obtain ⟨aq, vsq, rfl, hq, lq⟩ := ry; cases rw; obtain ⟨itsq, rq, plq, hzq⟩ := I.tuple (same_seqT sub hq)
      exact tups_eq I sub (s := s) (by simpa [simple] using sx) (by simpa [simple] using sy) lp lq hp hq (by have := hu; simp only [dep] at this; omega) fun i d e w w' u' v' e1 e2 m1 m2 n1 n2 k1 k2 => eqAt_n I sub n d e A.in1 w w' u' v' (by have h1 := depL_mem e1; have := hn; simp only [dep] at this; omega) (simpleL_mem (by simpa [simple] using sx) e1) (simpleL_mem (by simpa [simple] using sy) e2) m1 m2 k1 k2 (by have h1 := depL_mem e1; have h2 := depL_mem e2; have := hu; simp only [dep] at this; show A.units + 1 + _ < _; omega)
    | lst q => obtain ⟨aq, vsq, rfl, hq, lq⟩ := ry; cases rw; obtain ⟨itsq, rq, plq, hzq⟩ := Inv.dlist I (sub _ _ hq); exact ⟨.tuple_list plp plq (by have := hu; simp only [dep] at this; omega), .tuple_list plp plq (by have := hu; simp only [dep] at this; omega)⟩
    | _ => exact absurd sy (by simp [simple])
  | n + 1, .lst p, dy, A, x, y, u, v, hn, sx, sy, rx, ry, ru, rw, hu => by
    obtain ⟨ap, vsp, rfl, hp, lp⟩ := rx; cases ru; obtain ⟨itsp, rp, plp, hzp⟩ := Inv.dlist I (sub _ _ hp)
    cases dy with
    | non => have ry : y = .non := ry; subst ry; cases rw; exact ⟨.list_none plp (by have := hu; simp only [dep] at this; omega), .list_none plp (by have := hu; simp only [dep] at this; omega)⟩
    | bl q => have ry : y = .bl q := ry; subst ry; cases rw; exact ⟨.list_bool q plp (by have := hu; simp only [dep] at this; omega), .list_bool q plp (by have := hu; simp only [dep] at this; omega)⟩
    | int q => have ry : y = .int q := ry; subst ry; obtain ⟨tq, rfl⟩ := rw; exact ⟨.list_int q tq plp (by have := hu; simp only [dep] at this; omega), .list_int q tq plp (by have := hu; simp only [dep] at this; omega)⟩
    | str q => have ry : y = .str q := ry; subst ry; obtain ⟨tq, rfl⟩ := rw; exact ⟨.list_str q tq plp (by have := hu; simp only [dep] at this; omega), .list_str q tq plp (by have := hu; simp only [dep] at this; omega)⟩
    | tup q => obtain ⟨aq, vsq, rfl, hq, lq⟩ := ry; cases rw; obtain ⟨itsq, rq, plq, hzq⟩ := I.tuple (same_seqT sub hq); exact ⟨.list_tuple plp plq (by have := hu; simp only [dep] at this; omega), .list_tuple plp plq (by have := hu; simp only [dep] at this; omega)⟩
    | lst q =>
      obtain ⟨aq, vsq, rfl, hq, lq⟩ := ry; cases rw; obtain ⟨itsq, rq, plq, hzq⟩ := Inv.dlist I (sub _ _ hq)
      exact lsts_eq I sub (s := s) (by simpa [simple] using sx) (by simpa [simple] using sy) lp lq (sub _ _ hp) (sub _ _ hq) (by have := hu; simp only [dep] at this; omega) fun i d e w w' u' v' e1 e2 m1 m2 n1 n2 k1 k2 => eqAt_n I sub n d e A.in1 w w' u' v' (by have h1 := depL_mem e1; have := hn; simp only [dep] at this; omega) (simpleL_mem (by simpa [simple] using sx) e1) (simpleL_mem (by simpa [simple] using sy) e2) m1 m2 k1 k2 (by have h1 := depL_mem e1; have h2 := depL_mem e2; have := hu; simp only [dep] at this; show A.units + 1 + _ < _; omega)
    | _ => exact absurd sy (by simp [simple])
  | _ + 1, .dict kvs, _, _, _, _, _, _, _, sx, _, _, _, _, _, _ => absurd sx (by simp [simple])
  | _ + 1, .set xs, _, _, _, _, _, _, _, sx, _, _, _, _, _, _ => absurd sx (by simp [simple])
  | _ + 1, .ins C fs, _, _, _, _, _, _, _, sx, _, _, _, _, _, _ => absurd sx (by simp [simple])
  | _ + 1, .ty n, _, _, _, _, _, _, _, sx, _, _, _, _, _, _ => absurd sx (by simp [simple])
  | _ + 1, .glo x, _, _, _, _, _, _, _, sx, _, _, _, _, _, _ => absurd sx (by simp [simple])
  | _ + 1, .nd x, _, _, _, _, _, _, _, sx, _, _, _, _, _, _ => absurd sx (by simp [simple])
  | _ + 1, .exc C fs, _, _, _, _, _, _, _, sx, _, _, _, _, _, _ => absurd sx (by simp [simple])
  | _ + 1, .mut d, _, _, _, _, _, _, _, sx, _, _, _, _, _, _ => absurd sx (by simp [simple])
theorem eqAt_D (I : Inv X pins σ H s) (sub : Same G H) {dx dy : D} {A : Around} {x y : V} {u v : Value} (sx : simple dx = true) (sy : simple dy = true) (rx : Rep X.K G dx x) (ry : Rep X.K G dy y) (ru : RelV x u) (rw : RelV y v) (hu : A.units + min (dep dx) (dep dy) < cLine) :
    EqB A s u v (eqD dx dy) := eqAt_n I sub (dep dx + 1) dx dy A x y u v (Nat.lt_succ_self _) sx sy rx ry ru rw hu
end
end DL
namespace DL
open PySem PySem.Spec PyProof.Rows L2
variable [TheW]
/-! ### arguments, displays -/
def LINE : Nat := sizeLine
def pNil : P (List D) := fun _ => .ok []
def pCons (f : P D) (g : P (List D)) : P (List D) := fun ρ => (f ρ).bind fun x => (g ρ).bind fun xs => .ok (x :: xs)
/-- *e in a display -/
def pStar (f : P D) (g : P (List D)) : P (List D) := fun ρ => (f ρ).bind fun x => match x with
  | .tup ds => (g ρ).bind fun xs => .ok (ds ++ xs)
  | .lst ds => (g ρ).bind fun xs => .ok (ds ++ xs)
  | _ => .stuck
def mkTup (ds : List D) : Res D := if ds.length ≤ LINE then .ok (.tup ds) else .stuck
def mkLst (ds : List D) : Res D := if ds.length ≤ LINE then .ok (.lst ds) else .stuck
def pTup (f : P (List D)) : P D := fun ρ => (f ρ).bind mkTup
def pLst (f : P (List D)) : P D := fun ρ => (f ρ).bind mkLst
theorem RepL.append {K : PySem.W.Frag} {G : Hp} : ∀ {ds es : List D} {vs ws : List V}, RepL K G ds vs → RepL K G es ws → RepL K G (ds ++ es) (vs ++ ws)
  | [], _, _, _, h, h' => by have h : _ = [] := h; subst h; exact h'
  | d :: ds, _, _, _, ⟨v, r, h1, h2, h3⟩, h' => by subst h1; exact ⟨v, r ++ _, rfl, h2, RepL.append h3 h'⟩
section
variable {c : Ct} {W : WX} {X : Cx} {a b e : Expr} {es : List Expr} {f g : P D} {fs : P (List D)} {pos p : Pos} {x : Str}
theorem da_nil : DA c W X [] pNil := PA.imp pa_nil fun σ H Q ⟨G, ρ, A, p⟩ => p [] G H (.refl A.sub) rfl
theorem da_cons (he : DP c W X e f) (hs : DA c W X es fs) (h : starEach (e :: es) X.env = (false, eval e X.env) :: starEach es X.env := by rfl) : DA c W X (e :: es) (pCons f fs) :=
  PA.imp (pa_cons he hs h) fun σ H Q ⟨G, ρ, A, p⟩ => ⟨G, ρ, A, (PostP.bind p).imp fun x H1 ⟨dx, G1, g1, r1, p1⟩ => ⟨G1, ρ, A.grow g1, (PostP.bind p1).imp fun xs H2 ⟨ds, G2, g2, r2, p2⟩ =>
    p2 (x :: xs) G2 H2 (.refl g2.s) ⟨x, xs, rfl, Rep.mono g2.g _ r1, r2⟩⟩⟩
theorem dp_tup {x1} (h : DA c W X es fs) : DP c W X (.Tuple es x1 pos) (pTup fs) :=
  PE.imp (pe_tup h) fun σ H Q ⟨G, ρ, A, p⟩ => ⟨G, ρ, A, (PostP.bind p).imp fun xs H1 ⟨ds, G1, g1, r1, p1⟩ => by
    unfold mkTup at p1
    split at p1
    · rename_i hl
      refine ⟨by rw [r1.length]; exact hl, fun q hq => p1 _ (upd G1 q (.tup xs)) _ (.share g1.s hq) ⟨q, xs, rfl, SqT.of upd_same, RepL.mono (Grow.share g1.s hq (o := .tup xs)).g _ r1⟩⟩
    · exact p1.elim⟩
theorem repL_ownL {K : PySem.W.Frag} {G H : Hp} : ∀ {ds : List D} {vs : List V}, RepL K G ds vs → OwnL K G H ds vs []
  | [], _, h => ⟨h, rfl⟩
  | d :: ds, _, ⟨v, r, h1, h2, h3⟩ => ⟨v, r, [], [], h1, (by
      have hm : isMut d = false := by cases d <;> first | rfl | exact h2.elim
      exact (ownV_val hm).mpr ⟨h2, rfl⟩), repL_ownL h3, rfl, by simp⟩
/-- a new list of shared items -/
theorem ro_lst {K : PySem.W.Frag} {G H : Hp} {ds : List D} {vs : List V} {q : Addr} (s : Same G H) (hq : H q = none) (r : RepL K G ds vs) : ro K H (.lst ds) (.ref q) G (upd H q (.lst vs)) :=
  ⟨[q], ⟨q, vs, [], rfl, upd_same, repL_ownL r, rfl, by simp⟩, fun a ha => by
    have ha : a = q := by simpa using ha
    subst ha
    exact ⟨s.free hq, hq⟩⟩
theorem dn_lst (h : DA c W X es fs) : DN c W X (.List es pos) (pLst fs) :=
  PE.imp (pe_lst h) fun σ H Q ⟨G, ρ, A, p⟩ => ⟨G, ρ, A, (PostP.bind p).imp fun xs H1 ⟨ds, G1, g1, r1, p1⟩ => by
    unfold mkLst at p1
    split at p1
    · rename_i hl
      refine ⟨by rw [r1.length]; exact hl, fun q hq => p1 _ G1 _ (.new g1.s hq) ?_⟩
      exact steady_ro.back g1 (ro_lst g1.s hq r1)
    · exact p1.elim⟩
/-! ### a new list is shared -/
def frz : D → Res D
  | .lst ds => match noMutL ds with
    | true => .ok (.lst ds)
    | false => .stuck
  | _ => .stuck
def pFrz (f : P D) : P D := fun ρ => (f ρ).bind frz
theorem upd_share {G1 H1 : Hp} (s : Same G1 H1) {q : Addr} {o : HO} (n1 : G1 q = none) (h2 : H1 q = some o) : Same G1 (upd G1 q o) ∧ Same (upd G1 q o) H1 := by
  refine ⟨fun b o e => by rw [upd_ne (ne_of_none e n1)]; exact e, fun b u e => ?_⟩
  by_cases hb : b = q
  · subst hb; rw [upd_same] at e; rw [← e]; exact h2
  · rw [upd_ne hb] at e; exact s _ _ e
end
end DL
namespace DL
open PySem PySem.Spec PyProof.Rows L2
variable [TheW]
/-! ### the operators -/
section
variable {X : Cx} {K : PySem.W.Frag}
def intsD (g : Int → Int → Res D) : D → D → Res D
  | .int i, .int j => g i j
  | _, _ => .stuck
theorem opd_ints {C : Int → Int → Prop} {g : Int → Int → V} {k : Int → Int → Res D} (h : ∀ i j G H Q, Same G H → PostV (rv K) G H Q (k i j) → C i j ∧ Q (g i j) H) : OpD K (rv K) (rI C g) (intsD k) := fun G H x y dx dy Q s rx ry q => by
  cases dx with
  | int i => cases dy with
    | int j =>
      have rx : x = .int i := rx
      have ry : y = .int j := ry
      exact ⟨i, j, rx, ry, h i j G H Q s q⟩
    | _ => exact q.elim
  | _ => cases dy <;> exact q.elim
theorem opd_ints0 {g : Int → Int → V} {k : Int → Int → Res D} (h : ∀ i j G H Q, Same G H → PostV (rv K) G H Q (k i j) → Q (g i j) H) : OpD K (rv K) (rI0 g) (intsD k) := fun G H x y dx dy Q s rx ry q => by
  cases dx with
  | int i => cases dy with
    | int j =>
      have rx : x = .int i := rx
      have ry : y = .int j := ry
      exact ⟨i, j, rx, ry, h i j G H Q s q⟩
    | _ => exact q.elim
  | _ => cases dy <;> exact q.elim
def strsD (g : Str → Str → Res D) : D → D → Res D
  | .str i, .str j => g i j
  | _, _ => .stuck
def tupsD (g : List D → List D → Res D) : D → D → Res D
  | .tup i, .tup j => g i j
  | _, _ => .stuck
def lstsD (g : List D → List D → Res D) : D → D → Res D
  | .lst i, .lst j => g i j
  | _, _ => .stuck
/-- a + b -/
def addD : D → D → Res D
  | .int i, .int j => .ok (.int (i + j))
  | .str x, .str y => if x.length + y.length ≤ LINE then .ok (.str (x ++ y)) else .stuck
  | .tup xs, .tup ys => if xs.length + ys.length ≤ LINE then .ok (.tup (xs ++ ys)) else .stuck
  | .lst xs, .lst ys => if xs.length + ys.length ≤ LINE then .ok (.lst (xs ++ ys)) else .stuck
  | _, _ => .stuck
theorem addD_quiet : Quiet addD := fun x y z fs => by
  unfold addD
  split <;> first | (split <;> intro h <;> cases h) | (intro h; cases h)
def rStrCat : R2 := fun x y H Q => ∃ i j, x = .str i ∧ y = .str j ∧ i.length + j.length ≤ sizeLine ∧ Q (.str (i ++ j)) H
theorem op_addD : OpR X (binaryOp .Add) (fun x y H Q => ((rI0 (fun i j => .int (i + j)) x y H Q ∨ rStrCat x y H Q) ∨ rCatA X.K x y H Q) ∨ rCat x y H Q) := ((op_add.or op_add_str).or op_catA).or op_cat
theorem opd_add : OpD K (rv K) (fun x y H Q => ((rI0 (fun i j => .int (i + j)) x y H Q ∨ rStrCat x y H Q) ∨ rCatA K x y H Q) ∨ rCat x y H Q) addD := by
  intro G H x y dx dy Q s rx ry q
  unfold addD at q
  split at q
  · rename_i i j
    have rx : x = .int i := rx
    have ry : y = .int j := ry
    exact .inl (.inl (.inl ⟨i, j, rx, ry, q _ G H (.refl s) rfl⟩))
  · rename_i i j
    have rx : x = .str i := rx
    have ry : y = .str j := ry
    split at q
    · rename_i hl
      exact .inl (.inl (.inr ⟨i, j, rx, ry, hl, q _ G H (.refl s) rfl⟩))
    · exact q.elim
  · rename_i i j
    split at q
    · rename_i hl
      obtain ⟨a, vs, rfl, h2, h3⟩ := rx
      obtain ⟨b, ws, rfl, k2, k3⟩ := ry
      refine .inl (.inr ⟨a, b, vs, ws, rfl, rfl, same_seqT s h2, same_seqT s k2, by rw [h3.length, k3.length]; exact hl, ?_⟩)
      refine ⟨fun e => ?_, fun e1 e2 => ?_, fun e1 e2 p hp => ?_⟩
      · subst e
        have e2 : i = [] := by cases i with
          | nil => rfl
          | cons d ds => obtain ⟨_, _, z, _⟩ := h3; cases z
        subst e2
        exact q _ G H (.refl s) ⟨b, ws, rfl, k2, k3⟩
      · subst e2
        have e3 : j = [] := by cases j with
          | nil => rfl
          | cons d ds => obtain ⟨_, _, z, _⟩ := k3; cases z
        subst e3
        rw [List.append_nil] at q
        exact q _ G H (.refl s) ⟨a, vs, rfl, h2, h3⟩
      · exact q _ (upd G p (.tup (vs ++ ws))) _ (.share s hp) ⟨p, vs ++ ws, rfl, SqT.of upd_same, RepL.mono (Grow.share s hp (o := .tup (vs ++ ws))).g _ (RepL.append h3 k3)⟩
    · exact q.elim
  · rename_i i j
    split at q
    · rename_i hl
      obtain ⟨a, vs, rfl, h2, h3⟩ := rx
      obtain ⟨b, ws, rfl, k2, k3⟩ := ry
      refine .inr ⟨a, b, vs, ws, rfl, rfl, h2, k2, by rw [h3.length, k3.length]; exact hl, fun p hp => ?_⟩
      exact q _ (upd G p (.lst (vs ++ ws))) _ (.share s hp) ⟨p, vs ++ ws, rfl, upd_same, RepL.mono (Grow.share s hp (o := .lst (vs ++ ws))).g _ (RepL.append h3 k3)⟩
    · exact q.elim
  · exact q.elim
def subD : D → D → Res D := intsD fun i j => .ok (.int (i - j))
def CMulB (i j : Int) : Bool := (decide (-(2 ^ 64) < i) && decide (i < 2 ^ 64)) || (decide (-(2 ^ 64) < j) && decide (j < 2 ^ 64))
/-- a * b: ints (one within 2 ^ 64); a list, a number -/
def mulD : D → D → Res D
  | .int i, .int j => if CMulB i j = true then .ok (.int (i * j)) else .stuck
  | .lst xs, .int k => if -(2 ^ 63) ≤ k ∧ k < 2 ^ 63 ∧ xs.length * k.toNat ≤ LINE then .ok (.lst (List.replicate k.toNat xs).flatten) else .stuck
  | _, _ => .stuck
def fdivD : D → D → Res D := intsD fun i j => if 0 < j ∧ j < 1073741824 then .ok (.int (i / j)) else .stuck
def modD : D → D → Res D := intsD fun i j => if 0 < j then .ok (.int (i % j)) else .stuck
def powD : D → D → Res D := intsD fun i j => if 0 ≤ j ∧ j ≤ 1000000 ∧ i.natAbs < 2 ^ 64 then .ok (.int (i ^ j.toNat)) else .stuck
theorem intsD_quiet {k : Int → Int → Res D} (h : ∀ i j z fs, k i j ≠ .exn z fs) : Quiet (intsD k) := fun x y z fs => by
  unfold intsD
  split
  · exact h _ _ z fs
  · intro h; cases h
theorem subD_quiet : Quiet subD := intsD_quiet fun _ _ _ _ h => by cases h
theorem fdivD_quiet : Quiet fdivD := intsD_quiet fun _ _ _ _ h => by split at h <;> cases h
theorem modD_quiet : Quiet modD := intsD_quiet fun _ _ _ _ h => by split at h <;> cases h
theorem powD_quiet : Quiet powD := intsD_quiet fun _ _ _ _ h => by split at h <;> cases h
theorem mulD_quiet : Quiet mulD := fun x y z fs h => by
  unfold mulD at h
  split at h <;> first | (split at h <;> cases h) | cases h
theorem opd_sub : OpD K (rv K) (rI0 fun i j => .int (i - j)) subD := opd_ints0 fun i j G H Q s q => q _ G H (.refl s) rfl
theorem opd_fdiv : OpD K (rv K) (rI CDiv fun i j => .int (i / j)) fdivD := opd_ints fun i j G H Q s q => by
  split at q
  · rename_i h; exact ⟨h, q _ G H (.refl s) rfl⟩
  · exact q.elim
theorem opd_mod : OpD K (rv K) (rI (fun _ j => 0 < j) fun i j => .int (i % j)) modD := opd_ints fun i j G H Q s q => by
  split at q
  · rename_i h; exact ⟨h, q _ G H (.refl s) rfl⟩
  · exact q.elim
theorem opd_pow : OpD K (rv K) (rI CPow fun i j => .int (i ^ j.toNat)) powD := opd_ints fun i j G H Q s q => by
  split at q
  · rename_i h; exact ⟨h, q _ G H (.refl s) rfl⟩
  · exact q.elim
theorem repL_rep {G : Hp} {ds : List D} {vs : List V} (h : RepL K G ds vs) : ∀ n, RepL K G (List.replicate n ds).flatten (List.replicate n vs).flatten
  | 0 => rfl
  | n + 1 => by rw [List.replicate_succ, List.replicate_succ, List.flatten_cons, List.flatten_cons]; exact RepL.append h (repL_rep h n)
theorem opd_mul : OpD K (rv K) (fun x y H Q => rI CMul (fun i j => .int (i * j)) x y H Q ∨ rRep x y H Q) mulD := by
  intro G H x y dx dy Q s rx ry q
  unfold mulD at q
  split at q
  · rename_i i j
    have rx : x = .int i := rx
    have ry : y = .int j := ry
    split at q
    · rename_i h
      refine .inl ⟨i, j, rx, ry, ?_, q _ G H (.refl s) rfl⟩
      have h : ((decide (-(2 ^ 64) < i) && decide (i < 2 ^ 64)) || (decide (-(2 ^ 64) < j) && decide (j < 2 ^ 64))) = true := h
      rcases Bool.or_eq_true_iff.mp h with z | z
      · obtain ⟨z1, z2⟩ := Bool.and_eq_true_iff.mp z
        exact .inl ⟨of_decide_eq_true z1, of_decide_eq_true z2⟩
      · obtain ⟨z1, z2⟩ := Bool.and_eq_true_iff.mp z
        exact .inr ⟨of_decide_eq_true z1, of_decide_eq_true z2⟩
    · exact q.elim
  · rename_i xs k
    split at q
    · rename_i h
      obtain ⟨a, vs, rfl, h2, h3⟩ := rx
      have ry : y = .int k := ry
      refine .inr ⟨a, k, vs, rfl, ry, h2, h.1, h.2.1, by rw [h3.length]; exact h.2.2, fun p hp => ?_⟩
      exact q _ (upd G p (.lst (List.replicate k.toNat vs).flatten)) _ (.share s hp) ⟨p, _, rfl, upd_same, RepL.mono (Grow.share s hp (o := .lst (List.replicate k.toNat vs).flatten)).g _ (repL_rep h3 _)⟩
    · exact q.elim
  · exact q.elim
theorem op_mulD : OpR X (binaryOp .Mult) (fun x y H Q => rI CMul (fun i j => .int (i * j)) x y H Q ∨ rRep x y H Q) := op_mul.or op_rep
/-! ### comparisons -/
def eqOk (x y : D) : Bool := simple x && (simple y && decide (min (dep x) (dep y) ≤ 60))
def eqR (x y : D) : Res D := if eqOk x y = true then .ok (.bl (eqD x y)) else .stuck
def neR (x y : D) : Res D := if eqOk x y = true then .ok (.bl (!eqD x y)) else .stuck
theorem eqR_quiet : Quiet eqR := fun x y z fs h => by unfold eqR at h; split at h <;> cases h
theorem neR_quiet : Quiet neR := fun x y z fs h => by unfold neR at h; split at h <;> cases h
/-- what is read in place is shared in a wider view -/
theorem rdO_rep {G H : Hp} (s : Same G H) {d : D} {v : V} (hs : simple d = true) (h : RdO K G H d v) : ∃ G', Same G G' ∧ Same G' H ∧ Rep K G' d v := by
  cases d with
  | lst ds =>
    obtain ⟨a, vs, h1, h2, h3⟩ := h
    refine ⟨fun b => if b = a then H b else G b, fun b o e => ?_, fun b o e => ?_, a, vs, h1, ?_, ?_⟩
    · show (if b = a then H b else G b) = some o
      split
      · exact s _ _ e
      · exact e
    · have e : (if b = a then H b else G b) = some o := e
      split at e
      · exact e
      · exact s _ _ e
    · show (if a = a then H a else G a) = _
      rw [if_pos rfl]; exact h2
    · refine RepL.mono (fun b o e => ?_) _ h3
      show (if b = a then H b else G b) = some o
      split
      · exact s _ _ e
      · exact e
  | dict kvs => exact absurd hs (by simp [simple])
  | nd kvs => exact absurd hs (by simp [simple])
  | _ => exact ⟨G, .refl _, s, h⟩
def rEqX (X : Cx) (neg : Bool) : R2 := fun x y H Q => ∃ G dx dy, Same G H ∧ simple dx = true ∧ simple dy = true ∧ min (dep dx) (dep dy) ≤ 60 ∧ Rep X.K G dx x ∧ Rep X.K G dy y ∧ Q (.bl (if neg = true then !eqD dx dy else eqD dx dy)) H
theorem op_eqX (hu : X.A.units + 64 < cLine) : OpR X (compareOp .Eq) (rEqX X false) := by
  intro pins s σ H x y v u Q I rx ry h
  obtain ⟨G, dx, dy, sub, sx, sy, hd, qx, qy, q⟩ := h
  exact (eqAt_D I sub sx sy qx qy rx ry (A := X.A) (by omega)).1 X.prog X.w X.xe _ ⟨.bl _, H, I, rfl, q⟩
end
end DL
namespace DL
open PySem PySem.Spec PyProof.Rows L2
variable [TheW]
/-! ### != of data, in -/
section
variable {X : Cx} {pins : List (Addr × Obj)} {σ : L2.St} {G H : Hp} {s : Shared} {A : Around}
theorem each_D (I : Inv X pins σ H s) (sub : Same G H) {xs ys : List D} (sx : simpleL xs = true) (sy : simpleL ys = true) (hu : A.units + 1 + min (depL xs) (depL ys) < cLine) : Each X G A s xs ys := fun i d e w w' u' v' e1 e2 m1 m2 _ _ k1 k2 =>
  eqAt_D I sub (simpleL_mem sx e1) (simpleL_mem sy e2) m1 m2 k1 k2 (by have h1 := depL_mem e1; have h2 := depL_mem e2; show A.units + 1 + _ < _; omega)
theorem tups_ne (I : Inv X pins σ H s) (sub : Same G H) {xs ys : List D} {vs ws : List V} {a b : Addr} (sx : simpleL xs = true) (sy : simpleL ys = true) (l : RepL X.K G xs vs) (m : RepL X.K G ys ws) (h : SqT X.K G a vs) (k : SqT X.K G b ws) (hu : A.units < cLine) (hu2 : A.units + 1 + min (depL xs) (depL ys) < cLine) :
    SeqAt.RcNeAt A s (.ref a) (.ref b) (!eqDL xs ys) := by
  obtain ⟨its, r, pl, hz⟩ := I.tuple (same_seqT sub h)
  obtain ⟨jts, r', pl', hz'⟩ := I.tuple (same_seqT sub k)
  have e : ((List.range (min its.toArray.size jts.toArray.size)).all (fun i => eqD (xs.getD i .non) (ys.getD i .non)) && its.toArray.size == jts.toArray.size) = eqDL xs ys := by
    have e1 : its.toArray.size = xs.length := by rw [← l.length, r.length]; simp
    have e2 : jts.toArray.size = ys.length := by rw [← m.length, r'.length]; simp
    rw [e1, e2]
    exact eqDL_range2
  have q := SeqAt.RcNeAt.tuples (e := fun i => eqD (xs.getD i .non) (ys.getD i .non)) pl pl' hu fun j h1 h2 => by
    obtain ⟨d, w, q1, q2, q3, q4⟩ := items_at l r h1
    obtain ⟨d', w', p1, p2, p3, p4⟩ := items_at m r' h2
    rw [q4, p4]
    exact (each_D I sub sx sy hu2 j d d' w w' _ _ q1 p1 q2 p2 trivial trivial q3 p3).2
  rw [← e]
  exact q
theorem lsts_ne (I : Inv X pins σ H s) (sub : Same G H) {xs ys : List D} {vs ws : List V} {a b : Addr} (sx : simpleL xs = true) (sy : simpleL ys = true) (l : RepL X.K G xs vs) (m : RepL X.K G ys ws) (h : H a = some (.lst vs)) (k : H b = some (.lst ws)) (hu : A.units < cLine) (hu2 : A.units + 1 + min (depL xs) (depL ys) < cLine) :
    SeqAt.RcNeAt A s (.ref a) (.ref b) (!eqDL xs ys) := by
  obtain ⟨its, r, pl, hz⟩ := Inv.dlist I h
  obtain ⟨jts, r', pl', hz'⟩ := Inv.dlist I k
  have e1 : its.toArray.size = xs.length := by rw [← l.length, r.length]; simp
  have e2 : jts.toArray.size = ys.length := by rw [← m.length, r'.length]; simp
  by_cases hl : xs.length = ys.length
  · rw [← eqDL_range hl, ← e1]
    refine SeqAt.RcNeAt.lists (e := fun i => eqD (xs.getD i .non) (ys.getD i .non)) pl pl' (by rw [e1, e2, hl]) hu fun j h1 h2 => ?_
    obtain ⟨d, w, q1, q2, q3, q4⟩ := items_at l r h1
    obtain ⟨d', w', p1, p2, p3, p4⟩ := items_at m r' h2
    rw [q4, p4]
    exact (each_D I sub sx sy hu2 j d d' w w' _ _ q1 p1 q2 p2 trivial trivial q3 p3).2
  · rw [eqDL_len hl]
    exact SeqAt.RcNeAt.lists_lengths pl pl' (by rw [e1, e2]; simpa using hl) hu
theorem neAt_D (I : Inv X pins σ H s) (sub : Same G H) {dx dy : D} {x y : V} {u v : Value} (sx : simple dx = true) (sy : simple dy = true) (rx : Rep X.K G dx x) (ry : Rep X.K G dy y) (ru : RelV x u) (rw : RelV y v) (hu : A.units + min (dep dx) (dep dy) < cLine) :
    SeqAt.RcNeAt A s u v (!eqD dx dy) := by
  cases dx with
  | non =>
    have rx : x = .non := rx; subst rx; cases ru
    cases dy with
    | non => have ry : y = .non := ry; subst ry; cases rw; exact .none_none
    | bl q => have ry : y = .bl q := ry; subst ry; cases rw; exact .none_bool q
    | int q => have ry : y = .int q := ry; subst ry; obtain ⟨tq, rfl⟩ := rw; exact .none_int q tq
    | str q => have ry : y = .str q := ry; subst ry; obtain ⟨tq, rfl⟩ := rw; exact .none_str q tq
    | tup q => obtain ⟨aq, vsq, rfl, hq, lq⟩ := ry; cases rw; obtain ⟨itsq, rq, plq, hzq⟩ := I.tuple (same_seqT sub hq); exact .none_tuple plq (by simp only [dep] at hu; omega)
    | lst q => obtain ⟨aq, vsq, rfl, hq, lq⟩ := ry; cases rw; obtain ⟨itsq, rq, plq, hzq⟩ := Inv.dlist I (sub _ _ hq); exact .none_list plq (by simp only [dep] at hu; omega)
    | _ => exact absurd sy (by simp [simple])
  | bl p =>
    have rx : x = .bl p := rx; subst rx; cases ru
    cases dy with
    | non => have ry : y = .non := ry; subst ry; cases rw; exact .bool_none p
    | bl q => have ry : y = .bl q := ry; subst ry; cases rw; exact .bool_bool p q
    | int q => have ry : y = .int q := ry; subst ry; obtain ⟨tq, rfl⟩ := rw; exact .bool_int p q tq
    | str q => have ry : y = .str q := ry; subst ry; obtain ⟨tq, rfl⟩ := rw; exact .bool_str p q tq
    | tup q => obtain ⟨aq, vsq, rfl, hq, lq⟩ := ry; cases rw; obtain ⟨itsq, rq, plq, hzq⟩ := I.tuple (same_seqT sub hq); exact .bool_tuple p plq (by simp only [dep] at hu; omega)
    | lst q => obtain ⟨aq, vsq, rfl, hq, lq⟩ := ry; cases rw; obtain ⟨itsq, rq, plq, hzq⟩ := Inv.dlist I (sub _ _ hq); exact .bool_list p plq (by simp only [dep] at hu; omega)
    | _ => exact absurd sy (by simp [simple])
  | int p =>
    have rx : x = .int p := rx; subst rx; obtain ⟨tp, rfl⟩ := ru
    cases dy with
    | non => have ry : y = .non := ry; subst ry; cases rw; exact .int_none p tp
    | bl q => have ry : y = .bl q := ry; subst ry; cases rw; exact .int_bool p tp q
    | int q => have ry : y = .int q := ry; subst ry; obtain ⟨tq, rfl⟩ := rw; exact .int_int p tp q tq
    | str q => have ry : y = .str q := ry; subst ry; obtain ⟨tq, rfl⟩ := rw; exact .int_str p tp q tq
    | tup q => obtain ⟨aq, vsq, rfl, hq, lq⟩ := ry; cases rw; obtain ⟨itsq, rq, plq, hzq⟩ := I.tuple (same_seqT sub hq); exact .int_tuple p tp plq (by simp only [dep] at hu; omega)
    | lst q => obtain ⟨aq, vsq, rfl, hq, lq⟩ := ry; cases rw; obtain ⟨itsq, rq, plq, hzq⟩ := Inv.dlist I (sub _ _ hq); exact .int_list p tp plq (by simp only [dep] at hu; omega)
    | _ => exact absurd sy (by simp [simple])
  | str p =>
    have rx : x = .str p := rx; subst rx; obtain ⟨tp, rfl⟩ := ru
    cases dy with
    | non => have ry : y = .non := ry; subst ry; cases rw; exact .str_none p tp
    | bl q => have ry : y = .bl q := ry; subst ry; cases rw; exact .str_bool p tp q
    | int q => have ry : y = .int q := ry; subst ry; obtain ⟨tq, rfl⟩ := rw; exact .str_int p tp q tq
    | str q => have ry : y = .str q := ry; subst ry; obtain ⟨tq, rfl⟩ := rw; exact .str_str p tp q tq
    | tup q => obtain ⟨aq, vsq, rfl, hq, lq⟩ := ry; cases rw; obtain ⟨itsq, rq, plq, hzq⟩ := I.tuple (same_seqT sub hq); exact .str_tuple p tp plq (by simp only [dep] at hu; omega)
    | lst q => obtain ⟨aq, vsq, rfl, hq, lq⟩ := ry; cases rw; obtain ⟨itsq, rq, plq, hzq⟩ := Inv.dlist I (sub _ _ hq); exact .str_list p tp plq (by simp only [dep] at hu; omega)
    | _ => exact absurd sy (by simp [simple])
  | tup p =>
    obtain ⟨ap, vsp, rfl, hp, lp⟩ := rx; cases ru; obtain ⟨itsp, rp, plp, hzp⟩ := I.tuple (same_seqT sub hp)
    cases dy with
    | non => have ry : y = .non := ry; subst ry; cases rw; exact .tuple_none plp (by simp only [dep] at hu; omega)
    | bl q => have ry : y = .bl q := ry; subst ry; cases rw; exact .tuple_bool q plp (by simp only [dep] at hu; omega)
    | int q => have ry : y = .int q := ry; subst ry; obtain ⟨tq, rfl⟩ := rw; exact .tuple_int q tq plp (by simp only [dep] at hu; omega)
    | str q => have ry : y = .str q := ry; subst ry; obtain ⟨tq, rfl⟩ := rw; exact .tuple_str q tq plp (by simp only [dep] at hu; omega)
    | tup q =>
      obtain ⟨aq, vsq, rfl, hq, lq⟩ := ry; cases rw; obtain ⟨itsq, rq, plq, hzq⟩ := I.tuple (same_seqT sub hq)
      exact tups_ne I sub (by simpa [simple] using sx) (by simpa [simple] using sy) lp lq hp hq (by simp only [dep] at hu; omega) (by simp only [dep] at hu; omega)
    | lst q => obtain ⟨aq, vsq, rfl, hq, lq⟩ := ry; cases rw; obtain ⟨itsq, rq, plq, hzq⟩ := Inv.dlist I (sub _ _ hq); exact .tuple_list plp plq (by simp only [dep] at hu; omega)
    | _ => exact absurd sy (by simp [simple])
  | lst p =>
    obtain ⟨ap, vsp, rfl, hp, lp⟩ := rx; cases ru; obtain ⟨itsp, rp, plp, hzp⟩ := Inv.dlist I (sub _ _ hp)
    cases dy with
    | non => have ry : y = .non := ry; subst ry; cases rw; exact .list_none plp (by simp only [dep] at hu; omega)
    | bl q => have ry : y = .bl q := ry; subst ry; cases rw; exact .list_bool q plp (by simp only [dep] at hu; omega)
    | int q => have ry : y = .int q := ry; subst ry; obtain ⟨tq, rfl⟩ := rw; exact .list_int q tq plp (by simp only [dep] at hu; omega)
    | str q => have ry : y = .str q := ry; subst ry; obtain ⟨tq, rfl⟩ := rw; exact .list_str q tq plp (by simp only [dep] at hu; omega)
    | tup q => obtain ⟨aq, vsq, rfl, hq, lq⟩ := ry; cases rw; obtain ⟨itsq, rq, plq, hzq⟩ := I.tuple (same_seqT sub hq); exact .list_tuple plp plq (by simp only [dep] at hu; omega)
    | lst q =>
      obtain ⟨aq, vsq, rfl, hq, lq⟩ := ry; cases rw; obtain ⟨itsq, rq, plq, hzq⟩ := Inv.dlist I (sub _ _ hq)
      exact lsts_ne I sub (by simpa [simple] using sx) (by simpa [simple] using sy) lp lq (sub _ _ hp) (sub _ _ hq) (by simp only [dep] at hu; omega) (by simp only [dep] at hu; omega)
    | _ => exact absurd sy (by simp [simple])
  | _ => exact absurd sx (by simp [simple])
theorem op_neX (hu : X.A.units + 64 < cLine) : OpR X (compareOp .NotEq) (rEqX X true) := by
  intro pins s σ H x y v u Q I rx ry h
  obtain ⟨G, dx, dy, sub, sx, sy, hd, qx, qy, q⟩ := h
  exact neAt_D I sub sx sy qx qy rx ry (A := X.A) (by omega) X.prog X.w X.xe _ ⟨.bl _, H, I, rfl, q⟩
theorem opd_eqX {neg : Bool} {h : D → D → Res D} (e : ∀ x y, h x y = if eqOk x y = true then .ok (.bl (if neg = true then !eqD x y else eqD x y)) else .stuck) : OpD X.K (rv X.K) (rEqX X neg) h := by
  intro G H x y dx dy Q s rx ry q
  rw [e] at q
  split at q
  · rename_i ok
    obtain ⟨h1, h2⟩ := Bool.and_eq_true_iff.mp (show (simple dx && (simple dy && decide (min (dep dx) (dep dy) ≤ 60))) = true from ok)
    obtain ⟨h3, h4⟩ := Bool.and_eq_true_iff.mp h2
    obtain ⟨G1, a1, a2, a3⟩ := rdO_rep s h1 rx
    obtain ⟨G2, b1, b2, b3⟩ := rdO_rep a2 h3 (RdO.grow a1 (.refl _) ry)
    exact ⟨G2, dx, dy, b2, h1, h3, of_decide_eq_true h4, Rep.mono b1 _ a3, b3, q _ G H (.refl s) rfl⟩
  · exact q.elim
theorem opd_eq : OpD X.K (rv X.K) (rEqX X false) eqR := opd_eqX fun _ _ => rfl
theorem opd_ne : OpD X.K (rv X.K) (rEqX X true) neR := opd_eqX fun _ _ => rfl
/-! ### in a list, a tuple; a text in a text -/
open Classical in
/-- == of an item with dx, by the item's own value -/
noncomputable def eqU (K : PySem.W.Frag) (G : Hp) (dx : D) (u : Value) : Bool := if ∃ d w, Rep K G d w ∧ RelV w u ∧ simple d = true ∧ eqD d dx = true then true else false
/-- x in y -/
def inD : D → D → Res Bool
  | .str x, .str y => .ok (!(Builtin.Str.occurrences y x 0 y.length 1).isEmpty)
  | x, .tup ds => if simple x = true ∧ simpleL ds = true ∧ min (depL ds) (dep x) ≤ 60 then .ok (ds.any fun d => eqD d x) else .stuck
  | x, .lst ds => if simple x = true ∧ simpleL ds = true ∧ min (depL ds) (dep x) ≤ 60 then .ok (ds.any fun d => eqD d x) else .stuck
  | _, _ => .stuck
def inR (x y : D) : Res D := (inD x y).bind fun b => .ok (.bl b)
def notInR (x y : D) : Res D := (inD x y).bind fun b => .ok (.bl !b)
def rInX (X : Cx) (neg : Bool) : R2 := fun x y H Q => ∃ G dx ds vs a, y = .ref a ∧ Same G H ∧ simple dx = true ∧ simpleL ds = true ∧ min (depL ds) (dep dx) ≤ 60 ∧ Rep X.K G dx x ∧ RepL X.K G ds vs ∧ (H a = some (.lst vs) ∨ SqT X.K H a vs) ∧ Q (.bl (if neg = true then !(ds.any fun d => eqD d dx) else ds.any fun d => eqD d dx)) H
def rInS (neg : Bool) : R2 := fun x y H Q => ∃ i j, x = .str i ∧ y = .str j ∧ Q (.bl (if neg = true then !(!(Builtin.Str.occurrences j i 0 j.length 1).isEmpty) else !(Builtin.Str.occurrences j i 0 j.length 1).isEmpty)) H
end
end DL

namespace DL
open PySem PySem.Spec PyProof.Rows L2
variable [TheW]
/-! ### <, <=, >, >= of ints, of texts; is; chains -/
def ltS (x y : Str) : Bool := decide (x.cps.toList < y.cps.toList)
def ordD (gi : Int → Int → Bool) (gs : Str → Str → Bool) : D → D → Res D
  | .int i, .int j => .ok (.bl (gi i j))
  | .str x, .str y => .ok (.bl (gs x y))
  | _, _ => .stuck
def ltR : D → D → Res D := ordD (fun i j => decide (i < j)) ltS
def leR : D → D → Res D := ordD (fun i j => decide (i ≤ j)) fun x y => !ltS y x
def gtR : D → D → Res D := ordD (fun i j => decide (j < i)) fun x y => ltS y x
def geR : D → D → Res D := ordD (fun i j => decide (j ≤ i)) fun x y => !ltS x y
theorem ordD_quiet {gi : Int → Int → Bool} {gs : Str → Str → Bool} : Quiet (ordD gi gs) := fun x y z fs h => by
  unfold ordD at h
  split at h <;> cases h
def rSB (g : Str → Str → Bool) : R2 := fun x y H Q => ∃ i j, x = .str i ∧ y = .str j ∧ Q (.bl (g i j)) H
section
variable {X : Cx} {K : PySem.W.Frag}
theorem opd_ord {gi : Int → Int → Bool} {gs : Str → Str → Bool} : OpD K (rv K) (fun x y H Q => rI0 (fun i j => .bl (gi i j)) x y H Q ∨ rSB gs x y H Q) (ordD gi gs) := by
  intro G H x y dx dy Q s rx ry q
  unfold ordD at q
  split at q
  · exact .inl ⟨_, _, rx, ry, q _ G H (.refl s) rfl⟩
  · exact .inr ⟨_, _, rx, ry, q _ G H (.refl s) rfl⟩
  · exact q.elim
theorem op_geO : OpR X (compareOp .GtE) (fun x y H Q => rI0 (fun i j => .bl (decide (j ≤ i))) x y H Q ∨ rSB (fun x y => !ltS x y) x y H Q) := OpR.or (r' := rSB fun x y => !ltS x y) op_ge op_ge_str
/-- is None, is True, is False -/
def isNonD : D → Bool
  | .non => true
  | _ => false
def isR (x y : D) : Res D := match y with
  | .non => (match x with
    | .mut _ => .stuck
    | _ => .ok (.bl (isNonD x)))
  | .bl b => (match x with
    | .bl a => .ok (.bl (decide (a = b)))
    | _ => .stuck)
  | _ => .stuck
def isNotR (x y : D) : Res D := (isR x y).bind fun d => match d with
  | .bl b => .ok (.bl !b)
  | _ => .stuck
def rIsNo : R2 := fun x y H Q => y = .non ∧ Q (.bl (decide (x = .non))) H
def rNotNo : R2 := fun x y H Q => y = .non ∧ Q (.bl (!decide (x = .non))) H
/-- a < b < c -/
def pChain (h h' : D → D → Res D) (f g k : P D) : P D := fun ρ => (f ρ).bind fun x => (g ρ).bind fun y => (h x y).bind fun z => match z with
  | .bl true => (k ρ).bind fun w => h' y w
  | .bl false => .ok (.bl false)
  | _ => .stuck
variable {c : Ct} {W : WX} {a b d e : Expr} {f g k : P D} {pos : Pos}
end
end DL
namespace DL
open PySem PySem.Spec PyProof.Rows L2
variable [TheW]
/-! ### calls of built-ins by data -/
def CallD (K : PySem.W.Frag) (R : RR D V) (r : List V → Hp → VK → Prop) (h : List D → Res D) : Prop :=
  ∀ (G H : Hp) (vs : List V) (ds : List D) (Q : VK), Same G H → Paired (RdO K G H) ds vs → PostV R G H Q (h ds) → r vs H Q
abbrev QuietL (h : List D → Res D) : Prop := ∀ xs z fs, h xs ≠ .exn z fs
def pCallL (h : List D → Res D) (f : P (List D)) : P D := fun ρ => (f ρ).bind h
theorem CallR.or {X : Cx} {u : Value} {r r' : List V → Hp → VK → Prop} (a : CallR X u r) (b : CallR X u r') : CallR X u (fun xs H Q => r xs H Q ∨ r' xs H Q) := by
  intro pins s σ H xs us Q I rs h
  rcases h with h | h
  · exact a pins s σ H xs us Q I rs h
  · exact b pins s σ H xs us Q I rs h
section
variable {c : Ct} {W : WX} {X : Cx} {a b e : Expr} {es : List Expr} {f g : P D} {fs : P (List D)} {pos p p2 : Pos} {x : Str} {R : RR D V}
theorem dab_nil : DAB c W X [] pNil := PA.imp pa_nil fun σ H Q ⟨G, ρ, A, p⟩ => p [] G H (.refl A.sub) .nil
theorem dab_cons (he : DB c W X e f) (hs : DAB c W X es fs) (h : starEach (e :: es) X.env = (false, eval e X.env) :: starEach es X.env := by rfl) : DAB c W X (e :: es) (pCons f fs) :=
  PA.imp (pa_cons he hs h) fun σ H Q ⟨G, ρ, A, p⟩ => ⟨G, ρ, A, (PostP.bind p).imp fun x H1 ⟨dx, G1, g1, r1, p1⟩ => ⟨G1, ρ, A.grow g1, (PostP.bind p1).imp fun xs H2 ⟨ds, G2, g2, r2, p2⟩ =>
    p2 (x :: xs) G2 H2 (.refl g2.s) (.cons (RdO.grow g2.g g2.ht r1) r2)⟩⟩
theorem callB_aux {r : List V → Hp → VK → Prop} {h : List D → Res D} (hd : CallD X.K R r h) (st : Steady R) (hq : QuietL h) {σ : L2.St} {H : Hp} {Q : VK} (q : tP X.K c W R (pCallL h fs) σ H Q) : tCB r (tP X.K c W (rbl X.K) fs) σ H Q := by
  obtain ⟨G, ρ, A, p⟩ := q
  exact ⟨G, ρ, A, (PostP.bind p).imp fun xs H1 ⟨ds, G1, g1, r1, p1⟩ => hd G1 H1 xs ds Q g1.s r1 (PostV.post st g1 p1 (hq _))⟩
theorem PE_callB {id : String} {r : List V → Hp → VK → Prop} {h : List D → Res D} (hc : CallR X (.builtin id) r) (hd : CallD X.K R r h) (st : Steady R) (hq : QuietL h) (hm : X.mg x = none) (hv : bootBuiltins x = some (.builtin id)) (ha : DAB c W X (e :: es) fs)
    (hg : Gl X x := by rfl) (hn : x ≠ "__name__" := by decide) (hdb : (x == ("__debug__" : Str)) = false := by decide) (he : starEach (e :: es) X.env = (false, eval e X.env) :: starEach es X.env := by rfl) (hpl : (backTo pos (starEach es X.env)).any (·.1) = false := by rfl) :
    PE X (.Call (.Name x p) (e :: es) [] pos) (tP X.K c W R (pCallL h fs)) :=
  PE.imp (pe_callB hc hg hm hv ha hn hdb he hpl) fun σ H Q q => callB_aux hd st hq q
theorem PE_callTy {T : String} {r : List V → Hp → VK → Prop} {h : List D → Res D} (hc : CallR X (.type T) r) (hd : CallD X.K R r h) (st : Steady R) (hq : QuietL h) (hm : X.mg x = none) (hv : bootBuiltins x = some (.type T)) (ha : DAB c W X (e :: es) fs)
    (hg : Gl X x := by rfl) (hn : x ≠ "__name__" := by decide) (hdb : (x == ("__debug__" : Str)) = false := by decide) (he : starEach (e :: es) X.env = (false, eval e X.env) :: starEach es X.env := by rfl) (hpl : (backTo pos (starEach es X.env)).any (·.1) = false := by rfl) :
    PE X (.Call (.Name x p) (e :: es) [] pos) (tP X.K c W R (pCallL h fs)) :=
  PE.imp (pe_callTy hc hg hm hv ha hn hdb he hpl) fun σ H Q q => callB_aux hd st hq q
/-! ### len, all, any, sum, isinstance, int, str, list, tuple -/
def lenD : List D → Res D
  | [.str z] => if z.length ≤ LINE then .ok (.int z.length) else .stuck
  | [.tup ds] => .ok (.int ds.length)
  | [.lst ds] => .ok (.int ds.length)
  | [.dict kvs] => .ok (.int kvs.length)
  | _ => .stuck
theorem lenD_quiet : QuietL lenD := fun x z fs h => by
  unfold lenD at h
  split at h <;> first | (split at h <;> cases h) | cases h
theorem paired1 {α β : Type} {F : α → β → Prop} {a : α} {vs : List β} (h : Paired F [a] vs) : ∃ v, vs = [v] ∧ F a v := by
  cases h with
  | cons r t => cases t; exact ⟨_, rfl, r⟩
def rLenD : List V → Hp → VK → Prop := fun xs H Q => ∃ a kvs, xs = [V.ref a] ∧ Rd H a (.dK kvs) ∧ Q (.int kvs.length) H
theorem call_lenR : CallR X (.builtin "len") rLenD := by
  intro pins s σ H xs us Q I r h
  obtain ⟨a, kvs, rfl, ha, q⟩ := h
  obtain ⟨u, rfl, ru⟩ := vals1 r
  cases ru
  exact d_len I ha fun t s' I' => ⟨.int kvs.length, H, I', ⟨t, rfl⟩, q⟩
def rLenS (K : PySem.W.Frag) : List V → Hp → VK → Prop := fun xs H Q => ∃ x n, xs = [x] ∧ LenV K x H n ∧ Q (.int n) H
theorem call_lenA : CallR X (.builtin "len") (fun xs H Q => rLenS X.K xs H Q ∨ rLenD xs H Q) := CallR.or (r := rLenS X.K) call_len call_lenR
theorem RepK.length {K : PySem.W.Frag} {G : Hp} : ∀ {ds : List (D × D)} {vs : List (Key × V)}, RepK K G ds vs → vs.length = ds.length
  | [], _, h => by have h : _ = [] := h; subst h; rfl
  | (k, d) :: ds, _, ⟨j, v, r, h1, _, _, h3⟩ => by subst h1; simp [RepK.length h3]
theorem cd_len {K : PySem.W.Frag} : CallD K (rv K) (fun xs H Q => rLenS K xs H Q ∨ rLenD xs H Q) lenD := by
  intro G H vs ds Q s r q
  unfold lenD at q
  split at q
  · split at q
    · rename_i hl
      obtain ⟨v, rfl, r1⟩ := paired1 r
      cases r1
      exact .inl ⟨_, _, rfl, ⟨hl, rfl⟩, q _ G H (.refl s) rfl⟩
    · exact q.elim
  · obtain ⟨v, rfl, a, xs, rfl, h2, h3⟩ := paired1 r
    exact .inl ⟨_, _, rfl, .inr ⟨xs, same_seqT s h2, rfl⟩, q _ G H (.refl s) (by rw [h3.length]; rfl)⟩
  · obtain ⟨v, rfl, a, xs, rfl, h2, h3⟩ := paired1 r
    exact .inl ⟨_, _, rfl, .inl ⟨xs, SqL.of h2, rfl⟩, q _ G H (.refl s) (by rw [h3.length]; rfl)⟩
  · obtain ⟨v, rfl, a, kv, rfl, h2, h3⟩ := paired1 r
    exact .inr ⟨a, kv, rfl, h2, q _ G H (.refl s) (by rw [h3.length]; rfl)⟩
  · exact q.elim
def blsOf : List D → Option (List Bool)
  | [] => some []
  | .bl b :: ds => (blsOf ds).map (b :: ·)
  | _ => none
def intsOf : List D → Option (List Int)
  | [] => some []
  | .int b :: ds => (intsOf ds).map (b :: ·)
  | _ => none
def allD : List D → Res D
  | [.lst ds] => (match blsOf ds with
    | some bs => .ok (.bl (bs.all id))
    | none => .stuck)
  | _ => .stuck
def anyD : List D → Res D
  | [.lst ds] => (match blsOf ds with
    | some bs => .ok (.bl (bs.any id))
    | none => .stuck)
  | _ => .stuck
def sumD : List D → Res D
  | [.lst ds] => (match intsOf ds with
    | some bs => .ok (.int bs.sum)
    | none => .stuck)
  | _ => .stuck
/-- the built-in type of data -/
def tyD : D → Option String
  | .non => some "NoneType"
  | .bl _ => some "bool"
  | .int _ => some "int"
  | .str _ => some "str"
  | .tup _ => some "tuple"
  | .lst _ => some "list"
  | .dict _ => some "dict"
  | _ => none
def isiB (t T : String) : Bool := t == T || (t == "bool" && T == "int")
def isiOk (Ts : List String) : Bool := Ts.all fun T => ["int", "str", "bool", "tuple", "list", "dict"].contains T
/-- isinstance(x, T), isinstance(x, (T, ..)) -/
def isiD (Ts : List String) (x : D) : Res D := match tyD x with
  | some t => (match isiOk Ts with
    | true => .ok (.bl (Ts.any (isiB t)))
    | false => .stuck)
  | none => .stuck
end
end DL
namespace DL
open PySem PySem.Spec PyProof.Rows L2
variable [TheW]
section
variable {c : Ct} {W : WX} {X : Cx} {a b e : Expr} {es : List Expr} {f g : P D} {fs : P (List D)} {pos p p2 : Pos} {x : Str} {R : RR D V}
/-! ### list(x), tuple(x), int(x), str(x) -/
/-- list(x): a new list -/
def listD : List D → Res D
  | [.lst ds] => .ok (.lst ds)
  | [.tup ds] => .ok (.lst ds)
  | _ => .stuck
def tupleD : List D → Res D
  | [.lst ds] => .ok (.tup ds)
  | [.tup ds] => .ok (.tup ds)
  | _ => .stuck
def rListOf (K : PySem.W.Frag) : List V → Hp → VK → Prop := fun xs H Q => ∃ p ys, xs = [.ref p] ∧ (SqL K H p ys ∨ SqT K H p ys) ∧ ∀ l, H l = none → Q (.ref l) (upd H l (.lst ys))
theorem cd_list {K : PySem.W.Frag} : CallD K (ro K) (rListOf K) listD := by
  intro G H vs ds Q s r q
  unfold listD at q
  split at q
  · obtain ⟨v, rfl, a, xs, rfl, h2, h3⟩ := paired1 r
    exact ⟨a, xs, rfl, .inl (SqL.of h2), fun l hl => q _ G _ (.new s hl) (ro_lst s hl h3)⟩
  · obtain ⟨v, rfl, a, xs, rfl, h2, h3⟩ := paired1 r
    exact ⟨a, xs, rfl, .inr (same_seqT s h2), fun l hl => q _ G _ (.new s hl) (ro_lst s hl h3)⟩
  · exact q.elim
def rTupOf (K : PySem.W.Frag) : List V → Hp → VK → Prop := fun xs H Q => ∃ p ys, xs = [.ref p] ∧ ((SqL K H p ys ∧ ∀ l, H l = none → Q (.ref l) (upd H l (.tup ys))) ∨ (SqT K H p ys ∧ Q (.ref p) H))
def intD : List D → Res D
  | [.int i] => .ok (.int i)
  | [.bl k] => .ok (.int (if k then 1 else 0))
  | _ => .stuck
def rInt1 : List V → Hp → VK → Prop := fun xs H Q => (∃ i, xs = [.int i] ∧ Q (.int i) H) ∨ ∃ k, xs = [.bl k] ∧ Q (.int (if k then 1 else 0)) H
/-! ### subscripts -/
def lookD (kvs : List (D × D)) (j : Key) : Option D := (kvs.find? fun kv => decide (keyOf kv.1 = some j)).map (·.2)
def ofOpt : Option D → Res D
  | some d => .ok d
  | none => .stuck
/-- x[i] -/
def ixD : D → D → Res D
  | .tup ds, .int i => ofOpt (atI ds i)
  | .lst ds, .int i => ofOpt (atI ds i)
  | .str z, .int i => if z.length ≤ LINE then (match atI z.cps.toList i with
    | some k => .ok (.str ⟨#[k]⟩)
    | none => .stuck) else .stuck
  | .dict kvs, k => (match keyOf k with
    | some j => ofOpt (lookD kvs j)
    | none => .stuck)
  | _, _ => .stuck
theorem ixD_quiet : Quiet ixD := fun x y z fs h => by
  have q : ∀ o, ofOpt o ≠ .exn z fs := fun o h => by cases o <;> cases h
  unfold ixD at h
  split at h
  · exact q _ h
  · exact q _ h
  · split at h
    · split at h <;> cases h
    · cases h
  · split at h
    · exact q _ h
    · cases h
  · cases h
theorem atI_rep {K : PySem.W.Frag} {G : Hp} {ds : List D} {vs : List V} {i : Int} {d : D} (h : RepL K G ds vs) (e : atI ds i = some d) : ∃ v, atI vs i = some v ∧ Rep K G d v := by
  unfold atI at e
  obtain ⟨j, e1, e2⟩ := Option.bind_eq_some_iff.mp e
  obtain ⟨v, q1, q2⟩ := h.get e2
  refine ⟨v, ?_, q2⟩
  unfold atI
  rw [h.length, e1]
  exact q1
theorem kV_rep {K : PySem.W.Frag} {G : Hp} {k : D} {j : Key} {v : V} (e : keyOf k = some j) (r : Rep K G k v) : v = kV j := by
  cases k with
  | int i => cases e; exact r
  | str x => cases e; exact r
  | _ => cases e
theorem kV_rdO {K : PySem.W.Frag} {G H : Hp} {k : D} {j : Key} {v : V} (e : keyOf k = some j) (r : RdO K G H k v) : v = kV j := by
  cases k with
  | int i => cases e; exact r
  | str x => cases e; exact r
  | _ => cases e
theorem look_rep {K : PySem.W.Frag} {G : Hp} {j : Key} : ∀ {kvs : List (D × D)} {kv : List (Key × V)}, RepK K G kvs kv → match lookD kvs j with
    | some d => ∃ v, valV kv j = some v ∧ Rep K G d v
    | none => valV kv j = none
  | [], _, h => by have h : _ = [] := h; subst h; exact rfl
  | (k, d) :: ds, _, ⟨i, v, r, h1, h2, h3, h4⟩ => by
    subst h1
    have ih := look_rep (j := j) h4
    by_cases e : i = j
    · subst e
      have e1 : lookD ((k, d) :: ds) i = some d := by simp [lookD, List.find?_cons, h2]
      rw [e1]
      exact ⟨v, valV_pos rfl, h3⟩
    · have e1 : lookD ((k, d) :: ds) j = lookD ds j := by
        have : ¬ keyOf k = some j := by rw [h2]; simpa using e
        simp [lookD, List.find?_cons, this]
      rw [e1, valV_neg (p := (i, v)) e]
      exact ih
def rIxD : R2 := fun x y H Q => ∃ a v, x = .ref a ∧ DGet H a y (some v) ∧ Q v H
theorem ix_dict (hu : X.A.units + 1 < cLine) : IxR X rIxD := by
  intro value slice pins s σ H x y v u Q I rx ry h hs
  obtain ⟨a, w, rfl, g, q⟩ := h
  cases rx
  exact tail_any (dict_typeIs I g) PySem.F.slot_dict_getitem.lookup (d_getItem hu I g ry fun w' s3 I3 rw' => ⟨w, H, I3, rw', q⟩) hs
def rIxA (K : PySem.W.Frag) : R2 := fun x y H Q => rIx K x y H Q ∨ rIxD x y H Q
theorem ix_any (hu : X.A.units + 1 < cLine) : IxR X (rIxA X.K) := ix_seq.or (ix_dict hu)
theorem opd_ix {K : PySem.W.Frag} : OpD K (rv K) (rIxA K) ixD := by
  intro G H x y dx dy Q s rx ry q
  unfold ixD at q
  split at q
  · obtain ⟨a, vs, rfl, h2, h3⟩ := rx
    cases ry
    cases e : atI _ _ with
    | none => rw [e] at q; exact q.elim
    | some d =>
      rw [e] at q
      obtain ⟨v, e1, e2⟩ := atI_rep h3 e
      exact .inl (.inr (.inl ⟨a, vs, _, v, rfl, rfl, same_seqT s h2, e1, q v G H (.refl s) e2⟩))
  · obtain ⟨a, vs, rfl, h2, h3⟩ := rx
    cases ry
    cases e : atI _ _ with
    | none => rw [e] at q; exact q.elim
    | some d =>
      rw [e] at q
      obtain ⟨v, e1, e2⟩ := atI_rep h3 e
      exact .inl (.inl ⟨a, vs, _, v, rfl, rfl, SqL.of h2, e1, q v G H (.refl s) e2⟩)
  · cases rx
    cases ry
    split at q
    · rename_i hl
      split at q
      · rename_i k e
        exact .inl (.inr (.inr ⟨_, _, k, rfl, rfl, hl, e, q _ G H (.refl s) rfl⟩))
      · exact q.elim
    · exact q.elim
  · obtain ⟨a, kv, rfl, h2, h3⟩ := rx
    split at q
    · rename_i j e
      have := kV_rdO e ry
      subst this
      have l := look_rep (j := j) h3
      cases o : lookD _ j with
      | none => rw [o] at q; exact q.elim
      | some d =>
        rw [o] at l q
        obtain ⟨v, e1, e2⟩ := l
        exact .inr ⟨a, v, rfl, .inl ⟨kv, j, h2, rfl, e1.symm⟩, q v G H (.refl s) e2⟩
    · exact q.elim
  · exact q.elim
/-! ### slices -/
abbrev DO' (c : Ct) (W : WX) (X : Cx) (e : Option Expr) (f : P (Option Int)) : Prop := PO X e (tP X.K c W (fun _ a b _ _ => b = a) f)
def pNo : P (Option Int) := fun _ => .ok none
def pSome (f : P D) : P (Option Int) := fun ρ => (f ρ).bind fun d => match d with
  | .int i => .ok (some i)
  | _ => .stuck
def cutL {α : Type} (xs : List α) (lo hi : Option Int) : List α := (xs.drop (HT.sIx xs.length 0 lo)).take (HT.sIx xs.length xs.length hi - HT.sIx xs.length 0 lo)
/-- x[lo:hi] -/
def sliceD (x : D) (lo hi : Option Int) : Res D := match x with
  | .tup ds => .ok (.tup (cutL ds lo hi))
  | .lst ds => .ok (.lst (cutL ds lo hi))
  | .str z => if z.length ≤ LINE then .ok (.str (cutS z lo hi)) else .stuck
  | _ => .stuck
def pSlice (f : P D) (l u : P (Option Int)) : P D := fun ρ => (f ρ).bind fun x => (l ρ).bind fun lo => (u ρ).bind fun hi => sliceD x lo hi
end
end DL
namespace DL
open PySem PySem.Spec PyProof.Rows L2
variable [TheW]
/-! ### slots stored -/
theorem getD_set {α : Type} (l : List α) (i j : Nat) (x d : α) : (l.set i x).getD j d = if j = i ∧ i < l.length then x else l.getD j d := by
  by_cases h : j = i ∧ i < l.length
  · rw [if_pos h]
    obtain ⟨rfl, h⟩ := h
    simp [List.getD, h]
  · rw [if_neg h]
    by_cases e : j = i
    · subst e
      have : l.length ≤ j := by
        by_cases q : j < l.length
        · exact absurd ⟨rfl, q⟩ h
        · omega
      simp [List.getD, this]
    · simp [List.getD, List.getElem?_set_ne (Ne.symm e)]
def fpSet (fp : Nat → List Addr) (i : Nat) (l : List Addr) : Nat → List Addr := fun j => if j = i then l else fp j
theorem fpSet_self {fp : Nat → List Addr} {i : Nat} {l : List Addr} : fpSet fp i l i = l := if_pos rfl
theorem fpSet_ne {fp : Nat → List Addr} {i j : Nat} {l : List Addr} (h : j ≠ i) : fpSet fp i l j = fp j := if_neg h
section
variable {K : PySem.W.Frag} {c : Ct} {G H : Hp} {σ : L2.St} {ρ : Rho}
/-- a slot changes: its new objects stand in no other slot -/
theorem At.put (A : At K c G σ H ρ) {i : Nat} {d : Option D} {v : Option V} {l : List Addr} (hi : i < ρ.length) (r : SlotR K G H v d l)
    (hp : ∀ w e, c.ar[i]? = some w → d = some (.mut e) → v = some w)
    (hl : ∀ fp : Nat → List Addr, (∀ i, SlotR K G H (σ.getD i none) (ρ.getD i none) (fp i)) → (∀ i j a, a ∈ fp i → a ∈ fp j → i = j) → (∀ j a, a ∈ l → a ∈ fp j → j = i)) (hn : ∀ a ∈ l, G a = none ∧ (c.H0 a = none ∨ a ∈ c.F0 i)) : At K c G (σ.set i v) H (ρ.set i d) := by
  have hi' : i < σ.length := by rw [← A.len]; exact hi
  obtain ⟨fp, s1, s2, s3⟩ := A.slot
  have hl := hl fp s1 s2
  refine ⟨A.sub, A.g0, A.gnew, A.keepT, A.dom, A.tb, A.nt, A.f0, by simpa using A.arl, by simp [A.len], fun j w e h1 h2 => ?_, fpSet fp i l, fun j => ?_, fun j k a ha hb => ?_, fun j a ha => ?_⟩
  · by_cases hj : j = i
    · subst hj
      rw [List.getElem?_set_self hi] at h2
      rw [List.getElem?_set_self hi', hp w e h1 (Option.some.inj h2)]
    · rw [List.getElem?_set_ne (Ne.symm hj)] at h2 ⊢
      exact A.par j w e h1 h2
  · rw [getD_set, getD_set]
    by_cases hj : j = i
    · rw [if_pos ⟨hj, hi'⟩, if_pos ⟨hj, hi⟩, hj, fpSet_self]
      exact r
    · rw [if_neg (fun z => hj z.1), if_neg (fun z => hj z.1), fpSet_ne hj]
      exact s1 j
  · by_cases hj : j = i
    · rw [hj, fpSet_self] at ha
      by_cases hk : k = i
      · rw [hj, hk]
      · rw [fpSet_ne hk] at hb
        exact absurd (hl k a ha hb) hk
    · rw [fpSet_ne hj] at ha
      by_cases hk : k = i
      · rw [hk, fpSet_self] at hb
        exact absurd (hl j a hb ha) hj
      · rw [fpSet_ne hk] at hb
        exact s2 j k a ha hb
  · by_cases hj : j = i
    · subst hj; rw [fpSet_self] at ha; exact hn a ha
    · rw [fpSet_ne hj] at ha; exact s3 j a ha
/-- a slot takes a shared value -/
theorem At.set (A : At K c G σ H ρ) {i : Nat} {d : D} {v : V} (hi : i < ρ.length) (r : Rep K G d v) : At K c G (σ.set i (some v)) H (ρ.set i (some d)) := by
  have hm : isMut d = false := by cases d <;> first | rfl | exact r.elim
  exact A.put (l := []) hi ((ownV_val hm).mpr ⟨r, rfl⟩) (fun w e _ q => by cases q; cases hm) (fun _ _ _ _ a ha => by cases ha) fun a ha => by cases ha
/-- a slot is forgotten -/
theorem At.drop (A : At K c G σ H ρ) (i : Nat) : At K c G (σ.set i none) H (ρ.set i none) := by
  by_cases hi : i < ρ.length
  · exact A.put (l := []) hi (show SlotR K G H none none [] from rfl) (fun w e _ q => by cases q) (fun _ _ _ _ a ha => by cases ha) fun a ha => by cases ha
  · rw [List.set_eq_of_length_le (by rw [← A.len]; omega), List.set_eq_of_length_le (by omega)]
    exact A
def wipeR (ρ : Rho) : List Nat → Rho
  | [] => ρ
  | v :: vs => (wipeR ρ vs).set v none
theorem At.wipe (A : At K c G σ H ρ) : ∀ vs : List Nat, At K c G (L2.wipe σ vs) H (wipeR ρ vs)
  | [] => A
  | v :: vs => (At.wipe A vs).drop v
end
/-! ### targets -/
inductive Tgt where
  | name (i : Nat)
  | tup (ts : List Tgt)
mutual
def asg : Tgt → D → Option (List (Nat × D))
  | .name i, d => some [(i, d)]
  | .tup ts, .tup ds => asgL ts ds
  | _, _ => none
def asgL : List Tgt → List D → Option (List (Nat × D))
  | [], [] => some []
  | t :: ts, d :: ds => (asg t d).bind fun l => (asgL ts ds).bind fun m => some (l ++ m)
  | _, _ => none
end
mutual
def slotsT : Tgt → List Nat
  | .name i => [i]
  | .tup ts => slotsTL ts
def slotsTL : List Tgt → List Nat
  | [] => []
  | t :: ts => slotsT t ++ slotsTL ts
end
def setR (ρ : Rho) : List (Nat × D) → Rho
  | [] => ρ
  | (i, d) :: l => setR (ρ.set i (some d)) l
def setS (σ : L2.St) : List (Nat × V) → L2.St
  | [] => σ
  | (i, v) :: l => setS (σ.set i (some v)) l
def RepA (K : PySem.W.Frag) (G : Hp) (l : List (Nat × D)) (m : List (Nat × V)) : Prop := Paired (fun p q => p.1 = q.1 ∧ Rep K G p.2 q.2) l m
theorem setS_append (σ : L2.St) : ∀ l m, setS σ (l ++ m) = setS (setS σ l) m
  | [], _ => rfl
  | (i, v) :: l, m => by show setS (σ.set i (some v)) (l ++ m) = _; rw [setS_append]; rfl
theorem At.set' {K : PySem.W.Frag} {c : Ct} {G H : Hp} {σ : L2.St} {ρ : Rho} (A : At K c G σ H ρ) {i : Nat} {d : D} {v : V} (r : Rep K G d v) : At K c G (σ.set i (some v)) H (ρ.set i (some d)) := by
  by_cases hi : i < ρ.length
  · exact A.set hi r
  · rw [List.set_eq_of_length_le (by rw [← A.len]; omega), List.set_eq_of_length_le (by omega)]
    exact A
theorem At.sets {K : PySem.W.Frag} {c : Ct} {G H : Hp} : ∀ {l : List (Nat × D)} {m : List (Nat × V)} {σ : L2.St} {ρ : Rho}, At K c G σ H ρ → RepA K G l m → At K c G (setS σ m) H (setR ρ l)
  | _, _, _, _, A, .nil => A
  | (i, d) :: l, (j, v) :: m, σ, ρ, A, .cons r t => by
    obtain ⟨e, r⟩ := r
    have e : i = j := e
    subst e
    exact At.sets (l := l) (m := m) (A.set' r) t
mutual
theorem asg_slots : ∀ (t : Tgt) (d : D) (l : List (Nat × D)), asg t d = some l → l.map (·.1) = slotsT t
  | .name i, d, l, h => by simp only [asg, Option.some.injEq] at h; subst h; rfl
  | .tup ts, .tup ds, l, h => by simp only [asg] at h; rw [slotsT]; exact asgL_slots ts ds l h
  | .tup _, .non, _, h => by simp [asg] at h
  | .tup _, .bl _, _, h => by simp [asg] at h
  | .tup _, .int _, _, h => by simp [asg] at h
  | .tup _, .str _, _, h => by simp [asg] at h
  | .tup _, .lst _, _, h => by simp [asg] at h
  | .tup _, .dict _, _, h => by simp [asg] at h
  | .tup _, .set _, _, h => by simp [asg] at h
  | .tup _, .ins _ _, _, h => by simp [asg] at h
  | .tup _, .ty _, _, h => by simp [asg] at h
  | .tup _, .glo _, _, h => by simp [asg] at h
  | .tup _, .nd _, _, h => by simp [asg] at h
  | .tup _, .exc _ _, _, h => by simp [asg] at h
  | .tup _, .mut _, _, h => by simp [asg] at h
theorem asgL_slots : ∀ (ts : List Tgt) (ds : List D) (l : List (Nat × D)), asgL ts ds = some l → l.map (·.1) = slotsTL ts
  | [], [], l, h => by simp only [asgL, Option.some.injEq] at h; subst h; rfl
  | t :: ts, d :: ds, l, h => by
    simp only [asgL] at h
    obtain ⟨l1, h1, h2⟩ := Option.bind_eq_some_iff.mp h
    obtain ⟨l2, h3, h4⟩ := Option.bind_eq_some_iff.mp h2
    cases h4
    rw [List.map_append, asg_slots t d l1 h1, asgL_slots ts ds l2 h3, slotsTL]
  | [], _ :: _, _, h => by simp [asgL] at h
  | _ :: _, [], _, h => by simp [asgL] at h
end
/-- the store by data -/
def tG (K : PySem.W.Frag) (t : Tgt) : TG := fun v σ H Q => ∃ G d, Same G H ∧ Rep K G d v ∧ match asg t d with
  | some l => ∀ m, RepA K G l m → Q (setS σ m) H
  | none => False
def tGs (K : PySem.W.Frag) (ts : List Tgt) : TGs := fun vs σ H Q => ∃ G ds, Same G H ∧ RepL K G ds vs ∧ match asgL ts ds with
  | some l => ∀ m, RepA K G l m → Q (setS σ m) H
  | none => False
theorem PG.imp {X : Cx} {e : Expr} {t t' : TG} (h : PG X e t) (i : ∀ v σ H Q, t' v σ H Q → t v σ H Q) : PG X e t' := ⟨fun pins s σ H v u Q I r q => h.run pins s σ H v u Q I r (i v σ H Q q)⟩
theorem PGs.imp {X : Cx} {e : List Expr} {t t' : TGs} (h : PGs X e t) (i : ∀ v σ H Q, t' v σ H Q → t v σ H Q) : PGs X e t' := ⟨fun pins s σ H v u Q I r q => h.run pins s σ H v u Q I r (i v σ H Q q)⟩
section
variable {X : Cx} {x : Str} {pos : Pos}
theorem dg_name (i : Nat) (hN : X.N.Nodup) (hi : X.N[i]? = some x := by rfl) (hx : Loc X.env.scope x := by first | exact Or.inl rfl | exact Or.inr rfl) (hf : X.fn x = true ∨ X.env.scope.names.lookup x = some .local := by first | exact .inl rfl | exact .inr rfl) : PG X (.Name x pos) (tG X.K (.name i)) :=
  PG.imp (pg_name hN hi hx hf) fun v σ H Q ⟨G, d, s, r, q⟩ => q [(i, v)] (.cons ⟨rfl, r⟩ .nil)
theorem dgs_nil : PGs X [] (tGs X.K []) := PGs.imp pgs_nil fun vs σ H Q ⟨G, ds, s, r, q⟩ => by
  cases ds with
  | nil => exact ⟨r, q [] .nil⟩
  | cons d ds => simp only [asgL] at q
theorem dgs_cons {e : Expr} {es : List Expr} {t : Tgt} {ts : List Tgt} (h1 : PG X e (tG X.K t)) (h2 : PGs X es (tGs X.K ts)) (hs : (assignEach (e :: es) X.env).map (·.2) = assign e X.env :: (assignEach es X.env).map (·.2) := by rfl) : PGs X (e :: es) (tGs X.K (t :: ts)) := PGs.imp (pgs_cons h1 h2 hs) fun vs σ H Q ⟨G, ds, s, r, q⟩ => by
  cases ds with
  | nil => simp only [asgL] at q
  | cons d ds =>
    obtain ⟨v, r', rfl, r1, r2⟩ := r
    refine ⟨v, r', rfl, G, d, s, r1, ?_⟩
    simp only [asgL] at q
    cases e1 : asg t d with
    | none => rw [e1] at q; exact q
    | some l1 =>
      rw [e1] at q
      intro m1 a1
      refine ⟨G, ds, s, r2, ?_⟩
      cases e2 : asgL ts ds with
      | none => rw [e2] at q; exact q
      | some l2 =>
        rw [e2] at q
        intro m2 a2
        have q := q (m1 ++ m2) (by
          clear q e1 e2
          induction a1 with
          | nil => exact a2
          | cons r t ih => exact .cons r ih)
        rw [setS_append] at q
        exact q
theorem asgL_len : ∀ {ts : List Tgt} {ds : List D} {l}, asgL ts ds = some l → ds.length = ts.length
  | [], [], _, _ => rfl
  | t :: ts, d :: ds, l, h => by
    simp only [asgL] at h
    obtain ⟨l1, h1, h2⟩ := Option.bind_eq_some_iff.mp h
    obtain ⟨l2, h3, h4⟩ := Option.bind_eq_some_iff.mp h2
    simp [asgL_len h3]
  | [], _ :: _, _, h => by simp [asgL] at h
  | _ :: _, [], _, h => by simp [asgL] at h
theorem dg_tup {es : List Expr} {k : Nat} {ts : List Tgt} (hc : X.calm = true) (h : PGs X es (tGs X.K ts)) (hn : (assignEach es X.env).length = ts.length := by rfl) (hst : (assignEach es X.env).findIdx? (·.1) = none := by rfl) : PG X (.Tuple es k pos) (tG X.K (.tup ts)) :=
  PG.imp (pg_tup hc h hn hst) fun v σ H Q ⟨G, d, s, r, q⟩ => by
    cases d with
    | tup ds =>
      obtain ⟨a, vs, rfl, h2, h3⟩ := r
      simp only [asg] at q
      cases e : asgL ts ds with
      | none => rw [e] at q; exact q.elim
      | some l =>
        refine ⟨a, vs, rfl, same_seqT s h2, by rw [h3.length, asgL_len e], G, ds, s, h3, ?_⟩
        rw [e] at q ⊢
        exact q
    | _ => simp only [asg] at q
end
end DL
namespace DL
open PySem PySem.Spec PyProof.Rows L2
variable [TheW]
/-! ### what is walked -/
def Feeds (K : PySem.W.Frag) (J : It) (ds : List D) (C : Hp → Hp → Prop) : Prop := ∀ G H, C G H → Same G H →
  (∀ (i : Nat) (d : D), ds[i]? = some d → J.go i H ∧ ∀ x H', J.yld i H x H' → ∃ G', Grow G H G' H' ∧ Rep K G' d x) ∧ ∀ i, ds.length ≤ i → J.stop i H
/-- walked while what is shared grows; while the whole heap grows -/
def rf (K : PySem.W.Frag) : RR (List D) It := fun _ ds J G' _ => Feeds K J ds fun G _ => Same G' G
def rfb (K : PySem.W.Frag) : RR (List D) It := fun _ ds J G' H' => Feeds K J ds fun G H => Same G' G ∧ SameT H' H
theorem Feeds.imp {K : PySem.W.Frag} {J : It} {ds : List D} {C C' : Hp → Hp → Prop} (h : Feeds K J ds C) (i : ∀ G H, C' G H → C G H) : Feeds K J ds C' := fun G H c s => h G H (i G H c) s
abbrev DI (c : Ct) (W : WX) (X : Cx) (tg e : Expr) (f : P (List D)) : Prop := PI X tg e (tP X.K c W (rf X.K) f)
abbrev DIB (c : Ct) (W : WX) (X : Cx) (tg e : Expr) (f : P (List D)) : Prop := PI X tg e (tP X.K c W (rfb X.K) f)
theorem PI.imp {X : Cx} {tg e : Expr} {t t' : TI} (h : PI X tg e t) (i : ∀ σ H Q, t' σ H Q → t σ H Q) : PI X tg e t' := ⟨fun pins s σ H R I q => h.run pins s σ H R I (i σ H R q)⟩
theorem di_b {c : Ct} {W : WX} {X : Cx} {tg e : Expr} {f : P (List D)} (h : DI c W X tg e f) : DIB c W X tg e f := PI.imp h fun σ H Q ⟨G, ρ, A, p⟩ => ⟨G, ρ, A, by
  cases o : f ρ with
  | ok d => rw [o] at p; exact fun v G' H' g r => p v G' H' g (Feeds.imp r fun _ _ z => z.1)
  | exn x fs => rw [o] at p; exact p
  | stuck => rw [o] at p; exact p⟩
/-- what may be walked as it stands -/
inductive ItOk (K : PySem.W.Frag) (H : Hp) : V → It → Prop where
  | lst {a : Addr} {xs : List V} : SqL K H a xs → ItOk K H (.ref a) (Itl K a)
  | tup {a : Addr} {xs : List V} : SqT K H a xs → ItOk K H (.ref a) (Itt K a)
  | str (z : Str) : ItOk K H (.str z) (Its z)
  | keys {d : Addr} {o : Obj} {kvs : List (Key × V)} : H d = some (.frz o (.dK kvs)) → ItOk K H (.ref d) (Itk d o kvs)
def iAny (K : PySem.W.Frag) (te : TE) : TI := fun σ H R => te σ H fun x H1 => ∃ J, ItOk K H1 x J ∧ R J H1
theorem pi_any {X : Cx} {tg e : Expr} {te : TE} (he : PE X e te) : PI X tg e (iAny X.K te) := by
  refine ⟨fun pins s σ H R I h => ?_⟩
  refine thn (he.run pins s σ H _ I h) fun v s1 ⟨x, H1, I1, r1, J, k, q⟩ => ?_
  have fp : ∀ b ∈ [s1.heap.objs.size], FpOk X pins H1 b := fun b hb => by
    have e : b = s1.heap.objs.size := by simpa using hb
    subst e
    exact I1.fpOk (Nat.le_refl _) (I1.hok.fresh (Nat.le_refl _))
  cases k with
  | lst hq =>
    cases r1
    obtain ⟨its, rv, p, hz⟩ := I1.list hq
    exact wpAny_pyIter_list p.isList ⟨s1.heap.objs.size, [s1.heap.objs.size], _, _, H1, rfl, I1.kept (t' := s1.toks) fun b o e => Heap.get?_push_of_some _ e, turn_list _ _, ⟨_, Heap.get?_push_size _ rfl, rfl, rfl⟩, fp, q⟩
  | tup hq =>
    cases r1
    obtain ⟨its, rv, p, hz⟩ := I1.tuple hq
    exact wpAny_pyIter_tuple p ⟨s1.heap.objs.size, [s1.heap.objs.size], _, _, H1, rfl, I1.kept (t' := s1.toks) fun b o e => Heap.get?_push_of_some _ e, turn_tuple _ _, ⟨_, Heap.get?_push_size _ rfl, rfl, rfl⟩, fp, q⟩
  | str z =>
    obtain ⟨t, rfl⟩ := r1
    cases ha : z.cps.all (· < 128)
    · exact wpAny_pyIter_wide ha (pi_one (tk := s1.toks) I1 _ (turn_str _ z t "str_iterator" (.inr rfl)) ⟨_, Heap.get?_push_size _ rfl, rfl, rfl⟩ q)
    · exact wpAny_pyIter_ascii ha (pi_one (tk := s1.toks) I1 _ (turn_str _ z t "str_ascii_iterator" (.inl rfl)) ⟨_, Heap.get?_push_size _ rfl, rfl, rfl⟩ q)
  | keys hd =>
    cases r1
    obtain ⟨hs, hgd, hx, es, ep, vs, hdt, hsz, kv, hm⟩ := I1.frzK hd
    refine iter_keys hs hgd hx hdt (pi_one (tk := s1.toks) I1 _ (turn_keys _ hdt) ⟨_, Heap.get?_push_size _ rfl, rfl, ?_⟩ q)
    rw [hsz] <;> rfl
def sgn (k : Nat) : D := .str ⟨#[k]⟩
def iterD : D → Res (List D)
  | .lst ds => .ok ds
  | .tup ds => .ok ds
  | .str z => .ok (z.cps.toList.map sgn)
  | .dict kvs => .ok (kvs.map (·.1))
  | .set ds => .ok ds
  | _ => .stuck
/-- .. an owned object's items, read in place -/
def iterB : D → Res (List D)
  | .lst ds => .ok ds
  | .tup ds => .ok ds
  | .str z => .ok (z.cps.toList.map sgn)
  | .set ds => .ok ds
  | _ => .stuck
def pIter (f : P D) : P (List D) := fun ρ => (f ρ).bind iterD
def pIterB (f : P D) : P (List D) := fun ρ => (f ρ).bind iterB
theorem feeds_lst {K : PySem.W.Frag} {a : Addr} {vs : List V} {ds : List D} {G0 : Hp} {C : Hp → Hp → Prop} (hc : ∀ G H, C G H → Same G H → H a = some (.lst vs) ∧ Same G0 G) (h3 : RepL K G0 ds vs) : Feeds K (Itl K a) ds C := fun G H hC s => by
  obtain ⟨hl, sg⟩ := hc G H hC s
  refine ⟨fun i d e => ?_, fun i hi => ⟨vs, SqL.of hl, by rw [h3.length]; exact hi⟩⟩
  obtain ⟨v, e1, e2⟩ := h3.get e
  refine ⟨⟨vs, v, SqL.of hl, e1⟩, fun x H' ⟨eH, y⟩ => ?_⟩
  subst eH
  have := y vs (SqL.of hl)
  rw [e1] at this
  cases this
  exact ⟨G, .refl s, Rep.mono sg _ e2⟩
theorem feeds_lstS {K : PySem.W.Frag} {a : Addr} {vs : List V} {ds : List D} {G0 : Hp} {C : Hp → Hp → Prop} (hc : ∀ G H, C G H → Same G H → SqL K H a vs ∧ Same G0 G) (h3 : RepL K G0 ds vs) : Feeds K (Itl K a) ds C := fun G H hC s => by
  obtain ⟨hl, sg⟩ := hc G H hC s
  refine ⟨fun i d e => ?_, fun i hi => ⟨vs, hl, by rw [h3.length]; exact hi⟩⟩
  obtain ⟨v, e1, e2⟩ := h3.get e
  refine ⟨⟨vs, v, hl, e1⟩, fun x H' ⟨eH, y⟩ => ?_⟩
  subst eH
  have := y vs hl
  rw [e1] at this
  cases this
  exact ⟨G, .refl s, Rep.mono sg _ e2⟩
theorem feeds_tup {K : PySem.W.Frag} {a : Addr} {vs : List V} {ds : List D} {G0 : Hp} {C : Hp → Hp → Prop} (hc : ∀ G H, C G H → Same G H → SqT K H a vs ∧ Same G0 G) (h3 : RepL K G0 ds vs) : Feeds K (Itt K a) ds C := fun G H hC s => by
  obtain ⟨hl, sg⟩ := hc G H hC s
  refine ⟨fun i d e => ?_, fun i hi => ⟨vs, hl, by rw [h3.length]; exact hi⟩⟩
  obtain ⟨v, e1, e2⟩ := h3.get e
  refine ⟨⟨vs, v, hl, e1⟩, fun x H' ⟨eH, y⟩ => ?_⟩
  subst eH
  have := y vs hl
  rw [e1] at this
  cases this
  exact ⟨G, .refl s, Rep.mono sg _ e2⟩
theorem feeds_str {K : PySem.W.Frag} {z : Str} {C : Hp → Hp → Prop} : Feeds K (Its z) (z.cps.toList.map sgn) C := fun G H hC s => by
  refine ⟨fun i d e => ?_, fun i hi => by show z.cps.size ≤ i; simpa using hi⟩
  rw [List.getElem?_map] at e
  obtain ⟨k, e1, e2⟩ := Option.map_eq_some_iff.mp e
  have e3 : z.cps[i]? = some k := by simpa using e1
  refine ⟨(Array.getElem?_eq_some_iff.mp e3).1, fun x H' ⟨eH, k', e4, ex⟩ => ?_⟩
  subst eH ex e2
  rw [e3] at e4
  cases e4
  exact ⟨G, .refl s, rfl⟩
theorem RepK.get {K : PySem.W.Frag} {G : Hp} : ∀ {ds : List (D × D)} {vs : List (Key × V)} {i : Nat} {p : D × D}, RepK K G ds vs → ds[i]? = some p → ∃ j v, vs[i]? = some (j, v) ∧ keyOf p.1 = some j ∧ Rep K G p.2 v
  | [], _, _, _, _, e => by simp at e
  | (k, d) :: ds, _, 0, _, ⟨j, v, r, h1, h2, h3, h4⟩, e => by
    subst h1
    simp at e
    subst e
    exact ⟨j, v, rfl, h2, h3⟩
  | (k, d) :: ds, _, i + 1, _, ⟨j, v, r, h1, h2, h3, h4⟩, e => by
    subst h1
    obtain ⟨j', v', q1, q2⟩ := RepK.get (i := i) h4 (by simpa using e)
    exact ⟨j', v', by simpa using q1, q2⟩
theorem key_rep {K : PySem.W.Frag} {G : Hp} {k : D} {j : Key} (e : keyOf k = some j) : Rep K G k (kV j) := by
  cases k with
  | int i => cases e; rfl
  | str x => cases e; rfl
  | _ => cases e
theorem feeds_keys {K : PySem.W.Frag} {a : Addr} {o : Obj} {kv : List (Key × V)} {ds : List (D × D)} {G0 : Hp} (hg : G0 a = some (.frz o (.dK kv))) (h3 : RepK K G0 ds kv) : Feeds K (Itk a o kv) (ds.map (·.1)) fun G _ => Same G0 G := fun G H sg s => by
  have hl := s _ _ (sg _ _ hg)
  refine ⟨fun i d e => ?_, fun i hi => ⟨hl, by rw [h3.length]; simpa using hi⟩⟩
  rw [List.getElem?_map] at e
  obtain ⟨p, e1, e2⟩ := Option.map_eq_some_iff.mp e
  obtain ⟨j, v, q1, q2, q3⟩ := h3.get e1
  refine ⟨⟨hl, (List.getElem?_eq_some_iff.mp q1).1⟩, fun x H' ⟨eH, k, v', e4, ex⟩ => ?_⟩
  subst eH ex e2
  rw [q1] at e4
  cases e4
  exact ⟨G, .refl s, key_rep q2⟩
section
variable {c : Ct} {W : WX} {X : Cx} {tg a b e : Expr} {es : List Expr} {f g : P D} {fs : P (List D)} {pos p p2 : Pos} {x : Str}
theorem di_any (he : DP c W X e f) : DI c W X tg e (pIter f) := PI.imp (pi_any he) fun σ H Q ⟨G, ρ, A, p⟩ => ⟨G, ρ, A, (PostP.bind p).imp fun x H1 ⟨d, G1, g1, r1, p1⟩ => by
  unfold iterD at p1
  split at p1
  · obtain ⟨q, vs, rfl, h2, h3⟩ := r1
    exact ⟨_, .lst (SqL.of (g1.s _ _ h2)), p1 _ G1 H1 (.refl g1.s) (feeds_lst (fun G H sg s => ⟨s _ _ (sg _ _ h2), sg⟩) h3)⟩
  · obtain ⟨q, vs, rfl, h2, h3⟩ := r1
    exact ⟨_, .tup (same_seqT g1.s h2), p1 _ G1 H1 (.refl g1.s) (feeds_tup (fun G H sg s => ⟨same_seqT s (same_seqT sg h2), sg⟩) h3)⟩
  · cases r1
    exact ⟨_, .str _, p1 _ G1 H1 (.refl g1.s) feeds_str⟩
  · obtain ⟨q, o, kv, rfl, h2, h3⟩ := r1
    exact ⟨_, .keys (g1.s _ _ h2), p1 _ G1 H1 (.refl g1.s) (feeds_keys h2 h3)⟩
  · obtain ⟨q, vs, rfl, h2, h3⟩ := r1
    exact ⟨_, .lst (same_seqL g1.s h2), p1 _ G1 H1 (.refl g1.s) (feeds_lstS (fun G H sg s => ⟨same_seqL s (same_seqL sg h2), sg⟩) h3)⟩
  · exact p1.elim⟩
theorem dib_any (he : DB c W X e f) : DIB c W X tg e (pIterB f) := PI.imp (pi_any he) fun σ H Q ⟨G, ρ, A, p⟩ => ⟨G, ρ, A, (PostP.bind p).imp fun x H1 ⟨d, G1, g1, r1, p1⟩ => by
  unfold iterB at p1
  split at p1
  · obtain ⟨q, vs, rfl, h2, h3⟩ := r1
    exact ⟨_, .lst (SqL.of h2), p1 _ G1 H1 (.refl g1.s) (feeds_lst (fun G H sg s => ⟨sg.2.at h2, sg.1⟩) h3)⟩
  · obtain ⟨q, vs, rfl, h2, h3⟩ := r1
    exact ⟨_, .tup (same_seqT g1.s h2), p1 _ G1 H1 (.refl g1.s) (feeds_tup (fun G H sg s => ⟨same_seqT s (same_seqT sg.1 h2), sg.1⟩) h3)⟩
  · cases r1
    exact ⟨_, .str _, p1 _ G1 H1 (.refl g1.s) feeds_str⟩
  · obtain ⟨q, vs, rfl, h2, h3⟩ := r1
    exact ⟨_, .lst (same_seqL g1.s h2), p1 _ G1 H1 (.refl g1.s) (feeds_lstS (fun G H sg s => ⟨same_seqL s (same_seqL sg.1 h2), sg.1⟩) h3)⟩
  · exact p1.elim⟩
/-- range(n), range(lo, hi) -/
def rangeD1 : List D → Res (List D)
  | [.int n] => if -(2 ^ 62) ≤ n ∧ n < 2 ^ 62 then .ok ((List.range n.toNat).map fun (i : Nat) => D.int (i : Int)) else .stuck
  | _ => .stuck
def rangeD2 : List D → Res (List D)
  | [.int a, .int b] => if -(2 ^ 62) ≤ a ∧ a < 2 ^ 62 ∧ -(2 ^ 62) ≤ b ∧ b < 2 ^ 62 then .ok ((List.range (b - a).toNat).map fun (i : Nat) => D.int (a + (i : Int))) else .stuck
  | _ => .stuck
def pRange1 (fs : P (List D)) : P (List D) := fun ρ => (fs ρ).bind rangeD1
def pRange2 (fs : P (List D)) : P (List D) := fun ρ => (fs ρ).bind rangeD2
theorem feeds_rng {K : PySem.W.Frag} {lo : Int} {n : Nat} {C : Hp → Hp → Prop} : Feeds K (Itr lo n) ((List.range n).map fun (i : Nat) => D.int (lo + (i : Int))) C := fun G H hC s => by
  refine ⟨fun i d e => ?_, fun i hi => by show n ≤ i; simpa using hi⟩
  rw [List.getElem?_map] at e
  obtain ⟨k, e1, e2⟩ := Option.map_eq_some_iff.mp e
  obtain ⟨h, e3⟩ := List.getElem?_eq_some_iff.mp e1
  have hk : k = i := by rw [← e3]; simp
  refine ⟨by show i < n; simpa using h, fun x H' ⟨eH, ex⟩ => ?_⟩
  subst eH ex e2 hk
  exact ⟨G, .refl s, rfl⟩
theorem di_range1 (ha : DA c W X [a] fs) (hm : X.mg "range" = none) (hg : Gl X "range" := by rfl) (hs : starEach [a] X.env = [(false, eval a X.env)] := by rfl) : DI c W X tg (.Call (.Name "range" p) [a] [] pos) (pRange1 fs) :=
  PI.imp (pi_range1 hg hm ha hs) fun σ H Q ⟨G, ρ, A, p⟩ => ⟨G, ρ, A, (PostP.bind p).imp fun vs H1 ⟨ds, G1, g1, r1, p1⟩ => by
    unfold rangeD1 at p1
    split at p1
    · rename_i n
      obtain ⟨v, r, rfl, h2, h3⟩ := r1
      cases h3
      cases h2
      split at p1
      · rename_i h
        refine ⟨n, rfl, h.1, h.2, p1 _ G1 H1 (.refl g1.s) ?_⟩
        have z := feeds_rng (K := X.K) (lo := 0) (n := n.toNat) (C := fun G _ => Same G1 G)
        simp only [Int.zero_add] at z
        exact z
      · exact p1.elim
    · exact p1.elim⟩
end
end DL
namespace DL
open PySem PySem.Spec PyProof.Rows L2
variable [TheW]
/-! ### comprehensions -/
/-- what the items give; nothing is raised within -/
def compL (g : D → Res (Option D)) : List D → Res (List D)
  | [] => .ok []
  | d :: ds => match g d with
    | .ok o => (match compL g ds with
      | .ok r => .ok (match o with
        | some y => y :: r
        | none => r)
      | _ => .stuck)
    | _ => .stuck
/-- an item of [elt for tgt in .. if test] -/
def item (vs : List Nat) (t : Tgt) (tt : P Bool) (te : P D) (ρ : Rho) (d : D) : Res (Option D) := match asg t d with
  | some l => (match tt (setR (wipeR ρ vs) l) with
    | .ok true => (match te (setR (wipeR ρ vs) l) with
      | .ok y => .ok (some y)
      | _ => .stuck)
    | .ok false => .ok none
    | _ => .stuck)
  | none => .stuck
def pComp (vs : List Nat) (t : Tgt) (src : P (List D)) (tt : P Bool) (te : P D) : P D := fun ρ => (src ρ).bind fun ds => (compL (item vs t tt te ρ) ds).bind mkLst
/-- keys of a store -/
theorem RepA.keys {K : PySem.W.Frag} {G : Hp} : ∀ {l : List (Nat × D)} {m : List (Nat × V)}, RepA K G l m → m.map (·.1) = l.map (·.1)
  | _, _, .nil => rfl
  | _ :: _, _ :: _, .cons r t => by simp [RepA.keys t, r.1]
theorem wipe_mem {σ : L2.St} {i : Nat} : ∀ {vs : List Nat}, i ∈ vs → (wipe σ vs)[i]? = if i < σ.length then some none else none
  | [], h => by cases h
  | v :: vs, h => by
    unfold wipe
    by_cases e : v = i
    · subst e
      by_cases hl : v < σ.length
      · rw [List.getElem?_set_self (by rw [wipe_length]; exact hl), if_pos hl]
      · rw [if_neg hl, List.getElem?_eq_none_iff.mpr (by rw [List.length_set, wipe_length]; omega)]
    · rw [List.getElem?_set_ne e]
      exact wipe_mem ((List.mem_cons.mp h).resolve_left fun z => e z.symm)
theorem setS_length (σ : L2.St) : ∀ l, (setS σ l).length = σ.length
  | [] => rfl
  | (i, v) :: l => by show (setS (σ.set i (some v)) l).length = _; rw [setS_length, List.length_set]
theorem setS_out {i : Nat} : ∀ {l : List (Nat × V)} {σ : L2.St}, i ∉ l.map (·.1) → (setS σ l)[i]? = σ[i]?
  | [], _, _ => rfl
  | (j, v) :: l, σ, h => by
    show (setS (σ.set j (some v)) l)[i]? = _
    rw [setS_out (fun z => h (by simp at z ⊢; exact .inr z)), List.getElem?_set_ne (fun z => h (by simp [z]))]
theorem wipe_set {σ : L2.St} {vs : List Nat} {m : List (Nat × V)} (h : ∀ i ∈ m.map (·.1), i ∈ vs) : wipe (setS (wipe σ vs) m) vs = wipe σ vs := by
  apply List.ext_getElem?
  intro i
  by_cases hi : i ∈ vs
  · rw [wipe_mem hi, wipe_mem hi, setS_length, wipe_length]
  · rw [wipe_out hi, setS_out (fun z => hi (h i z))]
def noW : WX := fun _ _ _ _ => False
section
variable {c : Ct} {W : WX} {K : PySem.W.Frag} {G H G1 H1 : Hp} {σ : L2.St} {ρ : Rho} {Q : VK} {vs : List Nat} {t : Tgt} {tt : P Bool} {te : P D} {ds : List D} {J : It}
/-- the new list so far -/
structure LcI (K : PySem.W.Frag) (G1 H1 : Hp) (Dd : Addr) (g : D → Res (Option D)) (ds res : List D) (i : Nat) (Hc : Hp) : Prop where
  ex : ∃ Gc vs acc rest, Grow G1 H1 Gc Hc ∧ Hc Dd = some (.lst vs) ∧ Gc Dd = none ∧ RepL K Gc acc vs ∧ compL g (ds.drop i) = .ok rest ∧ acc ++ rest = res
theorem Grow.nn {G H G' H' : Hp} (g : Grow G H G' H') {a : Addr} (h1 : G a = none) (h2 : H a ≠ none) : G' a = none := by
  cases q : G' a with
  | none => rfl
  | some o => exact absurd (g.n a (ne_none_of q)) (by rintro (z | z); exact z h1; exact h2 z)
theorem Grow.upd' {G H G' H' : Hp} (g : Grow G H G' H') {q : Addr} {o : HO} (hn : H q = none) (hg : G' q = none) : Grow G H G' (upd H' q o) :=
  ⟨g.g, fun b u e n => by rw [upd_ne (ne_of_none e hn)]; exact g.h _ _ e n, fun b u e => by rw [upd_ne (ne_of_none e hg)]; exact g.s _ _ e, g.n, fun b z => by
    by_cases e : b = q
    · subst e; rw [upd_same]; simp
    · rw [upd_ne e]; exact g.dm b z, fun t p hp => by
    obtain ⟨ps, h1, _⟩ := t p hp
    exact (g.tb t p hp).mono (.refl _) (upd_ne (ne_of_none h1 hn)), g.nt⟩
theorem lc_read (A : At K c G1 σ H1 ρ) (hv : (slotsT t).all (fun i => vs.contains i) = true) (r1 : Feeds K J ds fun G' H' => Same G1 G' ∧ SameT H1 H') {g0 : Grow G H G1 H1}
    (p1 : PostP K W σ G1 H1 (fun _ => ro K H) Q ((compL (item vs t tt te ρ) ds).bind mkLst)) : ∀ Dd, H1 Dd = none → ∃ W : Nat → Nat → Hp → Prop, (∃ m, W 0 m (upd H1 Dd (.lst []))) ∧ ∀ i m H, W i m H →
  (J.stop i H ∧ Q (.ref Dd) H) ∨ (J.go i H ∧ ∃ Nx : Hp → Prop, (∀ H', Nx H' → ∃ m', m' < m ∧ W (i + 1) m' H') ∧ ∀ x H', J.yld i H x H' → tG K t x (wipe σ vs) H' fun σ2 H2 => wipe σ2 vs = wipe σ vs ∧ tP K c noW rt tt σ2 H2 fun b H3 =>
    if b = true then tP K c noW (rv K) te σ2 H3 fun y H4 => ∃ acc, H4 Dd = some (.lst acc) ∧ acc.length < sizeLine ∧ Nx (upd H4 Dd (.lst (acc ++ [y]))) else Nx H3) := by
  intro Dd hD
  have gD : G1 Dd = none := A.sub.free hD
  obtain ⟨res, e0⟩ : ∃ res, compL (item vs t tt te ρ) ds = .ok res := by
    cases o : compL (item vs t tt te ρ) ds with
    | ok r => exact ⟨r, rfl⟩
    | exn x fs =>
      exfalso
      cases ds with
      | nil => cases o
      | cons d ds =>
        unfold compL at o
        split at o
        · split at o <;> cases o
        · cases o
    | stuck => rw [o] at p1; exact p1.elim
  rw [e0] at p1
  have p1 : PostP K W σ G1 H1 (fun _ => ro K H) Q (mkLst res) := p1
  unfold mkLst at p1
  split at p1
  case isFalse => exact p1.elim
  rename_i hres
  refine ⟨fun i m Hc => i ≤ ds.length ∧ m = ds.length - i ∧ LcI K G1 H1 Dd (item vs t tt te ρ) ds res i Hc, ⟨_, Nat.zero_le _, rfl, ⟨G1, [], [], res, .new A.sub hD, upd_same, gD, rfl, e0, rfl⟩⟩, ?_⟩
  rintro i m Hc ⟨hi, rfl, ⟨Gc, us, acc, rest, gc, hDc, gDc, ra, e1, e2⟩⟩
  obtain ⟨f1, f2⟩ := r1 Gc Hc ⟨gc.g, gc.ht⟩ gc.s
  by_cases hlt : i < ds.length
  · refine .inr ?_
    obtain ⟨go, yl⟩ := f1 i ds[i] (List.getElem?_eq_getElem hlt)
    refine ⟨go, LcI K G1 H1 Dd (item vs t tt te ρ) ds res (i + 1), fun H' n => ⟨_, by omega, by omega, rfl, n⟩, fun x H' y => ?_⟩
    obtain ⟨G', g', rx⟩ := yl x H' y
    rw [List.drop_eq_getElem_cons hlt] at e1
    unfold compL at e1
    split at e1
    case h_2 => cases e1
    rename_i o eo
    split at e1
    case h_2 => cases e1
    rename_i r er
    have e1 := Res.ok.inj e1
    refine ⟨G', ds[i], g'.s, rx, ?_⟩
    unfold item at eo
    split at eo
    case h_2 => cases eo
    rename_i l el
    try rw [el]
    intro mm hm
    have gg := gc.trans g'
    have A2 : At K c G' (setS (wipe σ vs) mm) H' (setR (wipeR ρ vs) l) := ((A.grow gg).wipe vs).sets hm
    refine ⟨wipe_set fun j hj => ?_, G', _, A2, ?_⟩
    · rw [hm.keys, asg_slots t _ l el] at hj
      have := List.all_eq_true.mp hv j hj
      simpa using this
    have keep : ∀ {G2 H2 : Hp}, Grow G' H' G2 H2 → Grow G1 H1 G2 H2 ∧ H2 Dd = some (.lst us) ∧ G2 Dd = none ∧ RepL K G2 acc us := fun {G2 H2} g2 => by
      have g3 := g'.trans g2
      exact ⟨gc.trans g3, g3.h _ _ hDc, g3.nn gDc (ne_none_of hDc), RepL.mono g3.g _ ra⟩
    split at eo
    · rename_i et
      rw [et]
      split at eo
      case h_2 => cases eo
      rename_i y ey
      cases eo
      intro b G2 H2 g2 rb
      cases rb
      simp only [if_true]
      refine ⟨G2, _, A2.grow g2, ?_⟩
      rw [ey]
      intro v G3 H3 g3 rv3
      obtain ⟨k1, k2, k3, k4⟩ := keep (g2.trans g3)
      have hlen : us.length < sizeLine := by
        have : res.length ≤ sizeLine := hres
        rw [← e2, ← e1] at this
        simp at this
        rw [k4.length]
        omega
      refine ⟨us, k2, hlen, ⟨G3, us ++ [v], acc ++ [y], r, k1.upd' hD k3, upd_same, k3, RepL.append k4 ⟨v, [], rfl, rv3, rfl⟩, er, ?_⟩⟩
      rw [← e2, ← e1]
      simp
    · rename_i et
      rw [et]
      cases eo
      intro b G2 H2 g2 rb
      cases rb
      simp only [Bool.false_eq_true, if_false]
      obtain ⟨k1, k2, k3, k4⟩ := keep g2
      exact ⟨G2, us, acc, r, k1, k2, k3, k4, er, by rw [← e2, ← e1]⟩
    · cases eo
  · refine .inl ⟨f2 i (by omega), ?_⟩
    have e1 : compL (item vs t tt te ρ) (ds.drop i) = .ok rest := e1
    rw [List.drop_eq_nil_of_le (by omega)] at e1
    have e1 : rest = [] := (Res.ok.inj e1).symm
    subst e1
    rw [List.append_nil] at e2
    subst e2
    exact p1 _ Gc Hc gc ⟨[Dd], ⟨Dd, us, [], rfl, hDc, repL_ownL ra, rfl, by simp⟩, fun a ha => by
      have ha : a = Dd := by simpa using ha
      subst ha
      exact ⟨gDc, g0.free hD⟩⟩
end
def pYes : P Bool := fun _ => .ok true
section
variable {c : Ct} {W : WX} {X : Cx} {elt tg iter : Expr} {ifs : List Expr} {scope : Scope} {own : List (Str × Nat)} {pos : Pos} {t : Tgt} {src : P (List D)} {tt : P Bool} {te : P D}
abbrev DTs (c : Ct) (X : Cx) (es : List Expr) (f : P Bool) : Prop := PTs X es (tP X.K c noW rt f)
theorem dts_one {e : Expr} (h : DT c noW X e tt) : DTs c X [e] tt := pts_one h
theorem lc_imp (hv : (slotsT t).all (fun i => (own.map (·.2)).contains i) = true) (σ : L2.St) (H : Hp) (Q : VK) (q : tP X.K c W (ro X.K) (pComp (own.map (·.2)) t src tt te) σ H Q) :
    tLc (tP X.K c W (rfb X.K) src) (tG X.K t) (tP X.K c noW rt tt) (tP X.K c noW (rv X.K) te) (own.map (·.2)) σ H Q := by
  obtain ⟨G, ρ, A, p⟩ := q
  exact ⟨G, ρ, A, (PostP.bind p).imp fun J H1 ⟨ds, G1, g1, r1, p1⟩ => lc_read (G := G) (g0 := g1) (A.grow g1) hv r1 p1⟩
abbrev BX (X : Cx) (s : Shared) (H : Hp) (scope : Scope) (cl : List (Str × Addr)) (C : Addr) (fp : List Addr) : Cx := X.blk s H scope (compEnvC scope cl C X.env) fp
theorem dn_lc (hc : X.calm = true) (hN : X.N.Nodup) (hi : DIB c W X tg iter src) (ok : BlkOk X.N X.env.scope scope own)
    (hg : ∀ s H C cl fp, PG (BX X s H scope cl C fp) tg (tG X.K t)) (ht : ∀ s H C cl fp, DTs c (BX X s H scope cl C fp) ifs tt) (he : ∀ s H C cl fp, DP c noW (BX X s H scope cl C fp) elt te)
    (hv : (slotsT t).all (fun i => (own.map (·.2)).contains i) = true := by rfl) (hs : ∀ x, foldedSetIterable iter X.env x = pure x := by intro _; rfl) :
    DN c W X (.ListComp elt [⟨tg, iter, ifs, 0⟩] scope pos) (pComp (own.map (·.2)) t src tt te) :=
  PE.imp (pe_lc hc hN hi ok hg ht he hs) (lc_imp hv)
end
end DL
namespace DL
open PySem PySem.Spec PyProof.Rows L2
variable [TheW]
/-! ### comprehensions of two clauses -/
def compC (g : D → Res (List D)) : List D → Res (List D)
  | [] => .ok []
  | d :: ds => match g d with
    | .ok o => (match compC g ds with
      | .ok r => .ok (o ++ r)
      | _ => .stuck)
    | _ => .stuck
def item2 (vs : List Nat) (t : Tgt) (tt : P Bool) (g : Rho → Res (List D)) (ρ : Rho) (d : D) : Res (List D) := match asg t d with
  | some l => (match tt (setR (wipeR ρ vs) l) with
    | .ok true => g (setR (wipeR ρ vs) l)
    | .ok false => .ok []
    | _ => .stuck)
  | none => .stuck
def inner (vs1 : List Nat) (t1 : Tgt) (src1 : P (List D)) (tt1 : P Bool) (te : P D) : P (List D) := fun ρ => match src1 ρ with
  | .ok es => compL (item vs1 t1 tt1 te ρ) es
  | _ => .stuck
def pComp2 (vs vs1 : List Nat) (t : Tgt) (src : P (List D)) (tt : P Bool) (t1 : Tgt) (src1 : P (List D)) (tt1 : P Bool) (te : P D) : P D := fun ρ => (src ρ).bind fun ds => (compC (item2 vs t tt (inner vs1 t1 src1 tt1 te) ρ) ds).bind mkLst
section
variable {c : Ct} {W : WX} {K : PySem.W.Frag} {G H G1 H1 : Hp} {σ : L2.St} {ρ : Rho} {Q : VK} {vs vs1 : List Nat} {t t1 : Tgt} {tt tt1 : P Bool} {te : P D} {src1 : P (List D)} {ds : List D} {J : It}
structure LcI2 (K : PySem.W.Frag) (G1 H1 : Hp) (Dd : Addr) (g : D → Res (List D)) (ds res : List D) (i : Nat) (Hc : Hp) : Prop where
  ex : ∃ Gc vs acc rest, Grow G1 H1 Gc Hc ∧ Hc Dd = some (.lst vs) ∧ Gc Dd = none ∧ RepL K Gc acc vs ∧ compC g (ds.drop i) = .ok rest ∧ acc ++ rest = res
end
section
variable {c : Ct} {W : WX} {X : Cx} {elt tg iter tg1 iter1 : Expr} {ifs ifs1 : List Expr} {scope : Scope} {own : List (Str × Nat)} {pos : Pos} {t t1 : Tgt} {src src1 : P (List D)} {tt tt1 : P Bool} {te : P D} {vs1 : List Nat}
end
end DL
namespace DL
open PySem PySem.Spec PyProof.Rows L2
variable [TheW]
/-! ### expressions that change owned objects -/
/-- a shared value or a new owned object -/
def rx (K : PySem.W.Frag) : RR D V := fun H0 d v G H => ∃ fp, OwnV K G H d v fp ∧ ∀ a ∈ fp, G a = none ∧ H0 a = none
abbrev DX (c : Ct) (W : WX) (X : Cx) (e : Expr) (f : P D) : Prop := PE X e (tP X.K c W (rx X.K) f)
def PostM {α β : Type} (K : PySem.W.Frag) (c : Ct) (W : WX) (σ : L2.St) (G H : Hp) (R : RR α β) (Q : β → Hp → Prop) : Out α → Prop
  | .ok a ρ' => ∀ v G' H', Same G G' → At K c G' σ H' ρ' → R H a v G' H' → Q v H'
  | .exn x fs ρ' => ∀ cls dd G' H', Same G G' → At K c G' σ H' ρ' → RepX K G' x fs cls dd → W cls dd σ H'
  | .stuck => False
def tM {α β : Type} (K : PySem.W.Frag) (c : Ct) (W : WX) (R : RR α β) (f : M α) : L2.St → Hp → (β → Hp → Prop) → Prop := fun σ H Q => ∃ G ρ, At K c G σ H ρ ∧ PostM K c W σ G H R Q (f ρ)
/-- .. its value in a slot of its own behind the others -/
def PostX (K : PySem.W.Frag) (c : Ct) (W : WX) (σ : L2.St) (G : Hp) (Q : VK) : Out D → Prop
  | .ok d ρ' => ∀ v G' H', Same G G' → At K c G' (σ ++ [some v]) H' (ρ' ++ [some d]) → Q v H'
  | .exn x fs ρ' => ∀ cls dd G' H', Same G G' → At K c G' σ H' ρ' → RepX K G' x fs cls dd → W cls dd σ H'
  | .stuck => False
def tX (K : PySem.W.Frag) (c : Ct) (W : WX) (f : M D) : TE := fun σ H Q => ∃ G ρ, At K c G σ H ρ ∧ PostX K c W σ G Q (f ρ)
abbrev EM (c : Ct) (W : WX) (X : Cx) (e : Expr) (f : M D) : Prop := PE X e (tM X.K c W (rv X.K) f)
abbrev ET (c : Ct) (W : WX) (X : Cx) (e : Expr) (f : M Bool) : Prop := PT X e (tM X.K c W rt f)
abbrev EA (c : Ct) (W : WX) (X : Cx) (es : List Expr) (f : M (List D)) : Prop := PA X es (tM X.K c W (rl X.K) f)
abbrev EX (c : Ct) (W : WX) (X : Cx) (e : Expr) (f : M D) : Prop := PE X e (tX X.K c W f)
section
variable {c : Ct} {W : WX} {X : Cx} {e : Expr} {es : List Expr} {α β : Type} {K : PySem.W.Frag} {σ : L2.St} {G H : Hp} {R : RR α β} {f : P α} {Q : β → Hp → Prop}
theorem tM_lift (q : tM K c W R (lift f) σ H Q) : tP K c W R f σ H Q := by
  obtain ⟨G, ρ, A, p⟩ := q
  refine ⟨G, ρ, A, ?_⟩
  unfold lift at p
  cases o : f ρ with
  | ok a => rw [o] at p; exact fun v G' H' g r => p v G' H' g.g (A.grow g) r
  | exn x fs => rw [o] at p; exact fun cls dd G' H' g r => p cls dd G' H' g.g (A.grow g) r
  | stuck => rw [o] at p; exact p
theorem em_p {f : P D} (h : DP c W X e f) : EM c W X e (lift f) := PE.imp h fun _ _ _ => tM_lift
theorem et_p {f : P Bool} (h : DT c W X e f) : ET c W X e (lift f) := PT.imp h fun _ _ _ => tM_lift
theorem ea_p {f : P (List D)} (h : DA c W X es f) : EA c W X es (lift f) := PA.imp h fun _ _ _ => tM_lift
theorem At.fp {K : PySem.W.Frag} {c : Ct} {G H : Hp} {σ : L2.St} {ρ : Rho} (A : At K c G σ H ρ) : ∃ fp : Nat → List Addr, (∀ i, SlotR K G H (σ.getD i none) (ρ.getD i none) (fp i)) ∧ (∀ i j a, a ∈ fp i → a ∈ fp j → i = j) ∧ (∀ i a, a ∈ fp i → G a = none ∧ (c.H0 a = none ∨ a ∈ c.F0 i)) ∧ ∀ i a, a ∈ fp i → H a ≠ none := by
  obtain ⟨fp, s1, s2, s3⟩ := A.slot
  exact ⟨fp, s1, s2, s3, fun i a h => (s1 i).there a h⟩
theorem getD_append_lt {α : Type} {l : List (Option α)} {x : Option α} {i : Nat} (h : i < l.length) : (l ++ [x]).getD i none = l.getD i none := by simp [List.getD, List.getElem?_append_left h]
theorem getD_append_len {α : Type} {l : List (Option α)} {x : Option α} : (l ++ [x]).getD l.length none = x := by simp [List.getD]
theorem getD_append_gt {α : Type} {l : List (Option α)} {x : Option α} {i : Nat} (h : l.length < i) : (l ++ [x]).getD i none = none := by
  simp [List.getD, List.getElem?_eq_none_iff.mpr (show (l ++ [x]).length ≤ i by simp; omega)]
theorem getD_ge {α : Type} {l : List (Option α)} {i : Nat} (h : l.length ≤ i) : l.getD i none = none := by simp [List.getD, List.getElem?_eq_none_iff.mpr h]
theorem app_get_lt {α : Type} {l : List α} {x : α} {i : Nat} (h : i < l.length) : (l ++ [x])[i]? = l[i]? := List.getElem?_append_left h
/-- a value put behind the slots: its own objects stand in no slot -/
theorem At.push {K : PySem.W.Frag} {c : Ct} {G H : Hp} {σ : L2.St} {ρ : Rho} (A : At K c G σ H ρ) {d : D} {v : V} {l : List Addr} (r : OwnV K G H d v l) {fp : Nat → List Addr} (s1 : ∀ i, SlotR K G H (σ.getD i none) (ρ.getD i none) (fp i)) (s2 : ∀ i j a, a ∈ fp i → a ∈ fp j → i = j) (s3 : ∀ i a, a ∈ fp i → G a = none ∧ (c.H0 a = none ∨ a ∈ c.F0 i)) (hl : ∀ j a, a ∈ l → a ∉ fp j)
    (hn : ∀ a ∈ l, G a = none ∧ c.H0 a = none) : At K c G (σ ++ [some v]) H (ρ ++ [some d]) := by
  have ha := A.arl
  have eL := A.len
  refine ⟨A.sub, A.g0, A.gnew, A.keepT, A.dom, A.tb, A.nt, A.f0, by simp; omega, by simp [eL], fun j w e h1 h2 => ?_, fpSet fp σ.length l, fun j => ?_, fun j k a ha hb => ?_, fun j a ha => ?_⟩
  · have hj : j < σ.length := Nat.lt_of_lt_of_le (List.getElem?_eq_some_iff.mp h1).1 ha
    rw [app_get_lt (by rw [eL]; exact hj)] at h2
    rw [app_get_lt hj]
    exact A.par j w e h1 h2
  · rcases Nat.lt_trichotomy j σ.length with h | h | h
    · rw [getD_append_lt h, getD_append_lt (by rw [eL]; exact h), fpSet_ne (by omega)]
      exact s1 j
    · subst h
      rw [fpSet_self, getD_append_len, ← eL, getD_append_len]
      exact r
    · rw [getD_append_gt h, getD_append_gt (by rw [eL]; exact h), fpSet_ne (by omega)]
      have := s1 j
      rw [getD_ge (by omega), getD_ge (by omega)] at this
      exact this
  · by_cases hj : j = σ.length
    · rw [hj, fpSet_self] at ha
      by_cases hk : k = σ.length
      · rw [hj, hk]
      · rw [fpSet_ne hk] at hb
        exact absurd hb (hl k a ha)
    · rw [fpSet_ne hj] at ha
      by_cases hk : k = σ.length
      · rw [hk, fpSet_self] at hb
        exact absurd ha (hl j a hb)
      · rw [fpSet_ne hk] at hb
        exact s2 j k a ha hb
  · by_cases hj : j = σ.length
    · rw [hj, fpSet_self] at ha; exact ⟨(hn a ha).1, .inl (hn a ha).2⟩
    · rw [fpSet_ne hj] at ha; exact s3 j a ha
/-- .. and a new object -/
theorem At.pushX {K : PySem.W.Frag} {c : Ct} {G H G' H' : Hp} {σ : L2.St} {ρ : Rho} (A : At K c G σ H ρ) (g : Grow G H G' H') {d : D} {v : V} (r : rx K H d v G' H') : At K c G' (σ ++ [some v]) H' (ρ ++ [some d]) := by
  obtain ⟨l, r1, r2⟩ := r
  obtain ⟨fp, s1, s2, s3, s4⟩ := A.fp
  have A' := A.grow g
  refine A'.push r1 (fun i => (s1 i).mono g.g fun a ha => ?_) s2 (fun i a ha => ⟨g.nn (s3 i a ha).1 (s4 i a ha), (s3 i a ha).2⟩) (fun j a hal hj => s4 j a hj (r2 a hal).2) (fun a hal => ⟨(r2 a hal).1, ?_⟩)
  · cases q : H a with
    | none => exact absurd q (s4 i a ha)
    | some o => exact g.h _ _ q ((s1 i).nt a ha o q)
  · cases q : c.H0 a with
    | none => rfl
    | some o => exact absurd (r2 a hal).2 (A.dom a (ne_none_of q))
theorem getD_dropLast {α : Type} {l : List (Option α)} {x : Option α} {i : Nat} : l.getD i none = if i = l.length then none else (l ++ [x]).getD i none := by
  rcases Nat.lt_trichotomy i l.length with h | h | h
  · rw [if_neg (by omega), getD_append_lt h]
  · rw [if_pos h, getD_ge (by omega)]
  · rw [if_neg (by omega), getD_append_gt h, getD_ge (by omega)]
/-- the value behind the slots is dropped -/
theorem At.unpush {K : PySem.W.Frag} {c : Ct} {G H : Hp} {σ : L2.St} {ρ : Rho} {v : Option V} {d : Option D} (A : At K c G (σ ++ [v]) H (ρ ++ [d])) (ha : c.ar.length ≤ σ.length) : At K c G σ H ρ := by
  obtain ⟨fp, s1, s2, s3⟩ := A.slot
  have eL : ρ.length = σ.length := by have := A.len; simp at this; exact this
  refine ⟨A.sub, A.g0, A.gnew, A.keepT, A.dom, A.tb, A.nt, A.f0, ha, eL, fun j w e h1 h2 => ?_, fpSet fp σ.length [], fun j => ?_, fun j k a ha hb => ?_, fun j a ha => ?_⟩
  · have hj : j < ρ.length := (List.getElem?_eq_some_iff.mp h2).1
    have := A.par j w e h1 (by rw [app_get_lt hj]; exact h2)
    rw [app_get_lt (by rw [← eL]; exact hj)] at this
    exact this
  · rw [getD_dropLast (l := σ) (x := v), getD_dropLast (l := ρ) (x := d), eL]
    by_cases h : j = σ.length
    · rw [if_pos h, if_pos h, h, fpSet_self]
      exact rfl
    · rw [if_neg h, if_neg h, fpSet_ne h]
      exact s1 j
  · by_cases hj : j = σ.length
    · rw [hj, fpSet_self] at ha; cases ha
    · by_cases hk : k = σ.length
      · rw [hk, fpSet_self] at hb; cases hb
      · rw [fpSet_ne hj] at ha; rw [fpSet_ne hk] at hb; exact s2 j k a ha hb
  · by_cases hj : j = σ.length
    · rw [hj, fpSet_self] at ha; cases ha
    · rw [fpSet_ne hj] at ha; exact s3 j a ha
/-- the value behind the slots goes into a slot that is no parameter (or it is shared) -/
theorem At.take {K : PySem.W.Frag} {c : Ct} {G H : Hp} {σ : L2.St} {ρ : Rho} {v : V} {d : D} (A : At K c G (σ ++ [some v]) H (ρ ++ [some d])) {i : Nat} (ha : c.ar.length ≤ σ.length) (hi : i < σ.length) (hp : c.ar.length ≤ i ∨ isMut d = false) : At K c G (σ.set i (some v)) H (ρ.set i (some d)) := by
  obtain ⟨fp, s1, s2, s3⟩ := A.slot
  have eL : ρ.length = σ.length := by have := A.len; simp at this; exact this
  have r : OwnV K G H d v (fp σ.length) := by
    have := s1 σ.length
    rw [getD_append_len, ← eL, getD_append_len] at this
    rw [← eL]
    exact this
  have hlN : ∀ j a, a ∈ fp σ.length → a ∈ fp j → j = σ.length := fun j a h1 h2 => s2 _ _ _ h2 h1
  have ha0 := ha
  have B := A.unpush ha
  -- the slots behind: those ahead, with i's by the last
  have old : ∀ j, j ≠ σ.length → SlotR K G H (σ.getD j none) (ρ.getD j none) (fp j) := fun j h => by
    rw [getD_dropLast (l := σ) (x := some v), getD_dropLast (l := ρ) (x := some d), eL, if_neg h, if_neg h]
    exact s1 j
  refine ⟨B.sub, B.g0, B.gnew, B.keepT, B.dom, B.tb, B.nt, B.f0, by simpa using ha, by simp [eL], fun j w e h1 h2 => ?_, fun j => if j = i then fp σ.length else if j = σ.length then [] else fp j, fun j => ?_, fun j k a ha hb => ?_, fun j a ha => ?_⟩
  · by_cases hj : j = i
    · subst hj
      rw [List.getElem?_set_self (by rw [eL]; exact hi)] at h2
      have h2 := Option.some.inj (Option.some.inj h2)
      rcases hp with z | z
      · exact absurd (List.getElem?_eq_some_iff.mp h1).1 (by omega)
      · rw [h2] at z; cases z
    · rw [List.getElem?_set_ne (Ne.symm hj)] at h2 ⊢
      exact B.par j w e h1 h2
  · rw [getD_set, getD_set]
    by_cases hj : j = i
    · rw [if_pos ⟨hj, hi⟩, if_pos ⟨hj, by rw [eL]; exact hi⟩]
      show SlotR K G H (some v) (some d) (if j = i then fp σ.length else if j = σ.length then [] else fp j)
      rw [if_pos hj]
      exact r
    · rw [if_neg (fun z => hj z.1), if_neg (fun z => hj z.1)]
      show SlotR K G H _ _ (if j = i then fp σ.length else if j = σ.length then [] else fp j)
      rw [if_neg hj]
      by_cases h : j = σ.length
      · rw [if_pos h, getD_ge (by omega), getD_ge (by omega)]; exact rfl
      · rw [if_neg h]; exact old j h
  · have ha : a ∈ (if j = i then fp σ.length else if j = σ.length then [] else fp j) := ha
    have hb : a ∈ (if k = i then fp σ.length else if k = σ.length then [] else fp k) := hb
    by_cases hj : j = i
    · rw [if_pos hj] at ha
      by_cases hk : k = i
      · rw [hj, hk]
      · rw [if_neg hk] at hb
        by_cases h : k = σ.length
        · rw [if_pos h] at hb; cases hb
        · rw [if_neg h] at hb; exact absurd (hlN k a ha hb) h
    · rw [if_neg hj] at ha
      by_cases h : j = σ.length
      · rw [if_pos h] at ha; cases ha
      · rw [if_neg h] at ha
        by_cases hk : k = i
        · rw [if_pos hk] at hb; exact absurd (hlN j a hb ha) h
        · rw [if_neg hk] at hb
          by_cases h' : k = σ.length
          · rw [if_pos h'] at hb; cases hb
          · rw [if_neg h'] at hb; exact s2 j k a ha hb
  · have ha : a ∈ (if j = i then fp σ.length else if j = σ.length then [] else fp j) := ha
    by_cases hj : j = i
    · rw [if_pos hj] at ha
      refine ⟨(s3 _ a ha).1, .inl ((s3 _ a ha).2.resolve_right fun z => ?_)⟩
      rw [B.f0 _ ha0] at z
      cases z
    · rw [if_neg hj] at ha
      by_cases h : j = σ.length
      · rw [if_pos h] at ha; cases ha
      · rw [if_neg h] at ha; exact s3 j a ha
/-- a slot's value goes behind the slots -/
theorem At.move {K : PySem.W.Frag} {c : Ct} {G H : Hp} {σ : L2.St} {ρ : Rho} (A : At K c G σ H ρ) {i : Nat} {v : V} {d : D} (h1 : σ[i]? = some (some v)) (h2 : ρ[i]? = some (some d)) (hp : c.ar.length ≤ i ∨ isMut d = false) : At K c G (σ ++ [some v]) H (ρ.set i none ++ [some d]) := by
  obtain ⟨fp, s1, s2, s3⟩ := A.slot
  have r : OwnV K G H d v (fp i) := by
    have := s1 i
    rw [getD_of h1, getD_of h2] at this
    exact this
  have hi : i < ρ.length := (List.getElem?_eq_some_iff.mp h2).1
  have B : At K c G σ H (ρ.set i none) := by
    refine ⟨A.sub, A.g0, A.gnew, A.keepT, A.dom, A.tb, A.nt, A.f0, A.arl, by simp [A.len], fun j w e h1 h2 => ?_, fpSet fp i [], fun j => ?_, fun j k a ha hb => ?_, fun j a ha => ?_⟩
    · by_cases hj : j = i
      · subst hj; rw [List.getElem?_set_self hi] at h2; cases h2
      · rw [List.getElem?_set_ne (Ne.symm hj)] at h2; exact A.par j w e h1 h2
    · rw [getD_set]
      by_cases hj : j = i
      · rw [if_pos ⟨hj, hi⟩, hj, fpSet_self]
        cases σ.getD i none <;> exact rfl
      · rw [if_neg (fun z => hj z.1), fpSet_ne hj]; exact s1 j
    · by_cases hj : j = i
      · rw [hj, fpSet_self] at ha; cases ha
      · by_cases hk : k = i
        · rw [hk, fpSet_self] at hb; cases hb
        · rw [fpSet_ne hj] at ha; rw [fpSet_ne hk] at hb; exact s2 j k a ha hb
    · by_cases hj : j = i
      · rw [hj, fpSet_self] at ha; cases ha
      · rw [fpSet_ne hj] at ha; exact s3 j a ha
  refine B.push r (fp := fpSet fp i []) (fun j => ?_) (fun j k a ha hb => ?_) (fun j a ha => ?_) (fun j a hal hj => ?_) (fun a hal => ⟨(s3 i a hal).1, (s3 i a hal).2.resolve_right fun z => ?_⟩)
  · rw [getD_set]
    by_cases hj : j = i
    · rw [if_pos ⟨hj, hi⟩, hj, fpSet_self]
      cases σ.getD i none <;> exact rfl
    · rw [if_neg (fun z => hj z.1), fpSet_ne hj]; exact s1 j
  · by_cases hj : j = i
    · rw [hj, fpSet_self] at ha; cases ha
    · by_cases hk : k = i
      · rw [hk, fpSet_self] at hb; cases hb
      · rw [fpSet_ne hj] at ha; rw [fpSet_ne hk] at hb; exact s2 j k a ha hb
  · by_cases hj : j = i
    · rw [hj, fpSet_self] at ha; cases ha
    · rw [fpSet_ne hj] at ha; exact s3 j a ha
  · by_cases hk : j = i
    · rw [hk, fpSet_self] at hj; cases hj
    · rw [fpSet_ne hk] at hj; exact hk (s2 j i a hj hal)
  · rcases hp with hp | hp
    · rw [A.f0 i hp] at z; cases z
    · rw [((ownV_val hp).mp r).2] at hal; cases hal
end
/-! ### into X -/
theorem Rep.notMut {K : PySem.W.Frag} {G : Hp} {d : D} {v : V} (r : Rep K G d v) : isMut d = false := by cases d <;> first | rfl | exact r.elim
section
variable {c : Ct} {W : WX} {X : Cx} {e : Expr} {f : P D} {g : M D}
def pMut (f : P D) : P D := fun ρ => (f ρ).bind fun d => .ok (.mut d)
theorem dx_n (h : DN c W X e f) : DX c W X e (pMut f) := PE.imp h fun σ H Q ⟨G, ρ, A, p⟩ => ⟨G, ρ, A, by
  have p : PostP X.K W σ G H (rx X.K) Q ((f ρ).bind fun d => .ok (.mut d)) := p
  cases o : f ρ with
  | ok a => rw [o] at p; exact fun v G' H' g ⟨fp, r1, r2⟩ => p v G' H' g ⟨fp, ownV_mut.mpr r1, r2⟩
  | exn x fs => rw [o] at p; exact p
  | stuck => rw [o] at p; exact p⟩
theorem dx_p (h : DP c W X e f) : DX c W X e f := PE.imp h fun σ H Q ⟨G, ρ, A, p⟩ => ⟨G, ρ, A, by
  cases o : f ρ with
  | ok a => rw [o] at p; exact fun v G' H' g r => p v G' H' g ⟨[], (ownV_val (Rep.notMut r)).mpr ⟨r, rfl⟩, by simp⟩
  | exn x fs => rw [o] at p; exact p
  | stuck => rw [o] at p; exact p⟩
theorem ex_x (h : DX c W X e f) : EX c W X e (lift f) := PE.imp h fun σ H Q ⟨G, ρ, A, p⟩ => ⟨G, ρ, A, by
  unfold lift at p
  cases o : f ρ with
  | ok a => rw [o] at p; exact fun v G' H' g r => p v G' H' g.g (A.pushX g r)
  | exn x fs => rw [o] at p; exact fun cls dd G' H' g r => p cls dd G' H' g.g (A.grow g) r
  | stuck => rw [o] at p; exact p⟩
theorem At.pushR {K : PySem.W.Frag} {c : Ct} {G H : Hp} {σ : L2.St} {ρ : Rho} (A : At K c G σ H ρ) {d : D} {v : V} (r : Rep K G d v) : At K c G (σ ++ [some v]) H (ρ ++ [some d]) :=
  A.pushX (.refl A.sub) ⟨[], (ownV_val (Rep.notMut r)).mpr ⟨r, rfl⟩, by simp⟩
theorem ex_m (h : EM c W X e g) : EX c W X e g := PE.imp h fun σ H Q ⟨G, ρ, A, p⟩ => ⟨G, ρ, A, by
  cases o : g ρ with
  | ok a r => rw [o] at p; exact fun v G' H' s A' r => p v G' H' s (A'.pushR r)
  | exn x fs r => rw [o] at p; exact p
  | stuck => rw [o] at p; exact p⟩
end
end DL
namespace DL
open PySem PySem.Spec PyProof.Rows L2
variable [TheW]
/-! ### statements -/
inductive Fl where
  | nx (ρ : Rho) | ret (d : D) (ρ : Rho) | bk (ρ : Rho) | ct (ρ : Rho) | exn (x : Str) (fs : List (Str × D)) (ρ : Rho) | stuck
abbrev S := Rho → Fl
def PostS (K : PySem.W.Frag) (c : Ct) (W : WX) (E : Ends) (G : Hp) : Fl → Prop
  | .nx ρ' => ∀ G' σ' H', Same G G' → At K c G' σ' H' ρ' → E.nx σ' H'
  | .ret d ρ' => ∀ v G' σ' H', Same G G' → c.ar.length ≤ σ'.length → At K c G' (σ' ++ [some v]) H' (ρ' ++ [some d]) → E.rt v H'
  | .bk ρ' => ∀ G' σ' H', Same G G' → At K c G' σ' H' ρ' → E.bk σ' H'
  | .ct ρ' => ∀ G' σ' H', Same G G' → At K c G' σ' H' ρ' → E.ct σ' H'
  | .exn x fs ρ' => ∀ cls dd G' σ' H', Same G G' → At K c G' σ' H' ρ' → RepX K G' x fs cls dd → W cls dd σ' H'
  | .stuck => False
def tS (K : PySem.W.Frag) (c : Ct) (W : WX) (s : S) : TS := fun E σ H => ∃ G ρ, At K c G σ H ρ ∧ PostS K c W E G (s ρ)
abbrev DS (c : Ct) (W : WX) (X : Cx) (st : Stmt) (s : S) : Prop := PS X st (tS X.K c W s)
abbrev DSs (c : Ct) (W : WX) (X : Cx) (st : List Stmt) (s : S) : Prop := PSs X st (tS X.K c W s)
def Fl.seq (a : Fl) (b : S) : Fl := match a with
  | .nx ρ => b ρ
  | x => x
def sNext : S := fun ρ => .nx ρ
def sSeq (a b : S) : S := fun ρ => (a ρ).seq b
def sStuck : S := fun _ => .stuck
def sBreak : S := fun ρ => .bk ρ
def sCont : S := fun ρ => .ct ρ
def Out.fl {α : Type} (o : Out α) (k : α → Rho → Fl) : Fl := match o with
  | .ok a ρ => k a ρ
  | .exn x fs ρ => .exn x fs ρ
  | .stuck => .stuck
/-- name = e; n: the parameters' number -/
def sSet (n i : Nat) (f : M D) : S := fun ρ => (f ρ).fl fun d ρ' => match isMut d && decide (i < n) with
  | true => .stuck
  | false => .nx (ρ'.set i (some d))
def sExpr {α : Type} (f : M α) : S := fun ρ => (f ρ).fl fun _ ρ' => .nx ρ'
def sIf (t : M Bool) (a b : S) : S := fun ρ => (t ρ).fl fun b' ρ' => if b' = true then a ρ' else b ρ'
def sRet (f : M D) : S := fun ρ => (f ρ).fl fun d ρ' => .ret d ρ'
def sRetN : S := fun ρ => .ret .non ρ
/-- a name's own object is given back -/
def sRetV (n i : Nat) : S := fun ρ => match ρ[i]? with
  | some (some d) => (match isMut d && decide (i < n) with
    | true => .stuck
    | false => .ret d (ρ.set i none))
  | _ => .stuck
section
variable {c : Ct} {W : WX} {X : Cx} {e : Expr} {st : Stmt} {rest : List Stmt} {a b s : S} {f : M D} {t : M Bool} {pos : Pos} {K : PySem.W.Frag} {E : Ends} {σ : L2.St} {G H : Hp}
theorem PostS.mono {fl : Fl} {G' : Hp} (h : PostS K c W E G fl) (s : Same G G') : PostS K c W E G' fl := by
  cases fl with
  | nx ρ => exact fun G1 σ' H' s1 A => h G1 σ' H' (s.trans s1) A
  | ret d ρ => exact fun v G1 σ' H' s1 l A => h v G1 σ' H' (s.trans s1) l A
  | bk ρ => exact fun G1 σ' H' s1 A => h G1 σ' H' (s.trans s1) A
  | ct ρ => exact fun G1 σ' H' s1 A => h G1 σ' H' (s.trans s1) A
  | exn x fs ρ => exact fun cls dd G1 σ' H' s1 A => h cls dd G1 σ' H' (s.trans s1) A
  | stuck => exact h
theorem dss_nil : DSs c W X [] sNext := PSs.imp pss_nil fun E σ H ⟨G, ρ, A, p⟩ => p G σ H (.refl _) A
theorem dss_cons (h1 : DS c W X st a) (h2 : DSs c W X rest b) : DSs c W X (st :: rest) (sSeq a b) := PSs.imp (pss_cons h1 h2) fun E σ H ⟨G, ρ, A, p⟩ => ⟨G, ρ, A, by
  have p : PostS X.K c W E G ((a ρ).seq b) := p
  cases o : a ρ with
  | nx ρ' => rw [o] at p; exact fun G' σ' H' s A' => ⟨G', ρ', A', PostS.mono p s⟩
  | ret d ρ' => rw [o] at p; exact p
  | bk ρ' => rw [o] at p; exact p
  | ct ρ' => rw [o] at p; exact p
  | exn x fs ρ' => rw [o] at p; exact p
  | stuck => rw [o] at p; exact p⟩
theorem PostS.outM {α α' : Type} {R : RR α α'} {o : Out α} {k : α → Rho → Fl} {Q : α' → Hp → Prop} (h : PostS K c W E G (o.fl k)) (hk : ∀ d ρ', PostS K c W E G (k d ρ') → ∀ v G' H', Same G G' → At K c G' σ H' ρ' → R H d v G' H' → Q v H') : PostM K c W σ G H R Q o := by
  cases o with
  | ok d ρ' => exact hk d ρ' h
  | exn x fs ρ' => exact fun cls dd G' H' s A r => h cls dd G' σ H' s A r
  | stuck => exact h
theorem PostS.outX {o : Out D} {k : D → Rho → Fl} {Q : VK} (h : PostS K c W E G (o.fl k)) (hk : ∀ d ρ', PostS K c W E G (k d ρ') → ∀ v G' H', Same G G' → At K c G' (σ ++ [some v]) H' (ρ' ++ [some d]) → Q v H') : PostX K c W σ G Q o := by
  cases o with
  | ok d ρ' => exact hk d ρ' h
  | exn x fs ρ' => exact fun cls dd G' H' s A r => h cls dd G' σ H' s A r
  | stuck => exact h
theorem At.take' {v : V} {d : D} {ρ : Rho} (A : At K c G (σ ++ [some v]) H (ρ ++ [some d])) {i : Nat} (ha : c.ar.length ≤ σ.length) (hp : c.ar.length ≤ i ∨ isMut d = false) : At K c G (σ.set i (some v)) H (ρ.set i (some d)) := by
  by_cases hi : i < σ.length
  · exact A.take ha hi hp
  · have B := A.unpush ha
    have eL := B.len
    rw [List.set_eq_of_length_le (by omega), List.set_eq_of_length_le (by omega)]
    exact B
theorem set_imp {n i : Nat} (hc : c.ar.length = n) (E : Ends) (σ : L2.St) (H : Hp) (q : tS K c W (sSet n i f) E σ H) : tAsg (tX K c W f) (gName i) E σ H := by
  obtain ⟨G, ρ, A, p⟩ := q
  refine ⟨G, ρ, A, PostS.outX p fun d ρ' q v G' H' s A' => ?_⟩
  split at q
  · exact q.elim
  · rename_i hm
    refine q G' _ H' s (A'.take' A.arl ?_)
    by_cases hd : isMut d = true
    · rw [hd] at hm
      simp at hm
      exact .inl (by omega)
    · exact .inr (by simpa using hd)
theorem ds_set {n i : Nat} {x : Str} {pos' : Pos} (hc : c.ar.length = n) (hN : X.N.Nodup) (he : EX c W X e f) (hi : X.N[i]? = some x := by rfl) (hx : Loc X.env.scope x := by first | exact .inl rfl | exact .inr rfl) (hs : swapsWith e (some (.Name x pos')) pos.line X.env = pure false := by rfl) (hf : X.fn x = true ∨ X.env.scope.names.lookup x = some .local := by first | exact .inl rfl | exact .inr rfl | assumption) :
    DS c W X (.Assign [.Name x pos'] e pos) (sSet n i f) := PS.imp (ps_set hN hi hx he hs hf) (set_imp hc)
theorem ds_setLc {n i : Nat} {x : Str} {py : Pos} {elt tg iter : Expr} {ifs : List Expr} {scope : Scope} {own : List (Str × Nat)} {pos spos : Pos} {t : Tgt} {src : P (List D)} {tt : P Bool} {te : P D} (hc : c.ar.length = n) (hca : X.calm = true) (hN : X.N.Nodup)
    (hi : DIB c W X tg iter src) (ok : BlkOk X.N X.env.scope scope own)
    (hg : ∀ s H C cl fp, PG (BX X s H scope cl C fp) tg (tG X.K t)) (ht : ∀ s H C cl fp, DTs c (BX X s H scope cl C fp) ifs tt) (he : ∀ s H C cl fp, DP c noW (BX X s H scope cl C fp) elt te)
    (hsw : swapsWith (.ListComp elt [⟨tg, iter, ifs, 0⟩] scope pos) (some (.Name x py)) spos.line X.env = pure true := by rfl) (hy : X.N[i]? = some x := by rfl) (hyl : X.env.scope.names.lookup x = some .local := by rfl)
    (hv : (slotsT t).all (fun i => (own.map (·.2)).contains i) = true := by rfl) (hs : ∀ x, foldedSetIterable iter X.env x = pure x := by intro _; rfl) :
    DS c W X (.Assign [.Name x py] (.ListComp elt [⟨tg, iter, ifs, 0⟩] scope pos) spos) (sSet n i (lift (pMut (pComp (own.map (·.2)) t src tt te)))) :=
  PS.imp (ps_setLc hca hN hy hyl hsw hi ok hg ht he hs) fun E σ H q => by
    have q1 := set_imp hc E σ H q
    obtain ⟨G, ρ, A, p⟩ := q1
    refine lc_imp (W := W) (tt := tt) (te := te) hv σ H _ ⟨G, ρ, A, ?_⟩
    unfold lift at p
    have e1 : (pMut (pComp (own.map (·.2)) t src tt te) ρ) = (pComp (own.map (·.2)) t src tt te ρ).bind fun d => .ok (.mut d) := rfl
    rw [e1] at p
    cases o : pComp (own.map (·.2)) t src tt te ρ with
    | ok d => rw [o] at p; exact fun v G' H' g ⟨fp, r1, r2⟩ => p v G' H' g.g (A.pushX g ⟨fp, ownV_mut.mpr r1, r2⟩)
    | exn x fs => rw [o] at p; exact fun cls dd G' H' g r => p cls dd G' H' g.g (A.grow g) r
    | stuck => rw [o] at p; exact p
theorem ds_expr {α : Type} {R : RR α V} {f : M α} (he : PE X e (tM X.K c W R f)) (hs : swapsWith e none pos.line X.env = pure false := by rfl) : DS c W X (.Expr e pos) (sExpr f) :=
  PS.imp (ps_expr he hs) fun E σ H ⟨G, ρ, A, p⟩ => ⟨G, ρ, A, PostS.outM p fun d ρ' q v G' H' s A' _ => q G' σ H' s A'⟩
theorem ds_if {ce : Expr} {as bs : List Stmt} (ht : ET c W X ce t) (ha : DSs c W X as a) (hb : DSs c W X bs b) : DS c W X (.If ce as bs pos) (sIf t a b) :=
  PS.imp (ps_if ht ha hb) fun E σ H ⟨G, ρ, A, p⟩ => ⟨G, ρ, A, PostS.outM p fun d ρ' q v G' H' s A' r => by
    have r : v = d := r
    subst r
    cases v with
    | true => simp only [if_true] at q ⊢; exact ⟨G', ρ', A', PostS.mono q s⟩
    | false => simp only [Bool.false_eq_true, if_false] at q ⊢; exact ⟨G', ρ', A', PostS.mono q s⟩⟩
theorem ds_ret (he : EX c W X e f) : DS c W X (.Return (some e) pos) (sRet f) :=
  PS.imp (ps_ret he) fun E σ H ⟨G, ρ, A, p⟩ => ⟨G, ρ, A, PostS.outX p fun d ρ' q v G' H' s A' => q v G' σ H' s A.arl A'⟩
theorem ds_retV (n i : Nat) {x : Str} {p : Pos} (hc : c.ar.length = n) (hN : X.N[i]? = some x := by rfl) (hv : Vis X.env.scope x := by first | exact Or.inl rfl | exact Or.inr (Or.inl rfl) | exact Or.inr (Or.inr rfl)) (hd : (x == ("__debug__" : Str)) = false := by decide)
    (hcd : (x == ("__classdict__" : Str)) = false := by decide) : DS c W X (.Return (some (.Name x p)) pos) (sRetV n i) :=
  PS.imp (ps_ret (pe_var hN hv hd hcd)) fun E σ H ⟨G, ρ, A, p⟩ => by
    unfold sRetV at p
    split at p
    · rename_i d e
      split at p
      · exact p.elim
      · rename_i hm
        obtain ⟨v, fp, h1, h2⟩ := A.get e
        refine ⟨v, h1, p v G σ H (.refl _) A.arl (A.move h1 e ?_)⟩
        by_cases hd : isMut d = true
        · rw [hd] at hm
          simp at hm
          exact .inl (by omega)
        · exact .inr (by simpa using hd)
    · exact p.elim
/-! ### for -/
def loopF (t : Tgt) (b : S) : List D → S
  | [], ρ => .nx ρ
  | d :: ds, ρ => match asg t d with
    | some l => (match b (setR ρ l) with
      | .nx ρ' => loopF t b ds ρ'
      | .ct ρ' => loopF t b ds ρ'
      | .bk ρ' => .nx ρ'
      | .ret d ρ' => .ret d ρ'
      | .exn x fs ρ' => .exn x fs ρ'
      | .stuck => .stuck)
    | none => .stuck
def sFor (src : M (List D)) (t : Tgt) (b : S) : S := fun ρ => (src ρ).fl fun ds ρ' => loopF t b ds ρ'
abbrev EI (c : Ct) (W : WX) (X : Cx) (tg e : Expr) (f : M (List D)) : Prop := PI X tg e (tM X.K c W (rf X.K) f)
theorem ei_i {tg : Expr} {f : P (List D)} (h : DI c W X tg e f) : EI c W X tg e (lift f) := PI.imp h fun _ _ _ => tM_lift
theorem ds_for {tg iter : Expr} {body : List Stmt} {src : M (List D)} {tgt : Tgt} (hp : PassesOwn (model X.prog X.w) X.A X.env X.xe) (hc : X.calm = true) (hi : EI c W X tg iter src) (hg : PG X tg (tG X.K tgt)) (hb : DSs c W X body b)
    (hs : ∀ x, foldedSetIterable iter X.env x = pure x := by intro _; rfl) : DS c W X (.For tg iter body [] pos) (sFor src tgt b) :=
  PS.imp (ps_for hp hc hi hg hb hs) fun E σ H ⟨G, ρ, A, p⟩ => ⟨G, ρ, A, PostS.outM p fun ds ρ1 q J G1 H1 s1 A1 fe => by
    have q := PostS.mono q s1
    refine ⟨fun i m σ H => i ≤ ds.length ∧ m = ds.length - i ∧ ∃ Gc ρc, Same G1 Gc ∧ At X.K c Gc σ H ρc ∧ PostS X.K c W E Gc (loopF tgt b (ds.drop i) ρc), ⟨_, Nat.zero_le _, rfl, G1, ρ1, .refl _, A1, q⟩, ?_⟩
    rintro i m σc Hc ⟨hi, rfl, Gc, ρc, sc, Ac, pc⟩
    obtain ⟨f1, f2⟩ := fe Gc Hc sc Ac.sub
    by_cases hlt : i < ds.length
    · refine .inr ?_
      obtain ⟨go, yl⟩ := f1 i ds[i] (List.getElem?_eq_getElem hlt)
      refine ⟨go, fun σ' H' => ∃ Gc ρc, Same G1 Gc ∧ At X.K c Gc σ' H' ρc ∧ PostS X.K c W E Gc (loopF tgt b (ds.drop (i + 1)) ρc), fun σ' H' n => ⟨_, by omega, by omega, rfl, n⟩, fun x H' y => ?_⟩
      obtain ⟨G', g', rx⟩ := yl x H' y
      rw [List.drop_eq_getElem_cons hlt] at pc
      unfold loopF at pc
      refine ⟨G', ds[i], g'.s, rx, ?_⟩
      split at pc
      case h_2 => exact pc.elim
      rename_i l el
      try rw [el]
      intro mm hm
      have A2 := (Ac.grow g').sets hm
      refine ⟨G', _, A2, ?_⟩
      have pc := PostS.mono pc g'.g
      cases o : b (setR ρc l) with
      | nx ρ' => rw [o] at pc; exact fun G2 σ2 H2 s2 A2 => ⟨G2, ρ', (sc.trans g'.g).trans s2, A2, PostS.mono pc s2⟩
      | ct ρ' => rw [o] at pc; exact fun G2 σ2 H2 s2 A2 => ⟨G2, ρ', (sc.trans g'.g).trans s2, A2, PostS.mono pc s2⟩
      | bk ρ' => rw [o] at pc; exact pc
      | ret d ρ' => rw [o] at pc; exact pc
      | exn x fs ρ' => rw [o] at pc; exact pc
      | stuck => rw [o] at pc; exact pc
    · refine .inl ⟨f2 i (by omega), ?_⟩
      rw [List.drop_eq_nil_of_le (by omega)] at pc
      exact pc Gc σc Hc (.refl _) Ac⟩
/-! ### while -/
def loopW (t : M Bool) (b : S) : Nat → S
  | 0, _ => .stuck
  | n + 1, ρ => match t ρ with
    | .ok true ρ1 => (match b ρ1 with
      | .nx ρ' => loopW t b n ρ'
      | .ct ρ' => loopW t b n ρ'
      | .bk ρ' => .nx ρ'
      | .ret d ρ' => .ret d ρ'
      | .exn x fs ρ' => .exn x fs ρ'
      | .stuck => .stuck)
    | .ok false ρ1 => .nx ρ1
    | .exn x fs ρ' => .exn x fs ρ'
    | .stuck => .stuck
open Classical in
noncomputable def sWhile (t : M Bool) (b : S) : S := fun ρ => if h : ∃ n, loopW t b n ρ ≠ .stuck then loopW t b (Classical.choose h) ρ else .stuck
end
end DL
namespace DL
open PySem PySem.Spec PyProof.Rows L2
variable [TheW]
/-! ### what a def promises -/
abbrev Fd := List D → Out D
def runF (m : Nat) (s : S) : Fd := fun ds => match s (ds.map some ++ List.replicate (m - ds.length) none) with
  | .nx ρ => .ok .non ρ
  | .ret d ρ => .ok d ρ
  | .exn x fs ρ => .exn x fs ρ
  | _ => .stuck
def PostF (K : PySem.W.Frag) (c : Ct) (Q : VK) : Out D → Prop
  | .ok d ρ' => ∀ v G' σ' H', c.ar.length ≤ σ'.length → At K c G' (σ' ++ [some v]) H' (ρ' ++ [some d]) → Q v H'
  | _ => False
def spF (K : PySem.W.Frag) (n : Nat) (F : Fd) : Sp := fun vs H Q _ => ∃ G ds F0, ds.length = n ∧ At K ⟨H, G, F0, vs⟩ G (vs.map some) H (ds.map some) ∧ PostF K ⟨H, G, F0, vs⟩ Q (F ds)
theorem spF_len {K : PySem.W.Frag} {n : Nat} {F : Fd} {vs : List V} {H : Hp} {Q : VK} {E : XK} (h : spF K n F vs H Q E) : vs.length = n := by
  obtain ⟨G, ds, F0, h1, A, _⟩ := h
  have := A.len
  simp at this
  omega
theorem getD_app_rep {α : Type} {l : List (Option α)} {k i : Nat} : (l ++ List.replicate k none).getD i none = l.getD i none := by
  by_cases h : i < l.length
  · simp [List.getD, List.getElem?_append_left h]
  · rw [getD_ge (l := l) (by omega)]
    simp only [List.getD]
    rw [List.getElem?_append_right (by omega), List.getElem?_replicate]
    split <;> rfl
theorem At.ext {K : PySem.W.Frag} {c : Ct} {G H : Hp} {σ : L2.St} {ρ : Rho} (A : At K c G σ H ρ) (k : Nat) : At K c G (σ ++ List.replicate k none) H (ρ ++ List.replicate k none) := by
  obtain ⟨fp, s1, s2, s3⟩ := A.slot
  refine ⟨A.sub, A.g0, A.gnew, A.keepT, A.dom, A.tb, A.nt, A.f0, by have := A.arl; simp; omega, by simp [A.len], fun j w e h1 h2 => ?_, fp, fun j => ?_, s2, s3⟩
  · have hj : j < σ.length := Nat.lt_of_lt_of_le (List.getElem?_eq_some_iff.mp h1).1 A.arl
    rw [List.getElem?_append_left hj]
    rw [List.getElem?_append_left (by rw [A.len]; exact hj)] at h2
    exact A.par j w e h1 h2
  · rw [getD_app_rep, getD_app_rep]
    exact s1 j
section
variable {P : Program} {w : World} {K : PySem.W.Frag} {mg : Str → Option Value} {base : Heap} {x qual : Str} {params : Arguments} {body : List Stmt} {scope : Scope} {dvs : List V} {kws : List (Str × V)} {f : Addr} {fd : FuncData}
/-- the context of a def's body -/
abbrev FX (P : Program) (w : World) (K : PySem.W.Frag) (mg : Str → Option Value) (base : Heap) (N : List Str) (qual : Str) (scope : Scope) (f : Addr) (cdv : Value) (A : Around) (outer : List Env) (s : Shared) (H : Hp) (E : XK) : Cx := (cxOf CX0 P w K mg base N qual scope f cdv A outer s H E).nox
theorem fn_body {N ps : List Str} {k : Nat} {st : S} (F : FunD K x qual params body scope dvs kws f fd) (Sc : FnScope N ps scope)
    (hb : ∀ (c : Ct) (cdv : Value) (A : Around) (outer : List Env) (s : Shared) (H : Hp) (E : XK), c.ar.length = ps.length → Room k (A.deeper (envOfC qual scope s.heap.objs.size f cdv)) → DSs c noW (FX P w K mg base N qual scope f cdv A outer s H E) body st) :
    FnOk P w K mg base CX0 (k + 1) f fd ps (spF K ps.length (runF N.length st)) :=
  F.ok Sc (fun vs H Q E h => spF_len h) fun cdv A outer s H vs Q E hr h => by
    have hl := spF_len h
    obtain ⟨G, ds, F0, h1, A0, p⟩ := h
    refine ⟨_, PSs.nox (hb ⟨H, G, F0, vs⟩ cdv A outer s H E hl hr), G, ds.map some ++ List.replicate (N.length - ds.length) none, ?_, ?_⟩
    · have := A0.ext (N.length - ds.length)
      rw [show ds.length = vs.length by omega] at this ⊢
      exact this
    · unfold runF at p
      cases o : st (ds.map some ++ List.replicate (N.length - ds.length) none) with
      | nx ρ => rw [o] at p; exact fun G' σ' H' s' A' => p .non G' σ' H' A'.arl (A'.pushR (d := .non) rfl)
      | ret d ρ => rw [o] at p; exact fun v G' σ' H' s' l A' => p v G' σ' H' l A'
      | bk ρ => rw [o] at p; exact False.elim p
      | ct ρ => rw [o] at p; exact False.elim p
      | exn x fs ρ => rw [o] at p; exact False.elim p
      | stuck => rw [o] at p; exact p
end
/-! ### calls whose arguments are shared -/
def pCallF (n : Nat) (F : Fd) (fs : P (List D)) : P D := fun ρ => (fs ρ).bind fun ds => if ds.length = n then (match F ds with
  | .ok d _ => .ok d
  | _ => .stuck) else .stuck
section
variable {c : Ct} {W : WX} {X : Cx} {k n : Nat} {f : Addr} {fd : FuncData} {ps : List Str} {x : Str} {p pos : Pos} {e : Expr} {es : List Expr} {fs : P (List D)} {F : Fd} {K : PySem.W.Frag}
theorem getD_map {α β : Type} {l : List α} {f : α → Option β} {i : Nat} : (l.map f).getD i none = (l[i]?).bind f := by
  simp only [List.getD, List.getElem?_map]
  cases l[i]? <;> rfl
theorem paired_get {α β : Type} {R : α → β → Prop} : ∀ {l : List α} {m : List β} {i : Nat}, Paired R l m → (l[i]? = none ∧ m[i]? = none) ∨ ∃ a b, l[i]? = some a ∧ m[i]? = some b ∧ R a b
  | _, _, _, .nil => .inl ⟨rfl, rfl⟩
  | _ :: _, _ :: _, 0, .cons r t => .inr ⟨_, _, rfl, rfl, r⟩
  | _ :: _, _ :: _, i + 1, .cons r t => by
    have := paired_get (i := i) t
    simpa using this
theorem RepL.paired {G : Hp} : ∀ {ds : List D} {vs : List V}, RepL K G ds vs → Paired (Rep K G) ds vs
  | [], _, h => by have h : _ = [] := h; subst h; exact .nil
  | d :: ds, _, ⟨v, r, h1, h2, h3⟩ => by subst h1; exact .cons h2 (RepL.paired h3)
theorem entry_rep {G H : Hp} {ds : List D} {vs : List V} (s : Same G H) (tb : Tabs G H) (nt : NTG G) (r : RepL K G ds vs) : At K ⟨H, G, fun _ => [], vs⟩ G (vs.map some) H (ds.map some) := by
  refine ⟨s, .refl _, fun a h => .inl h, fun a o e _ _ => e, fun a h => h, tb, nt, fun _ _ => rfl, by simp, by simp [r.length], fun i v d h1 h2 => by simp at h2; simp [h1], fun _ => [], fun i => ?_, fun i j a h => absurd h (by simp), fun i a h => absurd h (by simp)⟩
  rw [getD_map, getD_map]
  rcases paired_get (i := i) r.paired with ⟨h1, h2⟩ | ⟨d, v, h1, h2, h3⟩
  · rw [h1, h2]; exact rfl
  · rw [h1, h2]; exact (ownV_val h3.notMut).mpr ⟨h3, rfl⟩
/-- a call behind which only new objects are -/
theorem exit_x {G H G' H' : Hp} {vs : List V} {σ : L2.St} {ρ : Rho} {v : V} {d : D} (A : At K ⟨H, G, fun _ => [], vs⟩ G' (σ ++ [some v]) H' (ρ ++ [some d])) : Grow G H G' H' ∧ rx K H d v G' H' := by
  refine ⟨⟨A.g0, fun a o e => A.keepT a o e (by simp), A.sub, A.gnew, A.dom, fun _ => A.tb, fun _ => A.nt⟩, ?_⟩
  obtain ⟨fp, s1, s2, s3⟩ := A.slot
  have eL : ρ.length = σ.length := by have := A.len; simp at this; exact this
  refine ⟨fp σ.length, ?_, fun a ha => ?_⟩
  · have := s1 σ.length
    rw [getD_append_len, ← eL, getD_append_len] at this
    rw [← eL]
    exact this
  · obtain ⟨z1, z2⟩ := s3 _ a ha
    exact ⟨z1, z2.resolve_right (by simp)⟩
theorem callF_read {dvs : List V} {dds : List D} (hd : ∀ G H : Hp, Same G H → RepL K G dds dvs) {σ : L2.St} {H : Hp} {Q : VK} (q : tP K c W (rx K) (pCallF n F fun ρ => (fs ρ).bind fun ds => .ok (ds ++ dds)) σ H Q) : tCall (spF K n F) dvs E0 (tP K c W (rl K) fs) σ H Q := by
  obtain ⟨G, ρ, A, p⟩ := q
  refine ⟨G, ρ, A, ?_⟩
  have p : PostP K W σ G H (rx K) Q (((fs ρ).bind fun ds => .ok (ds ++ dds)).bind fun ds => if ds.length = n then (match F ds with
    | .ok d _ => .ok d
    | _ => .stuck) else .stuck) := p
  have p : PostP K W σ G H (rx K) Q ((fs ρ).bind fun ds => if (ds ++ dds).length = n then (match F (ds ++ dds) with
    | .ok d _ => .ok d
    | _ => .stuck) else .stuck) := by
    cases o : fs ρ with
    | ok a => rw [o] at p; exact p
    | exn x fs => rw [o] at p; exact p
    | stuck => rw [o] at p; exact p
  refine (PostP.bind p).imp fun vs H1 ⟨ds, G1, g1, r1, p1⟩ => ?_
  split at p1
  case isFalse => exact p1.elim
  rename_i hn
  refine ⟨G1, ds ++ dds, fun _ => [], hn, entry_rep g1.s (g1.tb A.tb) (g1.nt A.nt) (RepL.append r1 (hd G1 H1 g1.s)), ?_⟩
  cases o : F (ds ++ dds) with
  | ok d ρ' =>
    rw [o] at p1
    intro v G' σ' H' _ A'
    obtain ⟨g, fp, r, z⟩ := exit_x A'
    exact p1 v G' H' g ⟨fp, r, fun a ha => ⟨(z a ha).1, g1.free (z a ha).2⟩⟩
  | exn x fs r => rw [o] at p1; exact p1.elim
  | stuck => rw [o] at p1; exact p1.elim
theorem dx_call (Fo : FnOk X.prog X.w X.K X.mg X.base CX0 k f fd ps (spF X.K n F)) (hr : Room k X.A) (hm : X.mg x = some (.ref f)) (hk : PySem.W.keepIn X.K (.ref f) = true) (hb : Binds X.K fd ps []) (hx : Passes CX0 X E0) (ha : DA c W X (e :: es) fs)
    (hg : Gl X x := by rfl) (hdb : (x == ("__debug__" : Str)) = false := by decide) (he : starEach (e :: es) X.env = (false, eval e X.env) :: starEach es X.env := by rfl) (hpl : (backTo pos (starEach es X.env)).any (·.1) = false := by rfl) :
    DX c W X (.Call (.Name x p) (e :: es) [] pos) (pCallF n F fs) :=
  PE.imp (pe_call Fo hr hg hm hk hb .nil hx ha hdb he hpl) fun σ H Q q => callF_read (dds := []) (fun _ _ _ => rfl) (by
    have e : (fun ρ => (fs ρ).bind fun ds => Res.ok (ds ++ [])) = fs := by
      funext ρ
      cases fs ρ <;> simp [Res.bind]
    rw [e]
    exact q)
/-- a new value, used as a shared one -/
def frzX : D → Res D
  | .mut d => frz d
  | d => .ok d
def pFrzX (f : P D) : P D := fun ρ => (f ρ).bind frzX
end
end DL
namespace DL
open PySem PySem.Spec PyProof.Rows L2
variable [TheW]
/-! ### calls that change the arguments' objects -/
inductive Ar where
  | slot (i : Nat) | val (d : D)
def ArR (K : PySem.W.Frag) (G : Hp) (σ : L2.St) : Ar → V → Prop
  | .slot i, v => σ[i]? = some (some v)
  | .val d, v => Rep K G d v
def resolve (ρ : Rho) : List Ar → Option (List D)
  | [] => some []
  | .val d :: as => (resolve ρ as).map (d :: ·)
  | .slot i :: as => match ρ[i]? with
    | some (some d) => (resolve ρ as).map (d :: ·)
    | _ => none
def isSlot (i : Nat) : Ar → Bool
  | .slot j => i == j
  | _ => false
def okAr : List Ar → Bool
  | [] => true
  | .slot i :: as => !(as.any (isSlot i)) && okAr as
  | .val _ :: as => okAr as
def jx (i : Nat) : List Ar → Option Nat
  | [] => none
  | a :: as => if isSlot i a = true then some 0 else (jx i as).map (· + 1)
def normO : Option D → Option D
  | some (.mut d) => some (.mut d)
  | _ => none
/-- the slots behind the call -/
def back (as : List Ar) (ρ' ρ : Rho) : Rho := ρ.mapIdx fun i o => match o with
  | some (.mut d) => (match jx i as with
    | some j => normO (ρ'.getD j none)
    | none => some (.mut d))
  | o => o
def callM (F : Fd) (n : Nat) (as : List Ar) (ρ : Rho) : Out D := match resolve ρ as with
  | some ds => if (okAr as && decide (ds.length = n)) = true then (match F ds with
    | .ok d ρ' => .ok d (back as ρ' ρ)
    | _ => .stuck) else .stuck
  | none => .stuck
theorem isSlot_iff {i : Nat} {a : Ar} : isSlot i a = true ↔ a = .slot i := by
  cases a with
  | slot j =>
    show (i == j) = true ↔ _
    rw [beq_iff_eq]
    exact ⟨fun h => by rw [h], fun h => by injection h with h; exact h.symm⟩
  | val d => exact ⟨fun h => (by cases h), fun h => (by cases h)⟩
theorem jx_get {i : Nat} : ∀ {as : List Ar} {j : Nat}, jx i as = some j → as[j]? = some (.slot i)
  | [], _, h => by cases h
  | a :: as, j, h => by
    unfold jx at h
    split at h
    · rename_i e
      cases h
      rw [isSlot_iff.mp e]; rfl
    · obtain ⟨k, e1, e2⟩ := Option.map_eq_some_iff.mp h
      subst e2
      have := jx_get e1
      simpa using this
theorem jx_some {i : Nat} : ∀ {as : List Ar} {j : Nat}, as[j]? = some (.slot i) → ∃ k, jx i as = some k
  | [], _, h => by simp at h
  | a :: as, 0, h => by
    have h : a = .slot i := by simpa using h
    exact ⟨0, by unfold jx; rw [if_pos (isSlot_iff.mpr h)]⟩
  | a :: as, j + 1, h => by
    unfold jx
    split
    · exact ⟨_, rfl⟩
    · obtain ⟨k, e⟩ := jx_some (as := as) (j := j) (by simpa using h)
      exact ⟨k + 1, by rw [e]; rfl⟩
theorem any_slot {i : Nat} : ∀ {as : List Ar} {j : Nat}, as[j]? = some (.slot i) → as.any (isSlot i) = true
  | [], _, h => by simp at h
  | a :: as, 0, h => by
    have h : a = .slot i := by simpa using h
    simp [isSlot_iff.mpr h]
  | a :: as, j + 1, h => by
    have := any_slot (as := as) (j := j) (by simpa using h)
    rw [List.any_cons, this, Bool.or_true]
theorem okAr_inj {i : Nat} : ∀ {as : List Ar} {j k : Nat}, okAr as = true → as[j]? = some (.slot i) → as[k]? = some (.slot i) → j = k
  | [], _, _, _, h, _ => by simp at h
  | .val d :: as, 0, _, _, h, _ => by simp at h
  | .val d :: as, j + 1, 0, _, _, h => by simp at h
  | .val d :: as, j + 1, k + 1, o, h1, h2 => by
    have := okAr_inj (as := as) (j := j) (k := k) (i := i) o (by simpa using h1) (by simpa using h2)
    omega
  | .slot l :: as, 0, 0, _, _, _ => rfl
  | .slot l :: as, 0, k + 1, o, h1, h2 => by
    have h1 : l = i := by simpa using h1
    subst h1
    have o := (Bool.and_eq_true_iff.mp (show (!(as.any (isSlot l)) && okAr as) = true from o)).1
    rw [any_slot (by simpa using h2)] at o
    cases o
  | .slot l :: as, j + 1, 0, o, h2, h1 => by
    have h1 : l = i := by simpa using h1
    subst h1
    have o := (Bool.and_eq_true_iff.mp (show (!(as.any (isSlot l)) && okAr as) = true from o)).1
    rw [any_slot (by simpa using h2)] at o
    cases o
  | .slot l :: as, j + 1, k + 1, o, h1, h2 => by
    have o := (Bool.and_eq_true_iff.mp (show (!(as.any (isSlot l)) && okAr as) = true from o)).2
    have := okAr_inj (as := as) (j := j) (k := k) (i := i) o (by simpa using h1) (by simpa using h2)
    omega
theorem resolve_len {ρ : Rho} : ∀ (as : List Ar) (ds : List D), resolve ρ as = some ds → ds.length = as.length
  | [], ds, h => by cases h; rfl
  | .val d :: as, ds, h => by
    obtain ⟨r, e, e2⟩ := Option.map_eq_some_iff.mp (show (resolve ρ as).map (d :: ·) = some ds from h)
    rw [← e2, List.length_cons, List.length_cons, resolve_len as r e]
  | Ar.slot i :: as, ds, h => by
    cases q : ρ[i]? with
    | none => simp [resolve, q] at h
    | some o =>
      cases o with
      | none => simp [resolve, q] at h
      | some d =>
        have h3 : resolve ρ (Ar.slot i :: as) = (resolve ρ as).map (d :: ·) := by simp only [resolve, q]
        have h : (resolve ρ as).map (d :: ·) = some ds := h3.symm.trans h
        obtain ⟨r, e, e2⟩ := Option.map_eq_some_iff.mp h
        rw [← e2, List.length_cons, List.length_cons, resolve_len as r e]
theorem resolve_get {ρ : Rho} : ∀ (as : List Ar) (ds : List D) (j : Nat), resolve ρ as = some ds → (as[j]? = none ∧ ds[j]? = none) ∨ (∃ i d, as[j]? = some (.slot i) ∧ ds[j]? = some d ∧ ρ[i]? = some (some d)) ∨ ∃ d, as[j]? = some (.val d) ∧ ds[j]? = some d
  | [], ds, j, h => by cases h; exact .inl ⟨rfl, rfl⟩
  | .val d :: as, ds, j, h => by
    obtain ⟨r, e, e2⟩ := Option.map_eq_some_iff.mp (show (resolve ρ as).map (d :: ·) = some ds from h)
    subst e2
    cases j with
    | zero => exact .inr (.inr ⟨d, rfl, rfl⟩)
    | succ j => simpa using resolve_get as r j e
  | Ar.slot i :: as, ds, j, h => by
    cases q : ρ[i]? with
    | none => simp [resolve, q] at h
    | some o =>
      cases o with
      | none => simp [resolve, q] at h
      | some d =>
        have h3 : resolve ρ (Ar.slot i :: as) = (resolve ρ as).map (d :: ·) := by simp only [resolve, q]
        have h : (resolve ρ as).map (d :: ·) = some ds := h3.symm.trans h
        obtain ⟨r, e, e2⟩ := Option.map_eq_some_iff.mp h
        subst e2
        cases j with
        | zero => exact .inr (.inl ⟨i, d, rfl, rfl, q⟩)
        | succ j => simpa using resolve_get as r j e
def fpE (as : List Ar) (fp : Nat → List Addr) : Nat → List Addr := fun j => match as[j]? with
  | some (.slot i) => fp i
  | _ => []
section
variable {K : PySem.W.Frag} {c : Ct} {G H : Hp} {σ : L2.St} {ρ : Rho} {as : List Ar} {vs : List V} {ds : List D} {fp : Nat → List Addr}
theorem entry_ar (A : At K c G σ H ρ) (s1 : ∀ i, SlotR K G H (σ.getD i none) (ρ.getD i none) (fp i)) (s2 : ∀ i j a, a ∈ fp i → a ∈ fp j → i = j) (s3 : ∀ i a, a ∈ fp i → G a = none ∧ (c.H0 a = none ∨ a ∈ c.F0 i))
    (r : Paired (ArR K G σ) as vs) (e : resolve ρ as = some ds) (ok : okAr as = true) : At K ⟨H, G, fpE as fp, vs⟩ G (vs.map some) H (ds.map some) := by
  have lv : vs.length = as.length := r.length.symm
  refine ⟨A.sub, .refl _, fun a h => .inl h, fun a o e _ _ => e, fun a h => h, A.tb, A.nt, fun j hj => (by
    show fpE as fp j = []
    unfold fpE
    rw [List.getElem?_eq_none_iff.mpr (show as.length ≤ j from lv ▸ hj)]), by simp, by simp [resolve_len as ds e, lv], fun i v d h1 h2 => ?_, fpE as fp, fun j => ?_, fun j k a hj hk => ?_, fun j a h => ?_⟩
  · simp [show vs[i]? = some v from h1]
  · rw [getD_map, getD_map]
    rcases resolve_get as ds j e with ⟨h1, h2⟩ | ⟨i, d, h1, h2, h3⟩ | ⟨d, h1, h2⟩
    · have h4 : vs[j]? = none := List.getElem?_eq_none_iff.mpr (by rw [lv]; exact List.getElem?_eq_none_iff.mp h1)
      rw [h2, h4]
      show fpE as fp j = []
      unfold fpE; rw [h1]
    · rcases paired_get (i := j) r with ⟨q, _⟩ | ⟨a, v, q1, q2, q3⟩
      · rw [h1] at q; cases q
      · rw [h1] at q1; cases q1
        rw [h2, q2]
        have t := s1 i
        have q3 : σ[i]? = some (some v) := q3
        rw [getD_of q3, getD_of h3] at t
        show OwnV K G H d v (fpE as fp j)
        unfold fpE; rw [h1]
        exact t
    · rcases paired_get (i := j) r with ⟨q, _⟩ | ⟨a, v, q1, q2, q3⟩
      · rw [h1] at q; cases q
      · rw [h1] at q1; cases q1
        rw [h2, q2]
        have q3 : Rep K G d v := q3
        show OwnV K G H d v (fpE as fp j)
        unfold fpE; rw [h1]
        exact (ownV_val q3.notMut).mpr ⟨q3, rfl⟩
  · unfold fpE at hj hk
    split at hj
    · rename_i i e1
      split at hk
      · rename_i i' e2
        have := s2 _ _ _ hj hk
        subst this
        exact okAr_inj ok e1 e2
      · cases hk
    · cases hj
  · refine ⟨?_, .inr h⟩
    unfold fpE at h
    split at h
    · exact (s3 _ _ h).1
    · cases h
theorem getD_mapIdx {α : Type} {l : List (Option α)} {f : Nat → Option α → Option α} {i : Nat} (h : i < l.length) : (l.mapIdx f).getD i none = f i (l.getD i none) := by
  simp [List.getD, List.getElem?_mapIdx, List.getElem?_eq_getElem h]
theorem exit_ar (A : At K c G σ H ρ) (s1 : ∀ i, SlotR K G H (σ.getD i none) (ρ.getD i none) (fp i)) (s2 : ∀ i j a, a ∈ fp i → a ∈ fp j → i = j) (s3 : ∀ i a, a ∈ fp i → G a = none ∧ (c.H0 a = none ∨ a ∈ c.F0 i)) (s4 : ∀ i a, a ∈ fp i → H a ≠ none)
    (r : Paired (ArR K G σ) as vs) {G' H' : Hp} {σ' : L2.St} {ρ' : Rho} {v : V} {d : D} (lB : vs.length ≤ σ'.length) (B : At K ⟨H, G, fpE as fp, vs⟩ G' (σ' ++ [some v]) H' (ρ' ++ [some d])) : Same G G' ∧ At K c G' (σ ++ [some v]) H' (back as ρ' ρ ++ [some d]) := by
  have sG : Same G G' := B.g0
  refine ⟨sG, ?_⟩
  obtain ⟨fq, t1, t2, t3⟩ := B.slot
  have eL' : ρ'.length = σ'.length := by have := B.len; simp at this; exact this
  have eL := A.len
  have bl : (back as ρ' ρ).length = ρ.length := by simp [back]
  -- what of the old slots stands
  have outF : ∀ i a, a ∈ fp i → jx i as = none → ∀ j, a ∉ fpE as fp j := fun i a ha hj j h => by
    unfold fpE at h
    split at h
    · rename_i i' e
      have := s2 _ _ _ ha h
      subst this
      obtain ⟨k, ek⟩ := jx_some e
      rw [hj] at ek; cases ek
    · cases h
  have keepO : ∀ i a, a ∈ fp i → jx i as = none → H' a = H a ∧ G' a = none := fun i a ha hj => by
    have n := s4 i a ha
    have nf := outF i a ha hj
    constructor
    · cases q : H a with
      | none => exact absurd q n
      | some o => exact B.keep a o q nf ((s1 i).nt a ha o q)
    · cases q : G' a with
      | none => rfl
      | some o => exact absurd (B.gnew a (ne_none_of q)) (by rintro (z | z); exact z (s3 i a ha).1; exact n z)
  have fF0 : ∀ i j a, a ∈ fpE as fp j → as[j]? = some (.slot i) → c.H0 a = none ∨ a ∈ c.F0 i := fun i j a h e => by
    unfold fpE at h
    rw [e] at h
    exact (s3 _ _ h).2
  have fF1 : ∀ j a, a ∈ fpE as fp j → ∃ i, as[j]? = some (.slot i) ∧ (c.H0 a = none ∨ a ∈ c.F0 i) := fun j a h => by
    have h0 := h
    unfold fpE at h
    split at h
    · rename_i i e; exact ⟨i, e, fF0 i j a h0 e⟩
    · cases h
  have fqE : fpE as fp σ'.length = [] := B.f0 _ lB
  have dom0 : ∀ a, H a = none → c.H0 a = none := fun a h => by
    cases q : c.H0 a with
    | none => rfl
    | some o => exact absurd h (A.dom a (ne_none_of q))
  -- the new footprints
  let nf : Nat → List Addr := fun i => if i < ρ.length then (match ρ.getD i none with
    | some (.mut _) => (match jx i as with
      | some j => (match normO (ρ'.getD j none) with
        | some _ => fq j
        | none => [])
      | none => fp i)
    | _ => []) else if i = ρ.length then fq ρ'.length else []
  -- each of them: an old one outside of the call, or the callee's
  have nfc : ∀ i a, a ∈ nf i → (a ∈ fp i ∧ jx i as = none ∧ i < ρ.length) ∨ (∃ j, a ∈ fq j ∧ jx i as = some j ∧ j < ρ'.length ∧ i < ρ.length) ∨ (a ∈ fq ρ'.length ∧ i = ρ.length) := fun i a h => by
    have h : a ∈ (if i < ρ.length then (match ρ.getD i none with
      | some (.mut _) => (match jx i as with
        | some j => (match normO (ρ'.getD j none) with
          | some _ => fq j
          | none => [])
        | none => fp i)
      | _ => []) else if i = ρ.length then fq ρ'.length else []) := h
    split at h
    · rename_i hi
      split at h
      · split at h
        · rename_i j e
          split at h
          · rename_i x e2
            refine .inr (.inl ⟨j, h, e, ?_, hi⟩)
            by_cases hj : j < ρ'.length
            · exact hj
            · rw [getD_ge (by omega)] at e2; cases e2
          · cases h
        · rename_i e
          exact .inl ⟨h, e, hi⟩
      · cases h
    · split at h
      · rename_i e; exact .inr (.inr ⟨h, e⟩)
      · cases h
  have fqN : ∀ j a, a ∈ fq j → G' a = none ∧ (∀ i, as[j]? = some (.slot i) → c.H0 a = none ∨ a ∈ c.F0 i) ∧ ∀ i, a ∈ fp i → jx i as = none → False := fun j a h => by
    obtain ⟨z1, z2⟩ := t3 j a h
    refine ⟨z1, fun i e => ?_, fun i hi hj => ?_⟩
    · rcases z2 with z | z
      · exact .inl (dom0 a z)
      · exact fF0 i j a z e
    · rcases z2 with z | z
      · exact s4 i a hi z
      · exact outF i a hi hj _ z
  have fqP : ∀ a, a ∈ fq ρ'.length → c.H0 a = none := fun a h => by
    obtain ⟨z1, z2⟩ := t3 _ a h
    rcases z2 with z | z
    · exact dom0 a z
    · have z : a ∈ fpE as fp ρ'.length := z
      rw [eL', fqE] at z
      cases z
  refine ⟨B.sub, A.g0.trans sG, fun a ha => ?_, fun a o e n t => ?_, fun a h => B.dom a (A.dom a h), B.tb, B.nt, A.f0, by have := A.arl; simp; omega, by simp [bl, eL], fun i w e h1 h2 => ?_, nf, fun i => ?_, fun i i' a ha hb => ?_, fun i a ha => ?_⟩
  · rcases B.gnew a ha with z | z
    · exact A.gnew a z
    · exact .inr (dom0 a z)
  · refine B.keep a o (A.keep a o e n) fun j z => ?_
    obtain ⟨i, _, q | q⟩ := fF1 j a z
    · rw [e] at q; cases q
    · exact n i q
  · have hi : i < σ.length := Nat.lt_of_lt_of_le (List.getElem?_eq_some_iff.mp h1).1 A.arl
    rw [app_get_lt hi]
    rw [app_get_lt (by rw [bl, eL]; exact hi)] at h2
    have h3 : ∃ d', ρ[i]? = some (some (.mut d')) := by
      unfold back at h2
      rw [List.getElem?_mapIdx] at h2
      obtain ⟨o, e1, e2⟩ := Option.map_eq_some_iff.mp h2
      cases o with
      | none => cases e2
      | some dd => cases dd with
        | «mut» d' => exact ⟨d', e1⟩
        | _ => cases e2
    obtain ⟨d', h3⟩ := h3
    exact A.par i w d' h1 h3
  · rcases Nat.lt_trichotomy i ρ.length with h | h | h
    · have e1 : (σ ++ [some v]).getD i none = σ.getD i none := getD_append_lt (by omega)
      have e2 : (back as ρ' ρ ++ [some d]).getD i none = (back as ρ' ρ).getD i none := getD_append_lt (by omega)
      have e3 : (back as ρ' ρ).getD i none = _ := getD_mapIdx h
      rw [e1, e2, e3]
      have t := s1 i
      show SlotR K G' H' _ _ (if i < ρ.length then _ else _)
      rw [if_pos h]
      cases q : ρ.getD i none with
      | none =>
        show SlotR K G' H' _ none []
        cases σ.getD i none <;> exact rfl
      | some dd =>
        rw [q] at t
        by_cases hm : isMut dd = true
        · cases dd with
          | «mut» de =>
            show SlotR K G' H' _ (match jx i as with
              | some j => normO (ρ'.getD j none)
              | none => some (.mut de)) (match jx i as with
              | some j => (match normO (ρ'.getD j none) with
                | some _ => fq j
                | none => [])
              | none => fp i)
            cases ej : jx i as with
            | none => exact SlotR.mono sG (fun a ha => (keepO i a ha ej).1) t
            | some j =>
              show SlotR K G' H' _ (normO (ρ'.getD j none)) (match normO (ρ'.getD j none) with
                | some _ => fq j
                | none => [])
              cases en : normO (ρ'.getD j none) with
              | none => cases σ.getD i none <;> exact rfl
              | some dn =>
                show SlotR K G' H' _ (some dn) (fq j)
                have hj : j < ρ'.length := by
                  by_cases hj : j < ρ'.length
                  · exact hj
                  · rw [getD_ge (by omega)] at en; cases en
                obtain ⟨dm, em⟩ : ∃ dm, ρ'.getD j none = some (.mut dm) ∧ dn = .mut dm := by
                  cases q2 : ρ'.getD j none with
                  | none => rw [q2] at en; cases en
                  | some x =>
                    rw [q2] at en
                    cases x with
                    | «mut» x => cases en; exact ⟨x, rfl, rfl⟩
                    | _ => cases en
                have ea := jx_get ej
                rcases paired_get (i := j) r with ⟨q3, _⟩ | ⟨a, w, q1, q2, q3⟩
                · rw [ea] at q3; cases q3
                · rw [ea] at q1; cases q1
                  have q3 : σ[i]? = some (some w) := q3
                  have hρ : (ρ' ++ [some d])[j]? = some (some (.mut dm)) := by
                    rw [app_get_lt hj]
                    have := em.1
                    simp only [List.getD, List.getElem?_eq_getElem hj, Option.getD_some] at this
                    rw [List.getElem?_eq_getElem hj, this]
                  have hw := B.par j w dm q2 hρ
                  have t := t1 j
                  rw [getD_of hw, getD_of hρ] at t
                  rw [getD_of q3, em.2]
                  exact t
          | _ => cases hm
        · have hm : isMut dd = false := by simpa using hm
          cases hσ : σ.getD i none with
          | none => rw [hσ] at t; exact t.elim
          | some w =>
            rw [hσ] at t
            have t : OwnV K G H dd w (fp i) := t
            obtain ⟨tr, _⟩ := (ownV_val hm).mp t
            have hb : OwnV K G' H' dd w [] := (ownV_val hm).mpr ⟨Rep.mono sG _ tr, rfl⟩
            cases dd with
            | «mut» x => cases hm
            | _ => exact hb
    · subst h
      have e1 : (σ ++ [some v]).getD ρ.length none = some v := by rw [eL]; exact getD_append_len
      have e2 : (back as ρ' ρ ++ [some d]).getD ρ.length none = some d := by rw [← bl]; exact getD_append_len
      rw [e1, e2]
      show SlotR K G' H' _ _ (if ρ.length < ρ.length then _ else if ρ.length = ρ.length then fq ρ'.length else [])
      rw [if_neg (by omega), if_pos rfl]
      have t := t1 ρ'.length
      rw [getD_append_len, eL', getD_append_len] at t
      rw [eL']
      exact t
    · have e1 : (σ ++ [some v]).getD i none = none := getD_append_gt (by omega)
      have e2 : (back as ρ' ρ ++ [some d]).getD i none = none := getD_append_gt (by omega)
      rw [e1, e2]
      show SlotR K G' H' _ _ (if i < ρ.length then _ else if i = ρ.length then fq ρ'.length else [])
      rw [if_neg (by omega), if_neg (by omega)]
      exact rfl
  · rcases nfc i a ha with ⟨h1, h2, h3⟩ | ⟨j, h1, h2, h4, h3⟩ | ⟨h1, h2⟩ <;> rcases nfc i' a hb with ⟨g1, g2, g3⟩ | ⟨j', g1, g2, g4, g3⟩ | ⟨g1, g2⟩
    · exact s2 _ _ _ h1 g1
    · exact ((fqN _ _ g1).2.2 i h1 h2).elim
    · exact ((fqN _ _ g1).2.2 i h1 h2).elim
    · exact ((fqN _ _ h1).2.2 i' g1 g2).elim
    · have := t2 _ _ _ h1 g1
      subst this
      have q1 := jx_get h2
      have q2 := jx_get g2
      rw [q1] at q2
      cases q2
      rfl
    · have := t2 _ _ _ h1 g1
      omega
    · exact ((fqN _ _ h1).2.2 i' g1 g2).elim
    · have := t2 _ _ _ h1 g1
      omega
    · omega
  · rcases nfc i a ha with ⟨h1, h2, h3⟩ | ⟨j, h1, h2, h4, h3⟩ | ⟨h1, h2⟩
    · exact ⟨(keepO i a h1 h2).2, (s3 i a h1).2⟩
    · exact ⟨(fqN _ _ h1).1, (fqN _ _ h1).2.1 i (jx_get h2)⟩
    · exact ⟨(fqN _ _ h1).1, .inl (fqP a h1)⟩
end
end DL
namespace DL
open PySem PySem.Spec PyProof.Rows L2
variable [TheW]
/-! ### arguments of such calls -/
def PostA (K : PySem.W.Frag) (c : Ct) (W : WX) (σ : L2.St) (G : Hp) (Q : List V → Hp → Prop) : Out (List Ar) → Prop
  | .ok as ρ' => ∀ vs G' H', Same G G' → At K c G' σ H' ρ' → Paired (ArR K G' σ) as vs → Q vs H'
  | .exn x fs ρ' => ∀ cls dd G' H', Same G G' → At K c G' σ H' ρ' → RepX K G' x fs cls dd → W cls dd σ H'
  | .stuck => False
def tMA (K : PySem.W.Frag) (c : Ct) (W : WX) (f : M (List Ar)) : TA := fun σ H Q => ∃ G ρ, At K c G σ H ρ ∧ PostA K c W σ G Q (f ρ)
abbrev EAr (c : Ct) (W : WX) (X : Cx) (es : List Expr) (f : M (List Ar)) : Prop := PA X es (tMA X.K c W f)
def mNil : M (List Ar) := fun ρ => .ok [] ρ
def mSlot (i : Nat) (r : M (List Ar)) : M (List Ar) := fun ρ => match ρ[i]? with
  | some (some _) => (r ρ).bind fun as ρ' => .ok (.slot i :: as) ρ'
  | _ => .stuck
def mVal (f : M D) (r : M (List Ar)) : M (List Ar) := fun ρ => (f ρ).bind fun d ρ1 => (r ρ1).bind fun as ρ' => .ok (.val d :: as) ρ'
section
variable {c : Ct} {W : WX} {X : Cx} {e : Expr} {es : List Expr} {f : M D} {r : M (List Ar)} {pos p : Pos} {x : Str} {K : PySem.W.Frag} {σ : L2.St} {G H : Hp}
theorem ear_nil : EAr c W X [] mNil := PA.imp pa_nil fun σ H Q ⟨G, ρ, A, p⟩ => p [] G H (.refl _) A .nil
theorem ear_slot (i : Nat) (hs : EAr c W X es r) (hN : X.N[i]? = some x := by rfl) (hv : Vis X.env.scope x := by first | exact Or.inl rfl | exact Or.inr (Or.inl rfl) | exact Or.inr (Or.inr rfl)) (hd : (x == ("__debug__" : Str)) = false := by decide)
    (hcd : (x == ("__classdict__" : Str)) = false := by decide) (h : starEach (.Name x pos :: es) X.env = (false, eval (.Name x pos) X.env) :: starEach es X.env := by rfl) : EAr c W X (.Name x pos :: es) (mSlot i r) :=
  PA.imp (pa_cons (pe_var hN hv hd hcd) hs h) fun σ H Q ⟨G, ρ, A, p⟩ => by
    unfold mSlot at p
    split at p
    · rename_i d e
      obtain ⟨v, fp, h1, h2⟩ := A.get e
      refine ⟨v, h1, G, ρ, A, ?_⟩
      cases o : r ρ with
      | ok as ρ' => rw [o] at p; exact fun vs G' H' s A' pr => p (v :: vs) G' H' s A' (.cons h1 pr)
      | exn x fs ρ' => rw [o] at p; exact p
      | stuck => rw [o] at p; exact p
    · exact p.elim
theorem ear_val (he : EM c W X e f) (hs : EAr c W X es r) (h : starEach (e :: es) X.env = (false, eval e X.env) :: starEach es X.env := by rfl) : EAr c W X (e :: es) (mVal f r) :=
  PA.imp (pa_cons he hs h) fun σ H Q ⟨G, ρ, A, p⟩ => ⟨G, ρ, A, by
    have p : PostA X.K c W σ G Q ((f ρ).bind fun d ρ1 => (r ρ1).bind fun as ρ' => .ok (.val d :: as) ρ') := p
    cases o : f ρ with
    | ok d ρ1 =>
      rw [o] at p
      have p : PostA X.K c W σ G Q ((r ρ1).bind fun as ρ' => .ok (.val d :: as) ρ') := p
      intro v G1 H1 s1 A1 rv1
      refine ⟨G1, ρ1, A1, ?_⟩
      cases o2 : r ρ1 with
      | ok as ρ' => rw [o2] at p; exact fun vs G' H' s A' pr => p (v :: vs) G' H' (s1.trans s) A' (.cons (Rep.mono s d rv1) pr)
      | exn x fs ρ' => rw [o2] at p; exact fun cls dd G' H' s A' rx => p cls dd G' H' (s1.trans s) A' rx
      | stuck => rw [o2] at p; exact p
    | exn x fs ρ' => rw [o] at p; exact p
    | stuck => rw [o] at p; exact p⟩
/-! ### the call -/
def mCall (F : Fd) (n : Nat) (fs : M (List Ar)) : M D := fun ρ => (fs ρ).bind fun as ρ' => callM F n as ρ'
variable {k n : Nat} {fa : Addr} {ps : List Str} {F : Fd} {fs : M (List Ar)}
theorem callM_read {as : List Ar} {vs : List V} {ρ : Rho} {Q : VK} {E : XK} (A : At K c G σ H ρ) (r : Paired (ArR K G σ) as vs) (q : PostX K c W σ G Q (callM F n as ρ)) : spF K n F vs H Q E := by
  unfold callM at q
  split at q
  case h_2 => exact q.elim
  rename_i ds e
  split at q
  case isFalse => exact q.elim
  rename_i hok
  obtain ⟨ok, hn⟩ := Bool.and_eq_true_iff.mp hok
  have hn := of_decide_eq_true hn
  obtain ⟨fp, s1, s2, s3, s4⟩ := A.fp
  refine ⟨G, ds, fpE as fp, hn, entry_ar A s1 s2 s3 r e ok, ?_⟩
  cases o : F ds with
  | ok d ρ' =>
    rw [o] at q
    intro v G' σ' H' l B
    obtain ⟨sg, A'⟩ := exit_ar A s1 s2 s3 s4 r l B
    exact q v G' H' sg A'
  | exn x fs ρ' => rw [o] at q; exact q.elim
  | stuck => rw [o] at q; exact q.elim
theorem PostA.call {Q : VK} {Q2 : List V → Hp → Prop} {o : Out (List Ar)} (h : PostX K c W σ G Q (o.bind fun as ρ' => callM F n as ρ')) (hk : ∀ as ρ', ∀ vs G' H', At K c G' σ H' ρ' → Paired (ArR K G' σ) as vs → PostX K c W σ G' Q (callM F n as ρ') → Q2 vs H') : PostA K c W σ G Q2 o := by
  cases o with
  | ok as ρ' =>
    intro vs G' H' s A' pr
    refine hk as ρ' vs G' H' A' pr ?_
    have h : PostX K c W σ G Q (callM F n as ρ') := h
    cases o2 : callM F n as ρ' with
    | ok d ρ2 => rw [o2] at h; exact fun v G2 H2 s2 A2 => h v G2 H2 (s.trans s2) A2
    | exn x fs ρ2 => rw [o2] at h; exact fun cls dd G2 H2 s2 A2 => h cls dd G2 H2 (s.trans s2) A2
    | stuck => rw [o2] at h; exact h
  | exn x fs ρ' => exact h
  | stuck => exact h
theorem ex_call (Fo : FnOk X.prog X.w X.K X.mg X.base CX0 k fa fd ps (spF X.K n F)) (hr : Room k X.A) (hm : X.mg x = some (.ref fa)) (hk : PySem.W.keepIn X.K (.ref fa) = true) (hb : Binds X.K fd ps []) (hx : Passes CX0 X E0) (ha : EAr c W X (e :: es) fs)
    (hg : Gl X x := by rfl) (hdb : (x == ("__debug__" : Str)) = false := by decide) (he : starEach (e :: es) X.env = (false, eval e X.env) :: starEach es X.env := by rfl) (hpl : (backTo pos (starEach es X.env)).any (·.1) = false := by rfl) :
    EX c W X (.Call (.Name x p) (e :: es) [] pos) (mCall F n fs) :=
  PE.imp (pe_call Fo hr hg hm hk hb .nil hx ha hdb he hpl) fun σ H Q ⟨G, ρ, A, p⟩ => ⟨G, ρ, A, PostA.call p fun as ρ' vs G' H' A' pr q => by
    rw [List.append_nil]
    exact callM_read A' pr q⟩
/-! ### own objects become shared -/
/-- .. at a statement -/
def sFrz (n i : Nat) (s : S) : S := fun ρ => match ρ[i]? with
  | some (some (.mut (.lst ds))) => if (noMutL ds && decide (n ≤ i)) = true then s (ρ.set i (some (.lst ds))) else .stuck
  | _ => s ρ
/-- a value that may be a new list, used as a shared one -/
def mFrz (f : M D) : M D := fun ρ => (f ρ).bind fun d ρ' => match d with
  | .mut (.lst ds) => if noMutL ds = true then .ok (.lst ds) ρ' else .stuck
  | .mut _ => .stuck
  | d => .ok d ρ'
theorem app_get_len {α : Type} {l : List α} {x : α} : (l ++ [x])[l.length]? = some x := by simp
theorem set_app_len {α : Type} {l : List α} {x y : α} : (l ++ [x]).set l.length y = l ++ [y] := by simp [List.set_append]
end
end DL
namespace DL
open PySem PySem.Spec PyProof.Rows L2
variable [TheW]
/-! ### an owned object changes -/
section
variable {K : PySem.W.Frag} {c : Ct} {G H : Hp} {σ : L2.St} {ρ : Rho}
theorem At.mod (A : At K c G σ H ρ) {fp : Nat → List Addr} (s1 : ∀ i, SlotR K G H (σ.getD i none) (ρ.getD i none) (fp i)) (s2 : ∀ i j a, a ∈ fp i → a ∈ fp j → i = j) (s3 : ∀ i a, a ∈ fp i → G a = none ∧ (c.H0 a = none ∨ a ∈ c.F0 i))
    {i : Nat} {d d' : D} {v : V} {H' : Hp} {l : List Addr} (hv : σ[i]? = some (some v)) (hd : ρ[i]? = some (some (.mut d))) (hk : ∀ b, b ∉ fp i → H' b = H b) (hs : ∀ b, H b ≠ none → H' b ≠ none) (r : OwnO K G H' d' v l) (hl : ∀ b ∈ l, b ∈ fp i) : At K c G σ H' (ρ.set i (some (.mut d'))) := by
  have hi : i < ρ.length := (List.getElem?_eq_some_iff.mp hd).1
  refine ⟨fun b o e => ?_, A.g0, A.gnew, fun a o e n t => ?_, fun a h => hs a (A.dom a h), fun p hp => ?_, A.nt, A.f0, A.arl, by simp [A.len], fun j w e q1 q2 => ?_, fpSet fp i l, fun j => ?_, fun j k b hj hk => ?_, fun j b hj => ?_⟩
  · have nb : b ∉ fp i := fun z => by rw [(s3 i b z).1] at e; cases e
    rw [hk b nb]
    exact A.sub b o e
  · have na : a ∉ fp i := fun z => (s3 i a z).2.elim (fun q => by rw [e] at q; cases q) fun q => n i q
    rw [hk a na]
    exact A.keep a o e n
  · refine (A.tb p hp).mono (.refl _) (hk p.1 fun z => ?_)
    obtain ⟨ps, h1, _⟩ := A.tb p hp
    have := (s1 i).nt p.1 z _ h1
    cases this
  · by_cases e : j = i
    · subst e
      exact A.par j w d q1 hd
    · rw [List.getElem?_set_ne (Ne.symm e)] at q2
      exact A.par j w _ q1 q2
  · rw [getD_set]
    by_cases e : j = i
    · subst e
      rw [if_pos ⟨rfl, hi⟩, fpSet_self, getD_of hv]
      exact ownV_mut.mpr r
    · rw [if_neg (fun z => e z.1), fpSet_ne e]
      exact (s1 j).mono (.refl _) fun b hb => hk b fun z => e (s2 _ _ _ hb z)
  · by_cases e : j = i
    · by_cases e' : k = i
      · rw [e, e']
      · rw [e, fpSet_self] at hj; rw [fpSet_ne e'] at hk
        exact e.trans (s2 _ _ _ (hl b hj) hk)
    · rw [fpSet_ne e] at hj
      by_cases e' : k = i
      · rw [e', fpSet_self] at hk
        exact (s2 _ _ _ hj (hl b hk)).trans e'.symm
      · rw [fpSet_ne e'] at hk; exact s2 j k b hj hk
  · by_cases e : j = i
    · rw [e, fpSet_self] at hj; rw [e]; exact s3 i b (hl b hj)
    · rw [fpSet_ne e] at hj; exact s3 j b hj
/-- an owned list in a slot -/
theorem At.lst (A : At K c G σ H ρ) {i : Nat} {ds : List D} (h : ρ[i]? = some (some (.mut (.lst ds)))) : ∃ (a : Addr) (vs : List V) (f : List Addr), σ[i]? = some (some (.ref a)) ∧ H a = some (.lst vs) ∧ OwnL K G H ds vs f ∧ a ∉ f := by
  obtain ⟨v, fp, hv, ow⟩ := A.get h
  obtain ⟨a, vs, f, rfl, h2, h3, h4, h5⟩ := ownV_mut.mp ow
  exact ⟨a, vs, f, hv, h2, h3, h5⟩
theorem OwnL.upd {G' : Hp} {ds : List D} {vs : List V} {f : List Addr} {a : Addr} {o : HO} (h : OwnL K G H ds vs f) (hn : a ∉ f) (e : Same G G') : OwnL K G' (upd H a o) ds vs f :=
  OwnL.mono e ds (fun b hb => upd_ne fun z => hn (z ▸ hb)) h
theorem At.upd (A : At K c G σ H ρ) {i : Nat} {d d' : D} {a : Addr} {o : HO} (hv : σ[i]? = some (some (.ref a))) (hd : ρ[i]? = some (some (.mut d))) (r : ∀ fp, OwnO K G H d (.ref a) fp → a ∈ fp ∧ ∃ l, OwnO K G (upd H a o) d' (.ref a) l ∧ ∀ b ∈ l, b ∈ fp) : At K c G σ (upd H a o) (ρ.set i (some (.mut d'))) := by
  obtain ⟨fp, s1, s2, s3, s4⟩ := A.fp
  have t := s1 i
  rw [getD_of hv, getD_of hd] at t
  obtain ⟨ma, l, r1, r2⟩ := r _ (ownV_mut.mp t)
  exact A.mod s1 s2 s3 hv hd (fun b hb => upd_ne fun z => hb (z ▸ ma)) (fun b hb => by
    by_cases e : b = a
    · subst e; rw [upd_same]; simp
    · rw [upd_ne e]; exact hb) r1 r2
theorem OwnL.append {G H : Hp} : ∀ {ds es : List D} {vs ws : List V} {f g : List Addr}, OwnL K G H ds vs f → OwnL K G H es ws g → (∀ a ∈ f, a ∉ g) → OwnL K G H (ds ++ es) (vs ++ ws) (f ++ g)
  | [], _, _, _, _, _, ⟨h1, h2⟩, h', _ => by subst h1 h2; exact h'
  | d :: ds, _, _, _, _, _, ⟨v, r, f, g, h1, h2, h3, h4, h5⟩, h', hd => by
    subst h1 h4
    refine ⟨v, r ++ _, f, g ++ _, rfl, h2, OwnL.append h3 h' fun a ha => hd a (List.mem_append_right _ ha), by simp, fun a ha hb => ?_⟩
    rcases List.mem_append.mp hb with z | z
    · exact h5 a ha z
    · exact hd a (List.mem_append_left _ ha) z
/-- shared items join -/
theorem At.joins (A : At K c G σ H ρ) {i : Nat} {ds es : List D} {a : Addr} {vs ws : List V} (hv : σ[i]? = some (some (.ref a))) (hd : ρ[i]? = some (some (.mut (.lst ds)))) (ha : H a = some (.lst vs)) (r : RepL K G es ws) : At K c G σ (L2.upd H a (.lst (vs ++ ws))) (ρ.set i (some (.mut (.lst (ds ++ es))))) :=
  At.upd A hv hd fun fp ⟨a', vs', f, e1, h2, h3, h4, h5⟩ => by
    cases e1
    rw [ha] at h2; cases h2
    subst h4
    refine ⟨List.mem_cons_self, a :: f, ⟨a, vs ++ ws, f, rfl, upd_same, ?_, rfl, h5⟩, fun b hb => hb⟩
    have := (OwnL.upd h3 h5 (.refl _) (o := .lst (vs ++ ws))).append (repL_ownL r) (by simp)
    rw [List.append_nil] at this
    exact this
end
theorem OwnL.length {K : PySem.W.Frag} {G H : Hp} : ∀ {ds : List D} {vs : List V} {f : List Addr}, OwnL K G H ds vs f → vs.length = ds.length
  | [], _, _, ⟨h, _⟩ => by rw [h]; rfl
  | d :: ds, _, _, ⟨v, r, f, g, h1, h2, h3, _⟩ => by rw [h1, List.length_cons, List.length_cons, OwnL.length h3]
/-! ### list methods on a slot -/
/-- the slot holds a list of one's own -/
def hasL {α : Type} (i : Nat) (f : M α) : M α := fun ρ => match ρ[i]? with
  | some (some (.mut (.lst _))) => f ρ
  | _ => .stuck
/-- the slot's list, what it gives and becomes -/
def mLst (i : Nat) (f : M (List D)) (g : List D → List D → Option (D × List D)) : M D := hasL i fun ρ => (f ρ).bind fun xs ρ' => match ρ'[i]? with
  | some (some (.mut (.lst ds))) => (match g ds xs with
    | some (d, es) => .ok d (ρ'.set i (some (.mut (.lst es))))
    | none => .stuck)
  | _ => .stuck
def gApp : List D → List D → Option (D × List D)
  | ds, [d] => if ds.length < LINE then some (.non, ds ++ [d]) else none
  | _, _ => none
def gExt : List D → List D → Option (D × List D)
  | ds, [.lst es] => if ds.length + es.length ≤ LINE then some (.non, ds ++ es) else none
  | _, _ => none
def gPopAt : List D → List D → Option (D × List D)
  | ds, [.int k] => if -(2 ^ 63) ≤ k ∧ k < 2 ^ 63 ∧ noMutL ds = true then (match seqIndex? k ds.length with
    | some j => (ds[j]?).map fun x => (x, ds.eraseIdx j)
    | none => none) else none
  | _, _ => none
def gPop : List D → List D → Option (D × List D)
  | ds, [] => if noMutL ds = true then (ds[ds.length - 1]?).map fun x => (x, ds.dropLast) else none
  | _, _ => none
def gClear : List D → List D → Option (D × List D)
  | _, [] => some (.non, [])
  | _, _ => none
def gRev : List D → List D → Option (D × List D)
  | ds, [] => if noMutL ds = true then some (.non, ds.reverse) else none
  | _, _ => none
section
variable {c : Ct} {W : WX} {X : Cx} {e : Expr} {es : List Expr} {f : M D} {fs : M (List D)} {pos p apos cpos : Pos} {x : Str} {K : PySem.W.Frag} {σ : L2.St} {G H : Hp}
theorem PostM.bindM {α β γ : Type} {R : RR α β} {δ : Type} {S : RR γ δ} {Q2 : δ → Hp → Prop} {o : Out α} {k : α → Rho → Out γ} (h : PostM K c W σ G H S Q2 (o.bind k)) :
    PostM K c W σ G H R (fun v H1 => ∃ a ρ1 G1, Same G G1 ∧ At K c G1 σ H1 ρ1 ∧ R H a v G1 H1 ∧ PostM K c W σ G1 H1 (fun _ => S H) Q2 (k a ρ1)) o := by
  cases o with
  | ok a ρ1 =>
    intro v G1 H1 s A r
    refine ⟨a, ρ1, G1, s, A, r, ?_⟩
    have h : PostM K c W σ G H S Q2 (k a ρ1) := h
    cases e : k a ρ1 with
    | ok b ρ2 => rw [e] at h; exact fun w G2 H2 s2 A2 r2 => h w G2 H2 (s.trans s2) A2 r2
    | exn x fs ρ2 => rw [e] at h; exact fun cls dd G2 H2 s2 A2 r2 => h cls dd G2 H2 (s.trans s2) A2 r2
    | stuck => rw [e] at h; exact h
  | exn x fs ρ1 => exact h
  | stuck => exact h
theorem PostM.imp {α β : Type} {R : RR α β} {Q Q' : β → Hp → Prop} {o : Out α} (h : PostM K c W σ G H R Q o) (i : ∀ v H', Q v H' → Q' v H') : PostM K c W σ G H R Q' o := by
  cases o with
  | ok a ρ => exact fun v G' H' s A r => i _ _ (h v G' H' s A r)
  | exn x fs ρ => exact h
  | stuck => exact h
structure NmOk (X : Cx) (i : Nat) (x : Str) : Prop where
  n : X.N[i]? = some x
  v : Vis X.env.scope x
  d : (x == ("__debug__" : Str)) = false
  k : (x == ("__classdict__" : Str)) = false
theorem nm {i : Nat} (hN : X.N[i]? = some x := by rfl) (hv : Vis X.env.scope x := by first | exact Or.inl rfl | exact Or.inr (Or.inl rfl) | exact Or.inr (Or.inr rfl)) (hd : (x == ("__debug__" : Str)) = false := by decide)
    (hcd : (x == ("__classdict__" : Str)) = false := by decide) : NmOk X i x := ⟨hN, hv, hd, hcd⟩
theorem NmOk.pe {i : Nat} (h : NmOk X i x) : PE X (.Name x p) (tVar i) := pe_var h.n h.v h.d h.k
theorem ea_nil : EA c W X [] (fun ρ => .ok [] ρ) := PA.imp pa_nil fun σ H Q ⟨G, ρ, A, p⟩ => p [] G H (.refl _) A rfl
def mCons (f : M D) (r : M (List D)) : M (List D) := fun ρ => (f ρ).bind fun x ρ1 => (r ρ1).bind fun xs ρ2 => .ok (x :: xs) ρ2
theorem ea_cons (he : EM c W X e f) (hs : EA c W X es fs) (h : starEach (e :: es) X.env = (false, eval e X.env) :: starEach es X.env := by rfl) : EA c W X (e :: es) (mCons f fs) :=
  PA.imp (pa_cons he hs h) fun σ H Q ⟨G, ρ, A, p⟩ => ⟨G, ρ, A, (PostM.bindM p).imp fun x H1 ⟨dx, ρ1, G1, s1, A1, r1, p1⟩ => ⟨G1, ρ1, A1, (PostM.bindM p1).imp fun xs H2 ⟨ds, ρ2, G2, s2, A2, r2, p2⟩ =>
    p2 (x :: xs) G2 H2 (.refl _) A2 ⟨x, xs, rfl, Rep.mono s2 _ r1, r2⟩⟩⟩
/-- what a list method does, by data -/
def LstD (K : PySem.W.Frag) (r : V → List V → Hp → VK → Prop) (g : List D → List D → Option (D × List D)) : Prop :=
  ∀ (G H : Hp) (a : Addr) (vs : List V) (f : List Addr) (ds xs : List D) (us : List V) (Q : VK) (d : D) (es : List D), Same G H → H a = some (.lst vs) → OwnL K G H ds vs f → RepL K G xs us → g ds xs = some (d, es) →
    (∀ v ws, Rep K G d v → (∀ c σ ρ i, At K c G σ H ρ → σ[i]? = some (some (.ref a)) → ρ[i]? = some (some (.mut (.lst ds))) → At K c G σ (upd H a (.lst ws)) (ρ.set i (some (.mut (.lst es))))) → Q v (upd H a (.lst ws))) → r (.ref a) us H Q
theorem lst_read {r : V → List V → Hp → VK → Prop} {g : List D → List D → Option (D × List D)} (hd : LstD K r g) {i : Nat} {Q : VK} (q : tM K c W (rv K) (mLst i fs g) σ H Q) : tBM K "list" r (tVar i) (tM K c W (rl K) fs) σ H Q := by
  obtain ⟨G, ρ, A, p⟩ := q
  unfold mLst hasL at p
  split at p
  case h_2 => exact p.elim
  rename_i ds0 h0
  obtain ⟨a0, vs0, f0, hv, ha0, _⟩ := A.lst h0
  refine ⟨.ref a0, hv, .inl ⟨rfl, vs0, SqL.of ha0⟩, G, ρ, A, (PostM.bindM p).imp fun us H1 ⟨xs, ρ1, G1, s1, A1, r1, p1⟩ => ?_⟩
  split at p1
  case h_2 => exact p1.elim
  rename_i ds e1
  split at p1
  case h_2 => exact p1.elim
  rename_i d es eg
  obtain ⟨a, vs, f, hv', ha, ow, _⟩ := A1.lst e1
  rw [hv] at hv'; cases hv'
  exact hd G1 H1 a0 vs f ds xs us Q d es A1.sub ha ow r1 eg fun v ws rv' A' => p1 v G1 _ (.refl _) (A' c σ ρ1 i A1 hv e1) rv'
theorem em_lst {name : Str} {id : String} {i : Nat} {r : V → List V → Hp → VK → Prop} {g : List D → List D → Option (D × List D)} (slot : Slot "list" name id) (hty : typeOf (.builtin id) = pure (.type "method_descriptor")) (hm : MtR X id r) (hd : LstD X.K r g) (hn : NmOk X i x) (ha : EA c W X (e :: es) fs)
    (hbase : attributeBase (.Name x p) name X.env (eval (.Name x p) X.env) = eval (.Name x p) X.env := by rfl)
    (hfew : ((backTo cpos (starEach (e :: es) X.env)).all (fun x => !x.1) && (backToKw cpos (keywordEach [] X.env)).all (fun x => x.1.isSome) && decide ((e :: es).length + ([] : List Keyword).length + (if ([] : List Keyword).isEmpty then 0 else 1) < 30)) = true := by rfl)
    (hline : (apos.endLine == cpos.line) = true := by rfl) (hs : starEach (e :: es) X.env = (false, eval e X.env) :: starEach es X.env := by rfl) (hplain : (backTo cpos (starEach es X.env)).any (·.1) = false := by rfl) :
    EM c W X (.Call (.Attribute (.Name x p) name apos) (e :: es) [] cpos) (mLst i fs g) :=
  PE.imp (pe_bm PySem.F.plainAttrs_list slot hty hm hn.pe ha hbase hfew hline hs hplain) fun σ H Q q => lst_read hd q
theorem ld_app : LstD K rAppend gApp := fun G H a vs f ds xs us Q d es s ha ow rx e q => by
  unfold gApp at e
  split at e
  case h_2 => cases e
  rename_i x
  split at e
  case isFalse => cases e
  rename_i hl
  cases e
  obtain ⟨v, r, rfl, h2, h3⟩ := rx
  cases h3
  exact ⟨a, vs, v, rfl, rfl, ha, by rw [ow.length]; exact hl, q .non _ rfl fun c σ ρ i A hv hd => A.joins hv hd ha ⟨v, [], rfl, h2, rfl⟩⟩
theorem repL_erase {G : Hp} : ∀ (n : Nat) {ds : List D} {vs : List V}, RepL K G ds vs → RepL K G (ds.eraseIdx n) (vs.eraseIdx n)
  | _, [], _, h => by have h : _ = [] := h; subst h; rfl
  | 0, d :: ds, _, ⟨v, r, h1, h2, h3⟩ => by subst h1; exact h3
  | n + 1, d :: ds, _, ⟨v, r, h1, h2, h3⟩ => by subst h1; exact ⟨v, r.eraseIdx n, rfl, h2, repL_erase n h3⟩
end
end DL
namespace DL
open PySem PySem.Spec PyProof.Rows L2
variable [TheW]
/-! ### operators over such expressions -/
section
variable {c : Ct} {W : WX} {X : Cx} {a b e t : Expr} {es rest : List Expr} {f g : M D} {fs : M (List D)} {pos p p2 : Pos} {x : Str} {K : PySem.W.Frag} {σ : L2.St} {G H : Hp} {R : RR D V}
theorem PostM.v {H0 : Hp} {Q : VK} {ρ : Rho} {o : Res D} (A : At K c G σ H ρ) (h : PostM K c W σ G H (fun _ => rv K H0) Q (o.out ρ)) (ne : ∀ x fs, o ≠ .exn x fs) : PostV (rv K) G H Q o := by
  cases o with
  | ok d => exact fun v G' H' g' r => h v G' H' g'.g (A.grow g') r
  | exn x fs => exact absurd rfl (ne x fs)
  | stuck => exact h
def mOp (h : D → D → Res D) (f g : M D) : M D := fun ρ => (f ρ).bind fun x ρ1 => (g ρ1).bind fun y ρ2 => (h x y).out ρ2
def mTest (f : M D) : M Bool := fun ρ => (f ρ).bind fun d ρ' => match d with
  | .bl b => .ok b ρ'
  | _ => .stuck
def mAnd (f g : M Bool) : M Bool := fun ρ => (f ρ).bind fun b ρ1 => if b = true then g ρ1 else .ok false ρ1
def mOr (f g : M Bool) : M Bool := fun ρ => (f ρ).bind fun b ρ1 => if b = true then .ok true ρ1 else g ρ1
def mNot (f : M Bool) : M Bool := fun ρ => (f ρ).bind fun b ρ1 => .ok (!b) ρ1
abbrev EW (c : Ct) (W : WX) (X : Cx) (e : Expr) (f : M Bool) : Prop := PW X e (tM X.K c W rt f)
variable {ta tb : M Bool}
def mIf {α : Type} (t : M Bool) (f g : M α) : M α := fun ρ => (t ρ).bind fun b ρ1 => if b = true then f ρ1 else g ρ1
def mTup (fs : M (List D)) : M D := fun ρ => (fs ρ).bind fun ds ρ1 => (mkTup ds).out ρ1
def mLstE (fs : M (List D)) : M D := fun ρ => (fs ρ).bind fun ds ρ1 => if ds.length ≤ LINE then .ok (.mut (.lst ds)) ρ1 else .stuck
theorem ex_lst (h : EA c W X es fs) : EX c W X (.List es pos) (mLstE fs) :=
  PE.imp (pe_lst h) fun σ H Q ⟨G, ρ, A, p⟩ => ⟨G, ρ, A, by
    have p : PostX X.K c W σ G Q ((fs ρ).bind fun ds ρ1 => if ds.length ≤ LINE then .ok (.mut (.lst ds)) ρ1 else .stuck) := p
    cases o : fs ρ with
    | ok ds ρ1 =>
      rw [o] at p
      have p : PostX X.K c W σ G Q (if ds.length ≤ LINE then .ok (.mut (.lst ds)) ρ1 else .stuck) := p
      intro xs G1 H1 s1 A1 r1
      split at p
      · rename_i hl
        refine ⟨by rw [r1.length]; exact hl, fun q hq => ?_⟩
        have g := Grow.new A1.sub hq (o := .lst xs)
        obtain ⟨fp, w1, w2⟩ := ro_lst A1.sub hq r1
        exact p _ G1 _ s1 (A1.pushX g ⟨fp, ownV_mut.mpr w1, w2⟩)
      · exact p.elim
    | exn x fs ρ1 => rw [o] at p; exact p
    | stuck => rw [o] at p; exact p⟩
/-! ### built-ins -/
def mCallL (h : List D → Res D) (f : M (List D)) : M D := fun ρ => (f ρ).bind fun ds ρ1 => (h ds).out ρ1
/-! ### subscripts of a name -/
theorem rdB {i : Nat} {ρ : Rho} {d : D} (A : At K c G σ H ρ) (e : pVarB i ρ = .ok d) : ∃ v, σ[i]? = some (some v) ∧ RdO K G H d v := by
  unfold pVarB at e
  split at e
  · rename_i d0 e0
    split at e
    · rename_i hm
      cases e
      obtain ⟨v, fp, h1, h2⟩ := A.get e0
      have h2 := ownV_mut.mp h2
      refine ⟨v, h1, ?_⟩
      cases d with
      | lst ds => obtain ⟨a, vs, f, q1, q2, q3, _, _⟩ := h2; exact ⟨a, vs, q1, q2, (ownL_rep hm q3).1⟩
      | dict kvs => obtain ⟨a, vs, f, q1, q2, q3, _, _⟩ := h2; exact ⟨a, vs, q1, .inl q2, (ownK_rep hm q3).1⟩
      | nd kvs => obtain ⟨a, xs, q1, q2, q3, _⟩ := h2; exact ⟨a, xs, q1, q2, q3⟩
      | _ => exact absurd hm (by simp [flat])
    · cases e
  · rename_i d0 hne e0
    cases e
    have hm : isMut d = false := by cases d <;> first | rfl | exact absurd rfl (hne _)
    obtain ⟨v, h1, h2⟩ := A.val e0 hm
    exact ⟨v, h1, Rep.rdO A.sub h2⟩
  · cases e
def hasV {α : Type} (i : Nat) (f : M α) : M α := fun ρ => match ρ[i]? with
  | some (some _) => f ρ
  | _ => .stuck
/-- x[e], x read behind e -/
def mIxV (i : Nat) (f : M D) : M D := hasV i fun ρ => (f ρ).bind fun y ρ1 => ((pVarB i ρ1).bind fun x => ixD x y).out ρ1
theorem em_ixV {i : Nat} (hu : X.A.units + 1 < cLine) (hn : NmOk X i x) (he : EM c W X e f) (hs : PlainIx e := by exact fun _ _ => rfl) : EM c W X (.Subscript (.Name x p) e pos) (mIxV i f) :=
  PE.imp (pe_ix (ix_any hu) hn.pe he hs) fun σ H Q ⟨G, ρ, A, p⟩ => by
    unfold mIxV hasV at p
    split at p
    case h_2 => exact p.elim
    rename_i d0 e0
    obtain ⟨v, _, hv, _⟩ := A.get e0
    refine ⟨v, hv, G, ρ, A, (PostM.bindM p).imp fun y H1 ⟨dy, ρ1, G1, s1, A1, r1, p1⟩ => ?_⟩
    have p1 : PostM X.K c W σ G1 H1 (fun _ => rv X.K H) Q (((pVarB i ρ1).bind fun x => ixD x dy).out ρ1) := p1
    cases o : pVarB i ρ1 with
    | ok dx =>
      rw [o] at p1
      obtain ⟨w, h1, h2⟩ := rdB A1 o
      rw [hv] at h1; cases h1
      exact opd_ix G1 H1 v y dx dy Q A1.sub h2 (Rep.rdO A1.sub r1) (PostM.v A1 p1 (ixD_quiet _ _))
    | exn z fs => exact absurd o (by
        unfold pVarB
        split
        · split <;> (intro h; cases h)
        · (intro h; cases h)
        · (intro h; cases h))
    | stuck => rw [o] at p1; exact p1.elim
/-! ### dicts of one's own -/
theorem OwnK.get {G H : Hp} {j : Key} {d : D} : ∀ {kvs : List (D × D)} {kv : List (Key × V)} {f : List Addr}, OwnK K G H kvs kv f → lookD kvs j = some d → ∃ v g, valV kv j = some v ∧ OwnV K G H d v g ∧ ∀ a ∈ g, a ∈ f
  | [], _, _, _, e => by cases e
  | (k, d') :: ds, _, _, ⟨i, v, r, f, g, h1, h2, h3, h4, h5, _⟩, e => by
    subst h1 h5
    by_cases q : i = j
    · subst q
      have e1 : lookD ((k, d') :: ds) i = some d' := by simp [lookD, List.find?_cons, h2]
      rw [e1] at e
      cases e
      exact ⟨v, f, valV_pos rfl, h3, fun a ha => List.mem_append_left _ ha⟩
    · have e1 : lookD ((k, d') :: ds) j = lookD ds j := by
        have : ¬ keyOf k = some j := by rw [h2]; simpa using q
        simp [lookD, List.find?_cons, this]
      rw [e1] at e
      obtain ⟨w, g', z1, z2, z3⟩ := OwnK.get h4 e
      exact ⟨w, g', by rw [valV_neg (p := (i, v)) q]; exact z1, z2, fun a ha => List.mem_append_right _ (z3 a ha)⟩
/-- x[k] of a dict of one's own: a shared value; one read in place -/
def pDK (i : Nat) (k : Str) : P D := fun ρ => match ρ[i]? with
  | some (some (.mut (.dict kvs))) => (match lookD kvs (.inr k) with
    | some d => if isMut d = true then .stuck else .ok d
    | none => .stuck)
  | _ => .stuck
def pDKB (i : Nat) (k : Str) : P D := fun ρ => match ρ[i]? with
  | some (some (.mut (.dict kvs))) => (match lookD kvs (.inr k) with
    | some (.mut (.lst ds)) => if noMutL ds = true then .ok (.lst ds) else .stuck
    | some d => if isMut d = true then .stuck else .ok d
    | none => .stuck)
  | _ => .stuck
theorem PostP.one {α β : Type} {R : RR α β} {Q : β → Hp → Prop} {d : α} {v : β} (s : Same G H) (r : R H d v G H) (h : PostP K W σ G H R Q (.ok d)) : Q v H := h v G H (.refl s) r
theorem dp_dk {i : Nat} {k : Str} {kp : Pos} {kk : Tok} (hu : X.A.units + 1 < cLine) (hn : NmOk X i x) (hs : NoSl (.Constant (.str k) kk kp) := by exact fun _ _ => rfl) : DP c W X (.Subscript (.Name x p) (.Constant (.str k) kk kp) pos) (pDK i k) :=
  PE.imp (pe_dget hu hn.pe pe_str hs) fun σ H Q ⟨G, ρ, A, p⟩ => by
    unfold pDK at p
    split at p
    case h_2 => exact p.elim
    rename_i kvs e0
    split at p
    case h_2 => exact p.elim
    rename_i d e1
    split at p
    case isTrue => exact p.elim
    rename_i hm
    obtain ⟨v, fp, hv, ow⟩ := A.get e0
    obtain ⟨a, kv, f, rfl, h2, h3, _, _⟩ := ownV_mut.mp ow
    obtain ⟨w, g, z1, z2, _⟩ := OwnK.get h3 e1
    obtain ⟨z3, _⟩ := (ownV_val (by simpa using hm)).mp z2
    exact ⟨.ref a, hv, a, w, rfl, .inl ⟨kv, .inr k, .inl h2, rfl, z1.symm⟩, PostP.one A.sub z3 p⟩
theorem db_dk {i : Nat} {k : Str} {kp : Pos} {kk : Tok} (hu : X.A.units + 1 < cLine) (hn : NmOk X i x) (hs : NoSl (.Constant (.str k) kk kp) := by exact fun _ _ => rfl) : DB c W X (.Subscript (.Name x p) (.Constant (.str k) kk kp) pos) (pDKB i k) :=
  PE.imp (pe_dget hu hn.pe pe_str hs) fun σ H Q ⟨G, ρ, A, p⟩ => by
    unfold pDKB at p
    split at p
    case h_2 => exact p.elim
    rename_i kvs e0
    obtain ⟨v, fp, hv, ow⟩ := A.get e0
    obtain ⟨a, kv, f, rfl, h2, h3, _, _⟩ := ownV_mut.mp ow
    split at p
    · rename_i ds e1
      split at p
      case isFalse => exact p.elim
      rename_i hm
      obtain ⟨w, g, z1, z2, _⟩ := OwnK.get h3 e1
      obtain ⟨b, vs, f', rfl, q2, q3, _, _⟩ := ownV_mut.mp z2
      exact ⟨.ref a, hv, a, .ref b, rfl, .inl ⟨kv, .inr k, .inl h2, rfl, z1.symm⟩, PostP.one (R := rb X.K) (d := .lst ds) A.sub ⟨b, vs, rfl, q2, (ownL_rep hm q3).1⟩ p⟩
    · rename_i d hne e1
      split at p
      case isTrue => exact p.elim
      rename_i hm
      obtain ⟨w, g, z1, z2, _⟩ := OwnK.get h3 e1
      obtain ⟨z3, _⟩ := (ownV_val (by simpa using hm)).mp z2
      exact ⟨.ref a, hv, a, w, rfl, .inl ⟨kv, .inr k, .inl h2, rfl, z1.symm⟩, PostP.one (R := rb X.K) A.sub (Rep.rdO A.sub z3) p⟩
    · exact p.elim
end
end DL
namespace DL
open PySem PySem.Spec PyProof.Rows L2
variable [TheW]
/-! ### an evaluation while a value is held -/
section
variable {K : PySem.W.Frag} {c : Ct} {G H : Hp} {σ : L2.St} {ρ : Rho} {v : V} {d : D}
def arU (c : Ct) (σ : L2.St) : List V := (List.range σ.length).map fun i => match c.ar[i]? with
  | some w => w
  | none => (σ.getD i none).getD .non
end
/-! ### comprehensions whose parts change owned objects -/
def compM (g : D → M (Option D)) : List D → M (List D)
  | [], ρ => .ok [] ρ
  | d :: ds, ρ => match g d ρ with
    | .ok o ρ1 => (match compM g ds ρ1 with
      | .ok r ρ2 => .ok (match o with
        | some y => y :: r
        | none => r) ρ2
      | _ => .stuck)
    | _ => .stuck
def mItem (vs : List Nat) (t : Tgt) (tt : M Bool) (te : M D) (d : D) : M (Option D) := fun ρ => match asg t d with
  | some l => (match tt (setR ρ l) with
    | .ok true ρ1 => (match te ρ1 with
      | .ok y ρ2 => .ok (some y) (wipeR ρ2 vs)
      | _ => .stuck)
    | .ok false ρ1 => .ok none (wipeR ρ1 vs)
    | _ => .stuck)
  | none => .stuck
/-- the slots vs as they stood ahead, so far as they are shared -/
def restore (vs : List Nat) (ρ0 ρ : Rho) : Rho := ρ.mapIdx fun i o => if vs.contains i = true then (match ρ0.getD i none with
  | some d => if isMut d = true then none else some d
  | none => none) else o
def mComp (vs : List Nat) (t : Tgt) (src : M (List D)) (tt : M Bool) (te : M D) : M D := fun ρ => (src ρ).bind fun ds ρ1 => match compM (mItem vs t tt te) ds (wipeR ρ1 vs) with
  | .ok r ρ2 => if r.length ≤ LINE then .ok (.mut (.lst r)) (restore vs ρ1 ρ2) else .stuck
  | _ => .stuck
section
variable {c : Ct} {K : PySem.W.Frag} {G H : Hp} {σ : L2.St} {ρ ρ1 : Rho} {vs : List Nat}
end
section
variable {c : Ct} {W : WX} {K : PySem.W.Frag} {G H G1 H1 : Hp} {σ : L2.St} {ρ1 : Rho} {Q : VK} {vs : List Nat} {t : Tgt} {tt : M Bool} {te : M D} {ds : List D} {J : It}
/-- .. whatever the frame ahead was -/
def tMe {α β : Type} (K : PySem.W.Frag) (W : WX) (R : RR α β) (f : M α) : L2.St → Hp → (β → Hp → Prop) → Prop := fun σ H Q => ∃ c, tM K c W R f σ H Q
structure LcM (K : PySem.W.Frag) (c : Ct) (σw : L2.St) (G1 : Hp) (Dd : Addr) (g : D → M (Option D)) (ds res : List D) (ρe : Rho) (i : Nat) (Hc : Hp) : Prop where
  ex : ∃ Gc ρc acc rest, Same G1 Gc ∧ At K c Gc (σw ++ [some (.ref Dd)]) Hc (ρc ++ [some (.mut (.lst acc))]) ∧ compM g (ds.drop i) ρc = .ok rest ρe ∧ acc ++ rest = res
end
section
variable {c : Ct} {W : WX} {X : Cx} {elt tg iter : Expr} {ifs : List Expr} {scope : Scope} {own : List (Str × Nat)} {pos : Pos} {t : Tgt} {src : M (List D)} {tt : M Bool} {te : M D}
abbrev ETs (c : Ct) (X : Cx) (es : List Expr) (f : M Bool) : Prop := PTs X es (tM X.K c noW rt f)
def mYes : M Bool := fun ρ => .ok true ρ
end
end DL
namespace DL
open PySem PySem.Spec PyProof.Rows L2
variable [TheW]
/-! ### stores into dicts of one's own -/
def putKD (kvs : List (D × D)) (k d : D) : List (D × D) := if (kvs.any fun p => decide (keyOf p.1 = keyOf k)) = true then kvs.map (fun p => if keyOf p.1 = keyOf k then (p.1, d) else p) else kvs ++ [(k, d)]
section
variable {K : PySem.W.Frag} {c : Ct} {G H : Hp} {σ : L2.St} {ρ : Rho}
theorem OwnK.length : ∀ {kvs : List (D × D)} {kv : List (Key × V)} {f : List Addr}, OwnK K G H kvs kv f → kv.length = kvs.length
  | [], _, _, ⟨h, _⟩ => by rw [h]; rfl
  | (k, d) :: ds, _, _, ⟨j, v, r, f, g, h1, h2, h3, h4, _⟩ => by rw [h1, List.length_cons, List.length_cons, OwnK.length h4]
theorem OwnK.append : ∀ {ds es : List (D × D)} {vs ws : List (Key × V)} {f : List Addr}, OwnK K G H ds vs f → OwnK K G H es ws [] → OwnK K G H (ds ++ es) (vs ++ ws) f
  | [], _, _, _, _, ⟨h1, h2⟩, h' => by subst h1 h2; exact h'
  | (k, d) :: ds, _, _, _, _, ⟨j, v, r, f, g, h1, h2, h3, h4, h5, h6⟩, h' => by
    subst h1 h5
    exact ⟨j, v, r ++ _, f, g, rfl, h2, h3, OwnK.append h4 h', rfl, h6⟩
theorem OwnK.mapPut {k d : D} {v : V} {j : Key} (hk : keyOf k = some j) (r : Rep K G d v) : ∀ {kvs : List (D × D)} {kv : List (Key × V)} {f : List Addr}, OwnK K G H kvs kv f →
    ∃ f', OwnK K G H (kvs.map fun p => if keyOf p.1 = keyOf k then (p.1, d) else p) (kv.map fun q => if q.1 = j then (q.1, v) else q) f' ∧ ∀ a ∈ f', a ∈ f
  | [], _, _, ⟨h1, h2⟩ => by subst h1 h2; exact ⟨[], ⟨rfl, rfl⟩, fun a h => h⟩
  | (k0, d0) :: ds, _, _, ⟨i, w, rr, f, g, h1, h2, h3, h4, h5, h6⟩ => by
    subst h1 h5
    obtain ⟨f', o, s⟩ := OwnK.mapPut hk r h4
    by_cases q : i = j
    · subst q
      refine ⟨f', ?_, fun a h => List.mem_append_right _ (s a h)⟩
      rw [List.map_cons, List.map_cons, if_pos (show keyOf (k0, d0).1 = keyOf k from h2.trans hk.symm), if_pos rfl]
      exact ⟨i, v, _, [], f', rfl, h2, (ownV_val r.notMut).mpr ⟨r, rfl⟩, o, rfl, by simp⟩
    · have hq : ¬ keyOf k0 = keyOf k := by rw [h2, hk]; simpa using q
      refine ⟨f ++ f', ?_, fun a h => ?_⟩
      · rw [List.map_cons, List.map_cons, if_neg hq, if_neg q]
        exact ⟨i, w, _, f, f', rfl, h2, h3, o, rfl, fun a h1 h2 => h6 a h1 (s a h2)⟩
      · rcases List.mem_append.mp h with z | z
        · exact List.mem_append_left _ z
        · exact List.mem_append_right _ (s a z)
theorem OwnK.anyK {k : D} {j : Key} (hk : keyOf k = some j) : ∀ {kvs : List (D × D)} {kv : List (Key × V)} {f : List Addr}, OwnK K G H kvs kv f → (kv.any fun q => decide (q.1 = j)) = kvs.any fun p => decide (keyOf p.1 = keyOf k)
  | [], _, _, ⟨h1, _⟩ => by subst h1; rfl
  | (k0, d0) :: ds, _, _, ⟨i, w, rr, f, g, h1, h2, h3, h4, _⟩ => by
    subst h1
    rw [List.any_cons, List.any_cons, OwnK.anyK hk h4]
    congr 1
    rw [h2, hk]
    simp
theorem OwnK.put {k d : D} {v : V} {j : Key} (hk : keyOf k = some j) (r : Rep K G d v) {kvs : List (D × D)} {kv : List (Key × V)} {f : List Addr} (h : OwnK K G H kvs kv f) : ∃ f', OwnK K G H (putKD kvs k d) (putK kv j v) f' ∧ ∀ a ∈ f', a ∈ f := by
  unfold putKD putK
  rw [OwnK.anyK hk h]
  split
  · obtain ⟨f', o, s⟩ := OwnK.mapPut hk r h
    exact ⟨f', o, s⟩
  · exact ⟨f, OwnK.append h ⟨j, v, [], [], [], rfl, hk, (ownV_val r.notMut).mpr ⟨r, rfl⟩, ⟨rfl, rfl⟩, rfl, by simp⟩, fun a h => h⟩
theorem OwnK.upd {kvs : List (D × D)} {kv : List (Key × V)} {f : List Addr} {a : Addr} {o : HO} (h : OwnK K G H kvs kv f) (hn : a ∉ f) : OwnK K G (upd H a o) kvs kv f :=
  OwnK.mono (.refl _) kvs (fun b hb => upd_ne fun z => hn (z ▸ hb)) h
theorem At.dic (A : At K c G σ H ρ) {i : Nat} {kvs : List (D × D)} (h : ρ[i]? = some (some (.mut (.dict kvs)))) : ∃ (a : Addr) (kv : List (Key × V)) (f : List Addr), σ[i]? = some (some (.ref a)) ∧ H a = some (.dK kv) ∧ OwnK K G H kvs kv f ∧ a ∉ f := by
  obtain ⟨v, fp, hv, ow⟩ := A.get h
  obtain ⟨a, vs, f, rfl, h2, h3, h4, h5⟩ := ownV_mut.mp ow
  exact ⟨a, vs, f, hv, h2, h3, h5⟩
theorem At.puts (A : At K c G σ H ρ) {i : Nat} {kvs : List (D × D)} {a : Addr} {kv : List (Key × V)} {k d : D} {j : Key} {v : V} (hv : σ[i]? = some (some (.ref a))) (hd : ρ[i]? = some (some (.mut (.dict kvs)))) (ha : H a = some (.dK kv)) (hk : keyOf k = some j) (r : Rep K G d v) :
    At K c G σ (L2.upd H a (.dK (putK kv j v))) (ρ.set i (some (.mut (.dict (putKD kvs k d))))) :=
  At.upd A hv hd fun fp ⟨a', vs', f, e1, h2, h3, h4, h5⟩ => by
    cases e1
    rw [ha] at h2; cases h2
    subst h4
    obtain ⟨f', o, s⟩ := OwnK.put hk r (OwnK.upd h3 h5 (o := .dK (putK kv j v)))
    exact ⟨List.mem_cons_self, a :: f', ⟨a, _, f', rfl, upd_same, o, rfl, fun z => h5 (s a z)⟩, fun b hb => (List.mem_cons.mp hb).elim (fun z => z ▸ List.mem_cons_self) fun z => List.mem_cons_of_mem _ (s b z)⟩
end
def sDPutD (i : Nat) (g : P D) (f : M D) : S := fun ρ => (f ρ).fl fun d ρ1 => match g ρ1 with
  | .ok k => (match keyOf k, ρ1[i]? with
    | some _, some (some (.mut (.dict kvs))) => if kvs.length < LINE then .nx (ρ1.set i (some (.mut (.dict (putKD kvs k d))))) else .stuck
    | _, _ => .stuck)
  | _ => .stuck
section
variable {c : Ct} {W : WX} {X : Cx} {e ke : Expr} {es : List Expr} {f : M D} {g : P D} {fs : M (List D)} {pos p p2 apos cpos : Pos} {x : Str} {K : PySem.W.Frag} {σ : L2.St} {G H : Hp}
theorem ds_dput {i : Nat} (hu : X.A.units + 1 < cLine) (hn : NmOk X i x) (hk : DP c W X ke g) (he : EM c W X e f) (hs : swapsWith e (some (.Subscript (.Name x p) ke p2)) pos.line X.env = pure false := by rfl) : DS c W X (.Assign [.Subscript (.Name x p) ke p2] e pos) (sDPutD i g f) :=
  PS.imp (ps_dput hu hn.pe hk he hs) fun E σ H ⟨G, ρ, A, p⟩ => ⟨G, ρ, A, PostS.outM p fun d ρ1 q v G1 H1 s1 A1 r1 => by
    split at q
    case h_2 => exact q.elim
    rename_i k ek
    split at q
    case h_2 => exact q.elim
    rename_i j kvs ej e1
    split at q
    case isFalse => exact q.elim
    rename_i hl
    obtain ⟨a, kv, f, hv, ha, ow, _⟩ := A1.dic e1
    refine ⟨.ref a, hv, G1, ρ1, A1, ?_⟩
    rw [ek]
    intro u G2 H2 g2 ru
    have := kV_rep ej ru
    subst this
    have A2 := A1.grow g2
    obtain ⟨a', kv', f', hv', ha', ow', _⟩ := A2.dic e1
    rw [hv] at hv'; cases hv'
    exact ⟨a, _, rfl, .inl ⟨kv', j, ha', rfl, by rw [ow'.length]; exact hl, rfl⟩, q G2 _ _ (s1.trans g2.g) (A2.puts hv e1 ha' ej (Rep.mono g2.g _ r1))⟩⟩
/-! ### a list within a dict of one's own -/
def updK : List (D × D) → Key → D → List (D × D)
  | [], _, _ => []
  | (k, d0) :: r, j, d => if keyOf k = some j then (k, d) :: r else (k, d0) :: updK r j d
theorem OwnK.inner {j : Key} {ds : List D} : ∀ {kvs : List (D × D)} {kv : List (Key × V)} {f : List Addr}, OwnK K G H kvs kv f → lookD kvs j = some (.mut (.lst ds)) →
    ∃ b vs g, valV kv j = some (.ref b) ∧ H b = some (.lst vs) ∧ OwnL K G H ds vs g ∧ b ∈ f ∧ ∀ es ws, RepL K G es ws → ∃ f', OwnK K G (L2.upd H b (.lst ws)) (updK kvs j (.mut (.lst es))) kv f' ∧ ∀ a ∈ f', a ∈ f
  | [], _, _, _, e => by cases e
  | (k0, d0) :: r0, _, _, ⟨i, w, rr, f, g, h1, h2, h3, h4, h5, h6⟩, e => by
    subst h1 h5
    by_cases q : i = j
    · subst q
      have e1 : lookD ((k0, d0) :: r0) i = some d0 := by simp [lookD, List.find?_cons, h2]
      rw [e1] at e
      cases e
      obtain ⟨b, vs, g', rfl, q2, q3, q4, q5⟩ := ownV_mut.mp h3
      subst q4
      refine ⟨b, vs, g', valV_pos rfl, q2, q3, List.mem_append_left _ List.mem_cons_self, fun es ws r => ⟨[b] ++ g, ?_, fun a ha => ?_⟩⟩
      · unfold updK
        rw [if_pos h2]
        refine ⟨i, .ref b, rr, [b], g, rfl, h2, ownV_mut.mpr ⟨b, ws, [], rfl, upd_same, repL_ownL r, rfl, by simp⟩, OwnK.upd h4 (h6 b List.mem_cons_self), rfl, fun a ha => ?_⟩
        have : a = b := by simpa using ha
        subst this
        exact h6 a List.mem_cons_self
      · rcases List.mem_append.mp ha with z | z
        · have : a = b := by simpa using z
          subst this
          exact List.mem_append_left _ List.mem_cons_self
        · exact List.mem_append_right _ z
    · have hq : ¬ keyOf k0 = some j := by rw [h2]; simpa using q
      have e1 : lookD ((k0, d0) :: r0) j = lookD r0 j := by simp [lookD, List.find?_cons, hq]
      rw [e1] at e
      obtain ⟨b, vs, g', z1, z2, z3, z4, z5⟩ := OwnK.inner h4 e
      refine ⟨b, vs, g', by rw [valV_neg (p := (i, w)) q]; exact z1, z2, z3, List.mem_append_right _ z4, fun es ws r => ?_⟩
      obtain ⟨f', o, s⟩ := z5 es ws r
      refine ⟨f ++ f', ?_, fun a ha => ?_⟩
      · unfold updK
        rw [if_neg hq]
        exact ⟨i, w, rr, f, f', rfl, h2, OwnV.mono (.refl _) d0 (fun a ha => upd_ne fun z => h6 a ha (by rw [z]; exact z4)) h3, o, rfl, fun a h1 h2 => h6 a h1 (s a h2)⟩
      · rcases List.mem_append.mp ha with z | z
        · exact List.mem_append_left _ z
        · exact List.mem_append_right _ (s a z)
/-- x['k'].pop(e) and the like -/
def mDLst (i : Nat) (k : Str) (xs : List D) (g : List D → List D → Option (D × List D)) : M D := fun ρ => match ρ[i]? with
  | some (some (.mut (.dict kvs))) => (match lookD kvs (.inr k) with
    | some (.mut (.lst ds)) => (match g ds xs with
      | some (d, es) => .ok d (ρ.set i (some (.mut (.dict (updK kvs (.inr k) (.mut (.lst es)))))))
      | none => .stuck)
    | _ => .stuck)
  | _ => .stuck
theorem em_dpop {i : Nat} {k : Str} {kp ip : Pos} {kk ik : Tok} {n : Int} (hu : X.A.units + 1 < cLine) (hn : NmOk X i x) (hs : NoSl (.Constant (.str k) kk kp) := by exact fun _ _ => rfl)
    (hbase : attributeBase (.Subscript (.Name x p) (.Constant (.str k) kk kp) p2) "pop" X.env (eval (.Subscript (.Name x p) (.Constant (.str k) kk kp) p2) X.env) = eval (.Subscript (.Name x p) (.Constant (.str k) kk kp) p2) X.env := by rfl)
    (hfew : ((backTo cpos (starEach [.Constant (.int n) ik ip] X.env)).all (fun x => !x.1) && (backToKw cpos (keywordEach [] X.env)).all (fun x => x.1.isSome) && decide (([.Constant (.int n) ik ip] : List Expr).length + ([] : List Keyword).length + (if ([] : List Keyword).isEmpty then 0 else 1) < 30)) = true := by rfl)
    (hline : (apos.endLine == cpos.line) = true := by rfl) (hs2 : starEach [.Constant (.int n) ik ip] X.env = [(false, eval (.Constant (.int n) ik ip) X.env)] := by rfl) (hplain : (backTo cpos (starEach [] X.env)).any (·.1) = false := by rfl) :
    EM c W X (.Call (.Attribute (.Subscript (.Name x p) (.Constant (.str k) kk kp) p2) "pop" apos) [.Constant (.int n) ik ip] [] cpos) (mDLst i k [.int n] gPopAt) :=
  PE.imp (pe_bm PySem.F.plainAttrs_list PySem.F.slot_list_pop PySem.F.type_list_pop mt_popAt (pe_dget hu hn.pe pe_str hs) (pa_cons pe_int pa_nil hs2) hbase hfew hline hs2 hplain) fun σ H Q ⟨G, ρ, A, p⟩ => by
    unfold mDLst at p
    split at p
    case h_2 => exact p.elim
    rename_i kvs e0
    split at p
    case h_2 => exact p.elim
    rename_i ds e1
    split at p
    case h_2 => exact p.elim
    rename_i d es eg
    obtain ⟨fp, s1, s2, s3, s4⟩ := A.fp
    obtain ⟨v, _, hv, _⟩ := A.get e0
    have t := s1 i
    rw [getD_of hv, getD_of e0] at t
    obtain ⟨a, kv, f, rfl, h2, h3, h4, h5⟩ := ownV_mut.mp t
    obtain ⟨b, vs, g', z1, z2, z3, z4, z5⟩ := OwnK.inner h3 e1
    refine ⟨.ref a, hv, a, .ref b, rfl, .inl ⟨kv, .inr k, .inl h2, rfl, z1.symm⟩, .inl ⟨rfl, vs, SqL.of z2⟩, ?_⟩
    simp only [gPopAt] at eg
    split at eg
    case isFalse => cases eg
    rename_i hk
    split at eg
    case h_2 => cases eg
    rename_i jj ej
    obtain ⟨y, ey, e2⟩ := Option.map_eq_some_iff.mp eg
    cases e2
    obtain ⟨rp, _⟩ := ownL_rep hk.2.2 z3
    obtain ⟨u, eu, ru⟩ := rp.get ey
    refine ⟨b, vs, n, jj, u, rfl, rfl, z2, hk.1, hk.2.1, by rw [rp.length]; exact ej, eu, p u G _ (.refl _) ?_ ru⟩
    obtain ⟨f', o, s⟩ := z5 (ds.eraseIdx jj) (vs.eraseIdx jj) (repL_erase jj rp)
    have nb : b ≠ a := fun z => h5 (z ▸ z4)
    have mb : b ∈ fp i := by rw [h4]; exact List.mem_cons_of_mem _ z4
    refine A.mod s1 s2 s3 hv e0 (l := a :: f') (fun c hc => upd_ne fun z => hc (z ▸ mb)) (fun c hc => ?_) ⟨a, kv, f', rfl, by rw [upd_ne (Ne.symm nb)]; exact h2, o, rfl, fun z => h5 (s a z)⟩ fun c hc => ?_
    · by_cases q : c = b
      · subst q; rw [upd_same]; simp
      · rw [upd_ne q]; exact hc
    · rw [h4]
      exact (List.mem_cons.mp hc).elim (fun z => z ▸ List.mem_cons_self) fun z => List.mem_cons_of_mem _ (s c z)
end
end DL
namespace DL
open PySem PySem.Spec PyProof.Rows L2
variable [TheW]
section
variable {K : PySem.W.Frag} {c : Ct} {G H : Hp} {σ : L2.St} {ρ : Rho}
/-- a slot is forgotten: what the others have stays -/
theorem At.lose (A : At K c G σ H ρ) {fp : Nat → List Addr} (s1 : ∀ i, SlotR K G H (σ.getD i none) (ρ.getD i none) (fp i)) (s2 : ∀ i j a, a ∈ fp i → a ∈ fp j → i = j) (s3 : ∀ i a, a ∈ fp i → G a = none ∧ (c.H0 a = none ∨ a ∈ c.F0 i)) (i : Nat) :
    At K c G σ H (ρ.set i none) ∧ (∀ j, SlotR K G H (σ.getD j none) ((ρ.set i none).getD j none) (fpSet fp i [] j)) ∧ (∀ j k a, a ∈ fpSet fp i [] j → a ∈ fpSet fp i [] k → j = k) ∧ (∀ j a, a ∈ fpSet fp i [] j → G a = none ∧ (c.H0 a = none ∨ a ∈ c.F0 j)) ∧ ∀ j a, a ∈ fpSet fp i [] j → a ∈ fp j ∧ j ≠ i := by
  have m : ∀ j a, a ∈ fpSet fp i [] j → a ∈ fp j ∧ j ≠ i := fun j a h => by
    by_cases e : j = i
    · rw [e, fpSet_self] at h; cases h
    · rw [fpSet_ne e] at h; exact ⟨h, e⟩
  have t1 : ∀ j, SlotR K G H (σ.getD j none) ((ρ.set i none).getD j none) (fpSet fp i [] j) := fun j => by
    rw [getD_set]
    by_cases e : j = i
    · rw [e, fpSet_self]
      split
      · cases σ.getD i none <;> exact rfl
      · rename_i h
        have : ρ.getD i none = none := getD_ge (by omega)
        rw [this]; cases σ.getD i none <;> exact rfl
    · rw [if_neg (fun z => e z.1), fpSet_ne e]; exact s1 j
  have t2 : ∀ j k a, a ∈ fpSet fp i [] j → a ∈ fpSet fp i [] k → j = k := fun j k a h1 h2 => s2 _ _ _ (m j a h1).1 (m k a h2).1
  have t3 : ∀ j a, a ∈ fpSet fp i [] j → G a = none ∧ (c.H0 a = none ∨ a ∈ c.F0 j) := fun j a h => s3 _ _ (m j a h).1
  refine ⟨⟨A.sub, A.g0, A.gnew, A.keepT, A.dom, A.tb, A.nt, A.f0, A.arl, by simp [A.len], fun j w e h1 h2 => ?_, fpSet fp i [], t1, t2, t3⟩, t1, t2, t3, m⟩
  by_cases hj : j = i
  · subst hj
    have hl : j < ρ.length := by have := (List.getElem?_eq_some_iff.mp h2).1; simpa using this
    rw [List.getElem?_set_self hl] at h2; cases h2
  · rw [List.getElem?_set_ne (Ne.symm hj)] at h2; exact A.par j w e h1 h2
/-- a slot's own objects and new ones make up a value -/
theorem At.wrap (A : At K c G σ H ρ) {fp : Nat → List Addr} (s1 : ∀ i, SlotR K G H (σ.getD i none) (ρ.getD i none) (fp i)) (s2 : ∀ i j a, a ∈ fp i → a ∈ fp j → i = j) (s3 : ∀ i a, a ∈ fp i → G a = none ∧ (c.H0 a = none ∨ a ∈ c.F0 i)) {i : Nat} (hi : c.ar.length ≤ i)
    {d : D} {v : V} {l : List Addr} (r : OwnV K G H d v l) (hl : ∀ a ∈ l, a ∈ fp i ∨ (G a = none ∧ c.H0 a = none ∧ ∀ j, a ∉ fp j)) : At K c G (σ ++ [some v]) H (ρ.set i none ++ [some d]) := by
  obtain ⟨B, t1, t2, t3, m⟩ := A.lose s1 s2 s3 i
  refine B.push r t1 t2 t3 (fun j a ha hj => ?_) fun a ha => ?_
  · obtain ⟨m1, m2⟩ := m j a hj
    rcases hl a ha with z | z
    · exact m2 (s2 _ _ _ m1 z)
    · exact z.2.2 j m1
  · rcases hl a ha with z | z
    · refine ⟨(s3 i a z).1, (s3 i a z).2.resolve_right fun q => ?_⟩
      rw [A.f0 i hi] at q; cases q
    · exact ⟨z.1, z.2.1⟩
end
/-! ### return {k: name, ..}: the name's own object goes into the new dict -/
def sRetD4 (n i : Nat) (k1 k2 k3 k4 : Str) (f2 f3 f4 : P D) : S := fun ρ => match ρ[i]?, f2 ρ, f3 ρ, f4 ρ with
  | some (some (.mut d1)), .ok d2, .ok d3, .ok d4 => if n ≤ i ∧ [k1, k2, k3, k4].Nodup then .ret (.mut (.dict [(.str k1, .mut d1), (.str k2, d2), (.str k3, d3), (.str k4, d4)])) (ρ.set i none) else .stuck
  | _, _, _, _ => .stuck
section
variable {c : Ct} {W : WX} {X : Cx} {e e2 e3 e4 : Expr} {f2 f3 f4 : P D} {pos p p1 p2 p3 p4 dp : Pos} {x k1 k2 k3 k4 : Str} {t1 t2 t3 t4 : Tok} {K : PySem.W.Frag} {σ : L2.St} {G H : Hp}
theorem merge4 {k1 k2 k3 k4 : Str} (h : [k1, k2, k3, k4].Nodup) (v1 v2 v3 v4 : V) : mergeK [] [((.inr k1 : Key), v1), (.inr k2, v2), (.inr k3, v3), (.inr k4, v4)] = [(.inr k1, v1), (.inr k2, v2), (.inr k3, v3), (.inr k4, v4)] := by
  simp only [List.nodup_cons, List.mem_cons, List.not_mem_nil, or_false, not_or, not_false_eq_true, List.nodup_nil, and_true] at h
  obtain ⟨⟨a, b, c⟩, ⟨d, e⟩, f⟩ := h
  simp [mergeK, putK, a, b, c, d, e, f, Ne.symm]
theorem ds_retD4 {n i : Nat} (hc : c.ar.length = n) (hn : NmOk X i x) (h2 : DP c W X e2 f2) (h3 : DP c W X e3 f3) (h4 : DP c W X e4 f4) :
    DS c W X (.Return (some (.Dict [some (.Constant (.str k1) t1 p1), some (.Constant (.str k2) t2 p2), some (.Constant (.str k3) t3 p3), some (.Constant (.str k4) t4 p4)] [.Name x p, e2, e3, e4] dp)) pos) (sRetD4 n i k1 k2 k3 k4 f2 f3 f4) :=
  PS.imp (ps_ret (pe_disp (pps_cons pe_str hn.pe (pps_cons pe_str h2 (pps_cons pe_str h3 (pps_cons pe_str h4 pps_nil)))) rfl rfl (by simp) (by simp))) fun E σ H ⟨G, ρ, A, q⟩ => by
    unfold sRetD4 at q
    split at q
    case h_2 => exact q.elim
    rename_i d1 d2 d3 d4 e1 o2 o3 o4
    split at q
    case isFalse => exact q.elim
    rename_i hh
    intro pp hpp
    obtain ⟨v1, _, hv, _⟩ := A.get e1
    have g0 : Grow G H G (upd H pp (.dK [])) := .new A.sub hpp
    refine ⟨v1, hv, G, ρ, A.grow g0, ?_⟩
    rw [o2]
    intro v2 G2 H2 g2 r2
    refine ⟨G2, ρ, (A.grow g0).grow g2, ?_⟩
    rw [o3]
    intro v3 G3 H3 g3 r3
    refine ⟨G3, ρ, ((A.grow g0).grow g2).grow g3, ?_⟩
    rw [o4]
    intro v4 G4 H4 g4 r4
    have g1 : Grow G (upd H pp (.dK [])) G4 H4 := g2.trans (g3.trans g4)
    have hp4 : H4 pp = some (.dK []) := g1.h _ _ upd_same
    have gp : G pp = none := A.sub.free hpp
    have gp4 : G4 pp = none := g1.nn gp (by rw [upd_same]; simp)
    refine ⟨hp4, [(.inr k1, v1), (.inr k2, v2), (.inr k3, v3), (.inr k4, v4)], rfl, by simp, ?_⟩
    rw [merge4 hh.2]
    have gf : Grow G H G4 (upd H4 pp (.dK [(.inr k1, v1), (.inr k2, v2), (.inr k3, v3), (.inr k4, v4)])) := (g0.trans g1).upd' hpp gp4
    obtain ⟨fp, s1, s2, s3, s4⟩ := A.fp
    have Af := A.grow gf
    have t1 := fun i => (s1 i).mono gf.g (H' := upd H4 pp (.dK [(.inr k1, v1), (.inr k2, v2), (.inr k3, v3), (.inr k4, v4)])) fun a ha => by
      cases z : H a with
      | none => exact absurd z (s4 i a ha)
      | some o => exact gf.h _ _ z ((s1 i).nt a ha o z)
    have t3 : ∀ i a, a ∈ fp i → G4 a = none ∧ (c.H0 a = none ∨ a ∈ c.F0 i) := fun i a ha => ⟨gf.nn (s3 i a ha).1 (s4 i a ha), (s3 i a ha).2⟩
    have npp : ∀ j, pp ∉ fp j := fun j z => s4 j pp z hpp
    have u := t1 i
    rw [getD_of hv, getD_of e1] at u
    refine q (.ref pp) G4 σ _ gf.g A.arl (Af.wrap t1 s2 t3 (i := i) (by rw [hc]; exact hh.1) (l := pp :: fp i) (ownV_mut.mpr ⟨pp, _, fp i, rfl, upd_same, ?_, rfl, npp i⟩) fun a ha => ?_)
    · have rr : ∀ {d : D} {v : V}, Rep X.K G4 d v → OwnV X.K G4 (upd H4 pp (.dK [(.inr k1, v1), (.inr k2, v2), (.inr k3, v3), (.inr k4, v4)])) d v [] := fun r => (ownV_val r.notMut).mpr ⟨r, rfl⟩
      exact ⟨.inr k1, v1, _, fp i, [], rfl, rfl, u, ⟨.inr k2, v2, _, [], [], rfl, rfl, rr (Rep.mono (g3.g.trans g4.g) _ r2), ⟨.inr k3, v3, _, [], [], rfl, rfl, rr (Rep.mono g4.g _ r3), ⟨.inr k4, v4, [], [], [], rfl, rfl, rr r4, ⟨rfl, rfl⟩, rfl, by simp⟩, rfl, by simp⟩, rfl, by simp⟩, by simp, by simp⟩
    · rcases List.mem_cons.mp ha with z | z
      · rw [z]
        refine .inr ⟨gp4, ?_, npp⟩
        cases z : c.H0 pp with
        | none => rfl
        | some o => exact absurd hpp (A.dom pp (ne_none_of z))
      · exact .inl z
/-! ### a, b = x, y -/
def sPar (n i j : Nat) (f g : P D) : S := fun ρ => match f ρ, g ρ with
  | .ok d, .ok e => if (i < ρ.length ∧ j < ρ.length) ∧ (n ≤ i ∨ isMut d = false) ∧ (n ≤ j ∨ isMut e = false) then .nx ((ρ.set i (some d)).set j (some e)) else .stuck
  | _, _ => .stuck
/-- .. by expressions that change owned objects -/
def sParM (i j : Nat) (f g : M D) : S := fun ρ => (f ρ).fl fun d ρ1 => (g ρ1).fl fun e ρ2 => .nx ((ρ2.set i (some d)).set j (some e))
end
end DL
namespace DL
open PySem PySem.Spec PyProof.Rows L2
variable [TheW]
/-! ### defs by name -/
structure FnF (K : PySem.W.Frag) (mg : Str → Option Value) (x : Str) (st : Stmt) : Prop where
  ex : ∃ fd, FunD K x x (defArgs st) (defBody st) (defScope st) [] [] (He.ga K x) fd
  m : mg x = some (.ref (He.ga K x))
structure Call1 (P : Program) (w : World) (K : PySem.W.Frag) (mg : Str → Option Value) (base : Heap) (k : Nat) (x : Str) (ps : List Str) (F : Fd) : Prop where
  ex : ∃ fd, FnOk P w K mg base CX0 k (He.ga K x) fd ps (spF K ps.length F) ∧ Binds K fd ps []
  m : mg x = some (.ref (He.ga K x))
  kp : PySem.W.keepIn K (.ref (He.ga K x)) = true
section
variable {P : Program} {w : World} {K : PySem.W.Frag} {mg : Str → Option Value} {base : Heap} {x : Str} {st : Stmt} {N ps : List Str} {k j : Nat} {F : Fd}
theorem Call1.mono (C : Call1 P w K mg base j x ps F) (h : j ≤ k := by decide) : Call1 P w K mg base k x ps F := by
  obtain ⟨fd, h1, h2⟩ := C.ex
  exact ⟨⟨fd, h1.mono h, h2⟩, C.m, C.kp⟩
/-- a def's promise from its body -/
theorem call1 {s : S} (Fa : FnF K mg x st) (Sc : FnScope N ps (defScope st))
    (hbd : ∀ (kV doc pm : Value) (an : Option Addr) (cdv ct : Value) (us : List Value), us.length = ps.length → bindArgs (PySem.W.fnOf x x (defArgs st) (defBody st) (defScope st) .none kV doc pm an cdv ct) ⟨us, []⟩ = pure (ps.zip us))
    (hb : ∀ (c : Ct) (f : Addr) (cdv : Value) (A : Around) (outer : List Env) (s0 : Shared) (H : Hp) (E : XK), c.ar.length = ps.length → Room k (A.deeper (envOfC x (defScope st) s0.heap.objs.size f cdv)) → DSs c noW (FX P w K mg base N x (defScope st) f cdv A outer s0 H E) (defBody st) s) :
    Call1 P w K mg base (k + 1) x ps (runF N.length s) := by
  obtain ⟨fd, FD⟩ := Fa.ex
  exact ⟨⟨fd, fn_body FD Sc fun c cdv A outer s0 H E hc hr => hb c (He.ga K x) cdv A outer s0 H E hc hr, FD.bindsN hbd⟩, Fa.m, FD.kp⟩
end
section
variable {c : Ct} {W : WX} {X : Cx} {k n : Nat} {ps : List Str} {x : Str} {p pos : Pos} {e : Expr} {es : List Expr} {fs : P (List D)} {F : Fd}
theorem dx_c (C : Call1 X.prog X.w X.K X.mg X.base k x ps F) (hr : Room k X.A) (ha : DA c W X (e :: es) fs) (hn : ps.length = n := by rfl)
    (hg : Gl X x := by rfl) (hdb : (x == ("__debug__" : Str)) = false := by decide) (he : starEach (e :: es) X.env = (false, eval e X.env) :: starEach es X.env := by rfl) (hpl : (backTo pos (starEach es X.env)).any (·.1) = false := by rfl) :
    DX c W X (.Call (.Name x p) (e :: es) [] pos) (pCallF n F fs) := by
  subst hn
  obtain ⟨fd, h1, h2⟩ := C.ex
  exact dx_call h1 hr C.m C.kp h2 pass0 ha hg hdb he hpl
theorem ex_c {fs : M (List Ar)} (C : Call1 X.prog X.w X.K X.mg X.base k x ps F) (hr : Room k X.A) (ha : EAr c W X (e :: es) fs) (hn : ps.length = n := by rfl)
    (hg : Gl X x := by rfl) (hdb : (x == ("__debug__" : Str)) = false := by decide) (he : starEach (e :: es) X.env = (false, eval e X.env) :: starEach es X.env := by rfl) (hpl : (backTo pos (starEach es X.env)).any (·.1) = false := by rfl) :
    EX c W X (.Call (.Name x p) (e :: es) [] pos) (mCall F n fs) := by
  subst hn
  obtain ⟨fd, h1, h2⟩ := C.ex
  exact ex_call h1 hr C.m C.kp h2 pass0 ha hg hdb he hpl
end
section
variable {c : Ct} {W : WX} {X : Cx} {a b d : Expr} {f g k : P D} {pos : Pos}
end
end DL
namespace DL
open PySem PySem.Spec PyProof.Rows L2
variable [TheW]
/-! ### the order of ints, texts and tuples of them -/
inductive O where
  | z | i (n : Int) | s (x : List Nat) | t (xs : List O)
def cmpB {α : Type} (l : α → α → Bool) (a b : α) : Ordering := if l a b = true then .lt else if l b a = true then .gt else .eq
mutual
def cmpO : O → O → Ordering
  | .z, .z => .eq
  | .z, _ => .lt
  | .i _, .z => .gt
  | .i a, .i b => cmpB (fun a b => decide (a < b)) a b
  | .i _, _ => .lt
  | .s _, .z => .gt
  | .s _, .i _ => .gt
  | .s a, .s b => cmpB (fun a b => decide (a < b)) a b
  | .s _, .t _ => .lt
  | .t a, .t b => cmpOL a b
  | .t _, _ => .gt
def cmpOL : List O → List O → Ordering
  | [], [] => .eq
  | [], _ :: _ => .lt
  | _ :: _, [] => .gt
  | x :: xs, y :: ys => match cmpO x y with
    | .lt => .lt
    | .gt => .gt
    | .eq => cmpOL xs ys
end
def ltO (x y : O) : Bool := cmpO x y == .lt
theorem cmpB_swap {α : Type} {l : α → α → Bool} (as : ∀ a b, l a b = true → l b a = false) (a b : α) : cmpB l b a = (cmpB l a b).swap := by
  unfold cmpB
  cases h1 : l a b with
  | true => rw [as a b h1]; simp
  | false => cases h2 : l b a <;> simp
theorem int_as (a b : Int) (h : decide (a < b) = true) : decide (b < a) = false := by simp at h ⊢; omega
theorem nats_as (a b : List Nat) (h : decide (a < b) = true) : decide (b < a) = false := by
  simp only [decide_eq_true_eq, decide_eq_false_iff_not] at h ⊢
  exact List.lt_asymm h
mutual
theorem cmpO_swap : ∀ x y : O, cmpO y x = (cmpO x y).swap
  | .z, .z => rfl
  | .z, .i _ => rfl
  | .z, .s _ => rfl
  | .z, .t _ => rfl
  | .i _, .z => rfl
  | .i a, .i b => cmpB_swap int_as a b
  | .i _, .s _ => rfl
  | .i _, .t _ => rfl
  | .s _, .z => rfl
  | .s _, .i _ => rfl
  | .s a, .s b => cmpB_swap nats_as a b
  | .s _, .t _ => rfl
  | .t _, .z => rfl
  | .t _, .i _ => rfl
  | .t _, .s _ => rfl
  | .t a, .t b => by simp only [cmpO]; exact cmpOL_swap a b
theorem cmpOL_swap : ∀ x y : List O, cmpOL y x = (cmpOL x y).swap
  | [], [] => rfl
  | [], _ :: _ => rfl
  | _ :: _, [] => rfl
  | x :: xs, y :: ys => by
    simp only [cmpOL, cmpO_swap x y]
    cases cmpO x y with
    | lt => rfl
    | gt => rfl
    | eq => exact cmpOL_swap xs ys
end
mutual
theorem cmpO_eq : ∀ x y : O, cmpO x y = .eq → x = y
  | .z, .z, _ => rfl
  | .z, .i _, h => by simp [cmpO] at h
  | .z, .s _, h => by simp [cmpO] at h
  | .z, .t _, h => by simp [cmpO] at h
  | .i _, .z, h => by simp [cmpO] at h
  | .i a, .i b, h => by
    simp only [cmpO, cmpB, decide_eq_true_eq] at h
    split at h
    · cases h
    · split at h
      · cases h
      · rw [show a = b by omega]
  | .i _, .s _, h => by simp [cmpO] at h
  | .i _, .t _, h => by simp [cmpO] at h
  | .s _, .z, h => by simp [cmpO] at h
  | .s _, .i _, h => by simp [cmpO] at h
  | .s a, .s b, h => by
    simp only [cmpO, cmpB, decide_eq_true_eq] at h
    split at h
    · cases h
    · rename_i h1
      split at h
      · cases h
      · rename_i h2
        rw [List.le_antisymm (as := a) (bs := b) h2 h1]
  | .s _, .t _, h => by simp [cmpO] at h
  | .t _, .z, h => by simp [cmpO] at h
  | .t _, .i _, h => by simp [cmpO] at h
  | .t _, .s _, h => by simp [cmpO] at h
  | .t a, .t b, h => by simp only [cmpO] at h; rw [cmpOL_eq a b h]
theorem cmpOL_eq : ∀ x y : List O, cmpOL x y = .eq → x = y
  | [], [], _ => rfl
  | [], _ :: _, h => by simp [cmpOL] at h
  | _ :: _, [], h => by simp [cmpOL] at h
  | x :: xs, y :: ys, h => by
    simp only [cmpOL] at h
    cases e : cmpO x y with
    | lt => rw [e] at h; cases h
    | gt => rw [e] at h; cases h
    | eq => rw [e] at h; rw [cmpO_eq x y e, cmpOL_eq xs ys h]
end
mutual
theorem cmpO_trans : ∀ x y z : O, cmpO x y = .lt → cmpO y z = .lt → cmpO x z = .lt
  | .z, .z, _, h, _ => by simp [cmpO] at h
  | .z, .i _, .z, _, h => by simp [cmpO] at h
  | .z, .s _, .z, _, h => by simp [cmpO] at h
  | .z, .t _, .z, _, h => by simp [cmpO] at h
  | .z, _, .i _, _, _ => rfl
  | .z, _, .s _, _, _ => rfl
  | .z, _, .t _, _, _ => rfl
  | .i _, .z, _, h, _ => by simp [cmpO] at h
  | .i a, .i b, .i d, h, h2 => by
    have h : cmpB (fun a b => decide (a < b)) a b = .lt := by simpa only [cmpO] using h
    have h2 : cmpB (fun a b => decide (a < b)) b d = .lt := by simpa only [cmpO] using h2
    have l1 : a < b := by
      unfold cmpB at h; split at h
      · rename_i q; simpa using q
      · split at h <;> cases h
    have l2 : b < d := by
      unfold cmpB at h2; split at h2
      · rename_i q; simpa using q
      · split at h2 <;> cases h2
    simp only [cmpO, cmpB]
    rw [if_pos (by simp; omega)]
  | .i _, .i _, .z, _, h => by simp [cmpO] at h
  | .i _, _, .s _, _, _ => by simp [cmpO]
  | .i _, _, .t _, _, _ => by simp [cmpO]
  | .i _, .s _, .z, _, h => by simp [cmpO] at h
  | .i _, .s _, .i _, _, h => by simp [cmpO] at h
  | .i _, .t _, .z, _, h => by simp [cmpO] at h
  | .i _, .t _, .i _, _, h => by simp [cmpO] at h
  | .s _, .z, _, h, _ => by simp [cmpO] at h
  | .s _, .i _, _, h, _ => by simp [cmpO] at h
  | .s _, .s _, .z, _, h => by simp [cmpO] at h
  | .s _, .s _, .i _, _, h => by simp [cmpO] at h
  | .s a, .s b, .s d, h, h2 => by
    have h : cmpB (fun a b => decide (a < b)) a b = .lt := by simpa only [cmpO] using h
    have h2 : cmpB (fun a b => decide (a < b)) b d = .lt := by simpa only [cmpO] using h2
    have l1 : a < b := by
      unfold cmpB at h; split at h
      · rename_i q; simpa using q
      · split at h <;> cases h
    have l2 : b < d := by
      unfold cmpB at h2; split at h2
      · rename_i q; simpa using q
      · split at h2 <;> cases h2
    simp only [cmpO, cmpB]
    rw [if_pos (by simpa using List.lt_trans l1 l2)]
  | .s _, _, .t _, _, _ => by simp [cmpO]
  | .s _, .t _, .z, _, h => by simp [cmpO] at h
  | .s _, .t _, .i _, _, h => by simp [cmpO] at h
  | .s _, .t _, .s _, _, h => by simp [cmpO] at h
  | .t _, .z, _, h, _ => by simp [cmpO] at h
  | .t _, .i _, _, h, _ => by simp [cmpO] at h
  | .t _, .s _, _, h, _ => by simp [cmpO] at h
  | .t _, .t _, .z, _, h => by simp [cmpO] at h
  | .t _, .t _, .i _, _, h => by simp [cmpO] at h
  | .t _, .t _, .s _, _, h => by simp [cmpO] at h
  | .t a, .t b, .t d, h, h2 => by simp only [cmpO] at h h2 ⊢; exact cmpOL_trans a b d h h2
theorem cmpOL_trans : ∀ x y z : List O, cmpOL x y = .lt → cmpOL y z = .lt → cmpOL x z = .lt
  | [], [], _, h, _ => by simp [cmpOL] at h
  | [], _ :: _, [], _, h => by simp [cmpOL] at h
  | [], _ :: _, _ :: _, _, _ => by simp [cmpOL]
  | _ :: _, [], _, h, _ => by simp [cmpOL] at h
  | _ :: _, _ :: _, [], _, h => by simp [cmpOL] at h
  | x :: xs, y :: ys, z :: zs, h, h2 => by
    simp only [cmpOL] at h h2 ⊢
    cases a : cmpO x y with
    | lt =>
      cases b : cmpO y z with
      | lt => rw [cmpO_trans x y z a b]
      | gt => rw [b] at h2; cases h2
      | eq => rw [← cmpO_eq y z b, a]
    | gt => rw [a] at h; cases h
    | eq =>
      have e := cmpO_eq x y a
      subst e
      cases b : cmpO x z with
      | lt => rfl
      | gt => rw [b] at h2; cases h2
      | eq => rw [a] at h; rw [b] at h2; exact cmpOL_trans xs ys zs h h2
end
theorem ltO_iff {x y : O} : ltO x y = true ↔ cmpO x y = .lt := by simp [ltO]
theorem ltO_asym (x y : O) (h : ltO x y = true) : ltO y x = false := by
  have h := ltO_iff.mp h
  cases q : ltO y x with
  | false => rfl
  | true =>
    have q := ltO_iff.mp q
    rw [cmpO_swap x y, h] at q
    cases q
theorem ltO_trans (x y z : O) (h : ltO x y = true) (h2 : ltO y z = true) : ltO x z = true := ltO_iff.mpr (cmpO_trans x y z (ltO_iff.mp h) (ltO_iff.mp h2))
theorem ltO_tri (x y : O) (h : ltO x y = false) (h2 : ltO y x = false) : x = y := by
  apply cmpO_eq
  cases e : cmpO x y with
  | lt => rw [ltO_iff.mpr e] at h; cases h
  | gt =>
    have : cmpO y x = .lt := by rw [cmpO_swap x y, e]; rfl
    rw [ltO_iff.mpr this] at h2; cases h2
  | eq => rfl
theorem ltO_negtr (x y z : O) (h1 : ltO y x = false) (h2 : ltO z y = false) : ltO z x = false := by
  cases h : ltO z x with
  | false => rfl
  | true =>
    exfalso
    cases a : ltO x y with
    | true =>
      have := ltO_trans z x y h a
      rw [this] at h2; cases h2
    | false =>
      have e := ltO_tri x y a h1
      subst e
      rw [h] at h2; cases h2
mutual
def toO : D → O
  | .int n => .i n
  | .str x => .s x.cps.toList
  | .tup xs => .t (toOL xs)
  | _ => .z
def toOL : List D → List O
  | [] => []
  | d :: ds => toO d :: toOL ds
end
/-! data that is ordered so -/
mutual
def okO : D → Bool
  | .int _ => true
  | .str _ => true
  | .tup xs => okOL xs
  | _ => false
def okOL : List D → Bool
  | [] => true
  | d :: ds => okO d && okOL ds
end
mutual
theorem toO_inj : ∀ x y : D, okO x = true → okO y = true → toO x = toO y → x = y
  | .int _, .int _, _, _, h => by simp [toO] at h; rw [h]
  | .int _, .str _, _, _, h => by simp [toO] at h
  | .int _, .tup _, _, _, h => by simp [toO] at h
  | .str _, .int _, _, _, h => by simp [toO] at h
  | .str ⟨⟨x⟩⟩, .str ⟨⟨y⟩⟩, _, _, h => by simp [toO] at h; rw [h]
  | .str _, .tup _, _, _, h => by simp [toO] at h
  | .tup _, .int _, _, _, h => by simp [toO] at h
  | .tup _, .str _, _, _, h => by simp [toO] at h
  | .tup xs, .tup ys, h1, h2, h => by
    simp only [toO, O.t.injEq] at h
    rw [toOL_inj xs ys (by simpa [okO] using h1) (by simpa [okO] using h2) h]
  | .non, _, h, _, _ => by simp [okO] at h
  | .bl _, _, h, _, _ => by simp [okO] at h
  | .lst _, _, h, _, _ => by simp [okO] at h
  | .dict _, _, h, _, _ => by simp [okO] at h
  | .set _, _, h, _, _ => by simp [okO] at h
  | .ins _ _, _, h, _, _ => by simp [okO] at h
  | .ty _, _, h, _, _ => by simp [okO] at h
  | .glo _, _, h, _, _ => by simp [okO] at h
  | .nd _, _, h, _, _ => by simp [okO] at h
  | .exc _ _, _, h, _, _ => by simp [okO] at h
  | .mut _, _, h, _, _ => by simp [okO] at h
  | .int _, .non, _, h, _ => by simp [okO] at h
  | .int _, .bl _, _, h, _ => by simp [okO] at h
  | .int _, .lst _, _, h, _ => by simp [okO] at h
  | .int _, .dict _, _, h, _ => by simp [okO] at h
  | .int _, .set _, _, h, _ => by simp [okO] at h
  | .int _, .ins _ _, _, h, _ => by simp [okO] at h
  | .int _, .ty _, _, h, _ => by simp [okO] at h
  | .int _, .glo _, _, h, _ => by simp [okO] at h
  | .int _, .nd _, _, h, _ => by simp [okO] at h
  | .int _, .exc _ _, _, h, _ => by simp [okO] at h
  | .int _, .mut _, _, h, _ => by simp [okO] at h
  | .str _, .non, _, h, _ => by simp [okO] at h
  | .str _, .bl _, _, h, _ => by simp [okO] at h
  | .str _, .lst _, _, h, _ => by simp [okO] at h
  | .str _, .dict _, _, h, _ => by simp [okO] at h
  | .str _, .set _, _, h, _ => by simp [okO] at h
  | .str _, .ins _ _, _, h, _ => by simp [okO] at h
  | .str _, .ty _, _, h, _ => by simp [okO] at h
  | .str _, .glo _, _, h, _ => by simp [okO] at h
  | .str _, .nd _, _, h, _ => by simp [okO] at h
  | .str _, .exc _ _, _, h, _ => by simp [okO] at h
  | .str _, .mut _, _, h, _ => by simp [okO] at h
  | .tup _, .non, _, h, _ => by simp [okO] at h
  | .tup _, .bl _, _, h, _ => by simp [okO] at h
  | .tup _, .lst _, _, h, _ => by simp [okO] at h
  | .tup _, .dict _, _, h, _ => by simp [okO] at h
  | .tup _, .set _, _, h, _ => by simp [okO] at h
  | .tup _, .ins _ _, _, h, _ => by simp [okO] at h
  | .tup _, .ty _, _, h, _ => by simp [okO] at h
  | .tup _, .glo _, _, h, _ => by simp [okO] at h
  | .tup _, .nd _, _, h, _ => by simp [okO] at h
  | .tup _, .exc _ _, _, h, _ => by simp [okO] at h
  | .tup _, .mut _, _, h, _ => by simp [okO] at h
theorem toOL_inj : ∀ x y : List D, okOL x = true → okOL y = true → toOL x = toOL y → x = y
  | [], [], _, _, _ => rfl
  | [], _ :: _, _, _, h => by simp [toOL] at h
  | _ :: _, [], _, _, h => by simp [toOL] at h
  | x :: xs, y :: ys, h1, h2, h => by
    simp only [okOL, Bool.and_eq_true] at h1 h2
    simp only [toOL, List.cons.injEq] at h
    rw [toO_inj x y h1.1 h2.1 h.1, toOL_inj xs ys h1.2 h2.2 h.2]
end
def ltT (x y : D) : Bool := ltO (toO x) (toO y)
theorem ltT_tri {x y : D} (h1 : okO x = true) (h2 : okO y = true) (a : ltT x y = false) (b : ltT y x = false) : x = y := toO_inj x y h1 h2 (ltO_tri _ _ a b)
/-! ### == of such data -/
end DL
namespace DL
open PySem PySem.Spec PyProof.Rows L2
variable [TheW]
/-! ### x < y of such data -/
mutual
def cmpOk : D → D → Bool
  | .int _, .int _ => true
  | .str _, .str _ => true
  | .tup xs, .tup ys => cmpOkL xs ys
  | _, _ => false
def cmpOkL : List D → List D → Bool
  | x :: xs, y :: ys => (eqD x y || cmpOk x y) && cmpOkL xs ys
  | _, _ => true
end
theorem ltT_str {x y : Str} : ltT (.str x) (.str y) = decide (x.cps.toList < y.cps.toList) := by
  simp only [ltT, ltO, toO, cmpO, cmpB, decide_eq_true_eq]
  split
  · rename_i h; simp [h]
  · rename_i h
    split <;> simp [h]
section
variable {X : Cx} {pins : List (Addr × Obj)} {σ : L2.St} {G H : Hp} {s : Shared}
end
end DL
namespace DL
open PySem PySem.Spec PyProof.Rows L2
variable [TheW]
/-! ### sorted -/
def flatO : D → Bool
  | .int _ => true
  | .str _ => true
  | _ => false
def sameHead : List D → List D → Bool
  | .int _ :: _, .int _ :: _ => true
  | .str _ :: _, .str _ :: _ => true
  | _, _ => false
section
variable {X : Cx} {pins : List (Addr × Obj)} {σ : L2.St} {G H : Hp} {s : Shared} {prog : Program} {w : World} {A : Around} {b : Bool} {Q : Bool → Shared → Prop}
end
/-! ### the kinds of lists that are sorted -/
def allStr (ds : List D) : Bool := ds.all fun d => match d with
  | .str _ => true
  | _ => false
def allInt (ds : List D) : Bool := ds.all fun d => match d with
  | .int _ => true
  | _ => false
/-- tuples that begin with texts; with ints; with tuples -/
def allTup (t : Nat) (ds : List D) : Bool := ds.all fun d => match d with
  | .tup (.str _ :: _) => t == 0
  | .tup (.int _ :: _) => t == 1
  | .tup (.tup _ :: _) => t == 2
  | _ => false
def allCmp (ds : List D) : Bool := ds.all fun x => okO x && decide (dep x ≤ 60) && ds.all fun y => cmpOk x y
def sortOk (ds : List D) : Bool := allStr ds || allInt ds || ((allTup 0 ds || allTup 1 ds || allTup 2 ds) && allCmp ds)
def sortL (ds : List D) : List D := ds.mergeSort fun a b => !ltT b a
/-- sorted(xs) -/
def sortedD : List D → Res D
  | [.lst ds] => if sortOk ds = true then .ok (.lst (sortL ds)) else .stuck
  | _ => .stuck
open Classical in
/-- the data that a value of the list is -/
noncomputable def keyV (K : PySem.W.Frag) (G : Hp) (ds : List D) (u : Value) : D := if h : ∃ d, d ∈ ds ∧ ∃ w, RelV w u ∧ Rep K G d w then Classical.choose h else .non
section
variable {X : Cx} {pins : List (Addr × Obj)} {σ : L2.St} {G H : Hp} {s : Shared}
end
end DL
namespace DL
open PySem PySem.Spec PyProof.Rows L2
variable [TheW]
section
variable {X : Cx} {pins : List (Addr × Obj)} {σ : L2.St} {G H : Hp} {s : Shared} {prog : Program} {w : World} {A : Around}
end
end DL
namespace DL
open PySem PySem.Spec PyProof.Rows L2
variable [TheW]
theorem sortL_perm (ds : List D) : (sortL ds).Perm ds := List.mergeSort_perm ds _
theorem sortL_sorted (ds : List D) : (sortL ds).Pairwise fun a b => ltT b a = false := by
  have h := List.pairwise_mergeSort (le := fun a b => !ltT b a) (fun a b c h1 h2 => by
    simp only [Bool.not_eq_true'] at h1 h2 ⊢
    exact ltO_negtr _ _ _ h1 h2) (fun a b => by
    cases h : ltT b a with
    | false => simp
    | true => have : ltT a b = false := ltO_asym _ _ h; simp [this]) ds
  exact h.imp fun h => by simpa using h
section
variable {X : Cx} {pins : List (Addr × Obj)} {σ : L2.St} {G H : Hp} {s : Shared}
def rSortD (X : Cx) : List V → Hp → VK → Prop := fun xs H Q => ∃ (G : Hp) (a : Addr) (ds : List D) (vs : List V), xs = [.ref a] ∧ Same G H ∧ SqL X.K H a vs ∧ RepL X.K G ds vs ∧ sortOk ds = true ∧ ∀ ws p, RepL X.K G (sortL ds) ws → H p = none → Q (.ref p) (upd H p (.lst ws))
section
variable {c : Ct} {W : WX} {e : Expr} {es : List Expr} {fs : P (List D)} {pos p : Pos}
end
end
end DL
namespace DL
open PySem PySem.Spec PyProof.Rows L2
variable [TheW]
/-! ### sorted of a tuple -/
section
variable {prog : Program} {w : World} {A : Around} {E : Value → Shared → Prop} {s : Shared}
end
section
variable {X : Cx}
def rSortTD (X : Cx) : List V → Hp → VK → Prop := fun xs H Q => ∃ (G : Hp) (a : Addr) (ds : List D) (vs : List V), xs = [.ref a] ∧ Same G H ∧ SqT X.K H a vs ∧ RepL X.K G ds vs ∧ sortOk ds = true ∧ ∀ ws p, RepL X.K G (sortL ds) ws → H p = none → Q (.ref p) (upd H p (.lst ws))
def sortedA : List D → Res D
  | [.lst ds] => if sortOk ds = true then .ok (.lst (sortL ds)) else .stuck
  | [.tup ds] => if sortOk ds = true then .ok (.lst (sortL ds)) else .stuck
  | _ => .stuck
variable {c : Ct} {W : WX} {e : Expr} {es : List Expr} {fs : P (List D)} {pos p : Pos}
end
end DL
namespace DL
open PySem PySem.Spec PyProof.Rows L2
variable [TheW]
/-! ### max, min -/
def maxI : List Int → Option Int
  | [] => none
  | x :: xs => some (xs.foldl max x)
def minI : List Int → Option Int
  | [] => none
  | x :: xs => some (xs.foldl min x)
def maxD : List D → Res D
  | [.lst ds] => (match (intsOf ds).bind maxI with
    | some m => .ok (.int m)
    | none => .stuck)
  | _ => .stuck
def minD : List D → Res D
  | [.lst ds] => (match (intsOf ds).bind minI with
    | some m => .ok (.int m)
    | none => .stuck)
  | _ => .stuck
def max2D : List D → Res D
  | [.int i, .int j] => .ok (.int (if j > i then j else i))
  | _ => .stuck
section
variable {K : PySem.W.Frag}
end
/-! ### d.get(k, x) -/
def getD2 (kvs : List (D × D)) (k x : D) : Res D := match keyOf k with
  | some j => .ok ((lookD kvs j).getD x)
  | none => .stuck
def pGet2 (f g h : P D) : P D := fun ρ => (f ρ).bind fun d => match d with
  | .dict kvs => (g ρ).bind fun k => (h ρ).bind fun x => getD2 kvs k x
  | _ => .stuck
section
variable {c : Ct} {W : WX} {X : Cx} {o e e2 : Expr} {f g h : P D} {apos cpos : Pos}
end
end DL
namespace DL
open PySem PySem.Spec PyProof.Rows L2
variable [TheW]
/-! ### a, b, c = x, y, z -/
def sPar3 (n i j l : Nat) (f g h : P D) : S := fun ρ => match f ρ, g ρ, h ρ with
  | .ok d, .ok e, .ok k => if (i < ρ.length ∧ j < ρ.length ∧ l < ρ.length) ∧ (n ≤ i ∨ isMut d = false) ∧ (n ≤ j ∨ isMut e = false) ∧ (n ≤ l ∨ isMut k = false) then .nx (((ρ.set i (some d)).set j (some e)).set l (some k)) else .stuck
  | _, _, _ => .stuck
section
variable {c : Ct} {W : WX} {X : Cx} {pos : Pos} {K : PySem.W.Frag} {σ : L2.St} {G H : Hp}
end
/-! ### dict(list of pairs) -/
def pairsD : List D → Option (List (D × D))
  | [] => some []
  | .tup [k, v] :: ds => match keyOf k with
    | some _ => (pairsD ds).map ((k, v) :: ·)
    | none => none
  | _ :: _ => none
def mergeD (kvs : List (D × D)) : List (D × D) := kvs.foldl (fun acc p => putKD acc p.1 p.2) []
def dictD : List D → Res D
  | [.lst ds] => (match pairsD ds with
    | some kvs => .ok (.dict (mergeD kvs))
    | none => .stuck)
  | _ => .stuck
section
variable {K : PySem.W.Frag} {G H : Hp}
theorem own_fold {kvs : List (D × D)} : ∀ {kv : List (Key × V)} {acc : List (D × D)} {av : List (Key × V)}, RepK K G kvs kv → OwnK K G H acc av [] → OwnK K G H (kvs.foldl (fun acc p => putKD acc p.1 p.2) acc) (mergeK av kv) [] := by
  induction kvs with
  | nil => intro kv acc av h o; have h : kv = [] := h; subst h; exact o
  | cons p kvs ih =>
    intro kv acc av h o
    obtain ⟨k, d⟩ := p
    obtain ⟨j, v, r, rfl, h1, h2, h3⟩ := h
    obtain ⟨f', o', hf⟩ := OwnK.put h1 h2 o
    have e : f' = [] := by
      cases f' with
      | nil => rfl
      | cons a l => exact absurd (hf a List.mem_cons_self) (by simp)
    subst e
    show OwnK K G H (kvs.foldl _ (putKD acc k d)) (mergeK (putK av j v) r) []
    exact ih h3 o'
end
section
variable {c : Ct} {W : WX} {X : Cx} {e : Expr} {es : List Expr} {fs : P (List D)} {pos p : Pos}
end
/-! ### sep.join(texts) -/
def strsOf : List D → Option (List Str)
  | [] => some []
  | .str x :: ds => (strsOf ds).map (x :: ·)
  | _ :: _ => none
def joinD (x : Str) (b : D) : Res D := match b with
  | .lst ds => (match strsOf ds with
    | some ys => if (ys.map (·.length)).sum + ys.length * x.length ≤ 16777216 then .ok (.str (Txt.join x ys)) else .stuck
    | none => .stuck)
  | _ => .stuck
def pJoin (f g : P D) : P D := fun ρ => (f ρ).bind fun d => match d with
  | .str z => (g ρ).bind fun y => joinD z y
  | _ => .stuck
def mJoin (z : Str) (g : M D) : M D := fun ρ => (g ρ).bind fun y ρ1 => (joinD z y).out ρ1
section
variable {c : Ct} {W : WX} {X : Cx} {o e : Expr} {f g : P D} {fm gm : M D} {pos apos : Pos}
end
end DL
namespace DL
open PySem PySem.Spec PyProof.Rows L2
variable [TheW]
/-! ### built-ins that give a new object, their arguments by expressions that change owned ones -/
def mCallO (h : List D → Res D) (f : M (List D)) : M D := fun ρ => (f ρ).bind fun ds ρ1 => ((h ds).bind fun d => .ok (.mut d)).out ρ1
section
variable {c : Ct} {W : WX} {X : Cx} {e : Expr} {es : List Expr} {fs : M (List D)} {pos p : Pos} {x : Str} {K : PySem.W.Frag} {σ : L2.St} {G H : Hp}
end
end DL
namespace DL
open PySem PySem.Spec PyProof.Rows L2
variable [TheW]
/-! ### e[lo:hi], e by an expression that changes owned objects -/
def mSlice (f : M D) (l u : P (Option Int)) : M D := fun ρ => (f ρ).bind fun x ρ1 => ((l ρ1).bind fun lo => (u ρ1).bind fun hi => sliceD x lo hi).out ρ1
section
variable {c : Ct} {W : WX} {X : Cx} {e : Expr} {f : M D} {pos p2 : Pos}
end
/-! ### unary minus -/
def negD : D → Res D
  | .int i => .ok (.int (-i))
  | _ => .stuck
section
variable {c : Ct} {W : WX} {X : Cx} {e : Expr} {f : P D} {pos : Pos}
theorem dp_neg (he : DP c W X e f) : DP c W X (.UnaryOp .USub e pos) (pUn negD f) :=
  PE.imp (pe_un un_neg he) fun σ H Q ⟨G, ρ, A, p⟩ => ⟨G, ρ, A, (PostP.bind p).imp fun x H1 ⟨dx, G1, g1, r1, p1⟩ => by
    cases dx with
    | int i =>
      cases r1
      exact ⟨i, rfl, p1 _ G1 H1 (.refl g1.s) rfl⟩
    | _ => exact p1.elim⟩
end
end DL
namespace DL
open PySem PySem.Spec PyProof.Rows L2
variable [TheW]
/-! ### sources by expressions that change owned objects; range(lo, hi) -/
def mRange1 (fs : M (List D)) : M (List D) := fun ρ => (fs ρ).bind fun ds ρ1 => (rangeD1 ds).out ρ1
def mIter (f : M D) : M (List D) := fun ρ => (f ρ).bind fun d ρ1 => (iterD d).out ρ1
section
variable {c : Ct} {W : WX} {X : Cx} {tg a b e : Expr} {es : List Expr} {fs : M (List D)} {gs : P (List D)} {f : M D} {pos p : Pos}
end
end DL
namespace DL
open PySem PySem.Spec PyProof.Rows L2
variable [TheW]
/-! ### xs.index(x), ints -/
def idxD (d x : D) : Res D := match d, x with
  | .lst ds, .int y => (match (intsOf ds).bind fun ns => ns.findIdx? (· == y) with
    | some j => .ok (.int (j : Nat))
    | none => .stuck)
  | _, _ => .stuck
def pIdx (f g : P D) : P D := fun ρ => (f ρ).bind fun d => match d with
  | .lst ds => (g ρ).bind fun x => idxD (.lst ds) x
  | _ => .stuck
section
variable {c : Ct} {W : WX} {X : Cx} {o e : Expr} {f g : P D} {apos cpos : Pos}
end
end DL
namespace DL
open PySem PySem.Spec PyProof.Rows L2 HT
variable [TheW]
/-! ### t[::k], k = 1 or -1 -/
section
variable {prog : Program} {w : World} {A : Around} {E : Value → Shared → Prop} {s : Shared}
end
def stepD : D → D → Res D
  | .tup ds, .int 1 => .ok (.tup ds)
  | .tup ds, .int (-1) => .ok (.tup ds.reverse)
  | _, _ => .stuck
def mStep (f g : M D) : M D := fun ρ => (f ρ).bind fun x ρ1 => match x with
  | .tup ds => (g ρ1).bind fun k ρ2 => match k with
    | .int 1 => .ok (.tup ds) ρ2
    | .int (-1) => .ok (.tup ds.reverse) ρ2
    | _ => .stuck
  | _ => .stuck
def tStep (K : PySem.W.Frag) (te tk : TE) : TE := fun σ H Q => te σ H fun x H1 => ∃ a xs, x = .ref a ∧ SqT K H1 a xs ∧ tk σ H1 fun y H2 => SqT K H2 a xs ∧ ((y = .int 1 ∧ Q (.ref a) H2) ∨ (y = .int (-1) ∧ ∀ p, H2 p = none → Q (.ref p) (upd H2 p (.tup xs.reverse))))
section
variable {c : Ct} {W : WX} {X : Cx} {e k : Expr} {te tk : TE} {f g : M D} {p3 pos : Pos}
end
end DL
namespace DL
open PySem PySem.Spec PyProof.Rows L2
variable [TheW]
/-! ### enumerate of a shared list -/
def enumF : Nat → List D → List D
  | _, [] => []
  | i, d :: ds => .tup [.int (i : Nat), d] :: enumF (i + 1) ds
def enumD : List D → Res (List D)
  | [.lst ds] => .ok (enumF 0 ds)
  | _ => .stuck
def pEnum (fs : P (List D)) : P (List D) := fun ρ => (fs ρ).bind enumD
section
variable {c : Ct} {W : WX} {X : Cx} {e : Expr} {fs : P (List D)} {pos p tpos : Pos} {elts : List Expr} {kk : Nat}
end
end DL
namespace DL
open PySem PySem.Spec PyProof.Rows L2
variable [TheW]
/-! ### owned objects are sealed: from then on they are shared data, dicts are locked for good -/
inductive Seal (Q : Hp → Prop) : Hp → Prop where
  | done {H : Hp} (h : Q H) : Seal Q H
  | step {H : Hp} {d : Addr} {u : HO} (h : H d = some u) (mu : Mut (some u)) (k : ∀ o, Seal Q (upd H d (.frz o u))) : Seal Q H
theorem Seal.bind {Q Q' : Hp → Prop} {H : Hp} (h : Seal Q H) (i : ∀ H, Q H → Seal Q' H) : Seal Q' H := by
  induction h with
  | done h => exact i _ h
  | step h mu _ ih => exact .step h mu ih
section
variable {X : Cx} {pins : List (Addr × Obj)} {σ : L2.St} {H : Hp} {s : Shared}
theorem Seal.run {Q : Hp → Prop} (h : Seal Q H) (I : Inv X pins σ H s) : ∃ H', Inv X pins σ H' s ∧ Q H' := by
  induction h with
  | done h => exact ⟨_, I, h⟩
  | step h mu _ ih =>
    obtain ⟨o, I1⟩ := I.lock h mu
    exact ih o I1
end
section
variable {X : Cx}
theorem PE.seal {e : Expr} {t : TE} (h : PE X e t) : PE X e (fun σ H Q => t σ H fun v => Seal (Q v)) := ⟨fun pins s σ H Q I q => thn (h.run pins s σ H _ I q) fun u s1 ⟨v, H1, I1, r, q1⟩ => by
  obtain ⟨H2, I2, q2⟩ := q1.run I1
  exact ⟨v, H2, I2, r, q2⟩⟩
end
mutual
def thaw : D → D
  | .mut d => thawO d
  | .non => .non
  | .bl b => .bl b
  | .int i => .int i
  | .str x => .str x
  | .ty n => .ty n
  | .glo x => .glo x
  | .nd x => .nd x
  | .exc C fs => .exc C fs
  | .tup xs => .tup xs
  | .lst xs => .lst xs
  | .dict xs => .dict xs
  | .set xs => .set xs
  | .ins C fs => .ins C fs
def thawO : D → D
  | .lst ds => .lst (thawL ds)
  | .dict kvs => .dict (thawK kvs)
  | .ins C fs => .ins C (thawF fs)
  | .mut _ => .non
  | .non => .non
  | .bl b => .bl b
  | .int i => .int i
  | .str x => .str x
  | .ty n => .ty n
  | .glo x => .glo x
  | .nd x => .nd x
  | .exc C fs => .exc C fs
  | .tup xs => .tup (thawL xs)
  | .set xs => .set xs
def thawL : List D → List D
  | [] => []
  | d :: ds => thaw d :: thawL ds
def thawK : List (D × D) → List (D × D)
  | [] => []
  | (k, d) :: ds => (k, thaw d) :: thawK ds
def thawF : List (Str × D) → List (Str × D)
  | [] => []
  | (k, d) :: ds => (k, thaw d) :: thawF ds
end
/-- what is behind the sealing of fp's objects -/
structure SealTo (G H : Hp) (fp : List Addr) (G' H' : Hp) : Prop where
  g : Same G G'
  s : Same G' H'
  out : ∀ a, a ∉ fp → H' a = H a
  inn : ∀ a ∈ fp, H' a ≠ none
  n : ∀ a, G' a ≠ none → G a ≠ none ∨ a ∈ fp
  nt : NTG G → NTG G'
theorem SealTo.refl {G H : Hp} (s : Same G H) : SealTo G H [] G H := ⟨.refl _, s, fun _ _ => rfl, fun a h => (by cases h), fun a h => .inl h, id⟩
theorem SealTo.trans {G H G1 H1 G2 H2 : Hp} {f g : List Addr} (a : SealTo G H f G1 H1) (b : SealTo G1 H1 g G2 H2) : SealTo G H (f ++ g) G2 H2 := by
  refine ⟨a.g.trans b.g, b.s, fun x hx => ?_, fun x hx => ?_, fun x hx => ?_, fun t => b.nt (a.nt t)⟩
  · have h1 : x ∉ f := fun z => hx (List.mem_append_left _ z)
    have h2 : x ∉ g := fun z => hx (List.mem_append_right _ z)
    rw [b.out x h2, a.out x h1]
  · by_cases h2 : x ∈ g
    · exact b.inn x h2
    · rw [b.out x h2]
      exact a.inn x ((List.mem_append.mp hx).resolve_right h2)
  · rcases b.n x hx with z | z
    · rcases a.n x z with y | y
      · exact .inl y
      · exact .inr (List.mem_append_left _ y)
    · exact .inr (List.mem_append_right _ z)
section
variable {K : PySem.W.Frag}
def Sealed (G H : Hp) (fp : List Addr) (P : Hp → Prop) : Prop := ∀ Q : Hp → Prop, (∀ G' H', SealTo G H fp G' H' → P G' → Q H') → Seal Q H
/-- the last step of a list or an instance: nothing is locked -/
theorem sealed_share {G H G1 H1 : Hp} {f : List Addr} {a : Addr} {o : HO} (t : SealTo G H f G1 H1) (ha : a ∉ f) (hG : G a = none) (h1 : H1 a = some o) (nto : NT o = true := by first | rfl | assumption) : SealTo G H (a :: f) (upd G1 a o) H1 := by
  have g1 : G1 a = none := by
    cases q : G1 a with
    | none => rfl
    | some x => exact absurd (t.n a (ne_none_of q)) (by rintro (z | z); exact z hG; exact ha z)
  obtain ⟨e1, e2⟩ := upd_share t.s g1 h1
  refine ⟨t.g.trans e1, e2, fun x hx => ?_, fun x hx => ?_, fun x hx => ?_, fun z => (t.nt z).upd nto⟩
  · exact t.out x fun z => hx (List.mem_cons_of_mem _ z)
  · rcases List.mem_cons.mp hx with rfl | hx
    · exact ne_none_of h1
    · exact t.inn x hx
  · by_cases e : x = a
    · exact .inr (e ▸ List.mem_cons_self)
    · rw [upd_ne e] at hx
      exact (t.n x hx).imp_right (List.mem_cons_of_mem _)
/-- .. of a dict: it is locked -/
theorem sealed_lock {G H G1 H1 : Hp} {f : List Addr} {a : Addr} {o : HO} (t : SealTo G H f G1 H1) (ha : a ∉ f) (hG : G a = none) (nto : NT o = true := by first | rfl | assumption) : SealTo G H (a :: f) (upd G1 a o) (upd H1 a o) := by
  have g1 : G1 a = none := by
    cases q : G1 a with
    | none => rfl
    | some x => exact absurd (t.n a (ne_none_of q)) (by rintro (z | z); exact z hG; exact ha z)
  refine ⟨t.g.trans fun b u e => by rw [upd_ne (ne_of_none e g1)]; exact e, fun b u e => ?_, fun x hx => ?_, fun x hx => ?_, fun x hx => ?_, fun z => (t.nt z).upd nto⟩
  · by_cases hb : b = a
    · subst hb; rw [upd_same] at e ⊢; exact e
    · rw [upd_ne hb] at e ⊢; exact t.s _ _ e
  · rw [upd_ne fun z => hx (by rw [z]; exact List.mem_cons_self)]
    exact t.out x fun z => hx (List.mem_cons_of_mem _ z)
  · by_cases e : x = a
    · subst e; rw [upd_same]; simp
    · rw [upd_ne e]
      exact t.inn x ((List.mem_cons.mp hx).resolve_left e)
  · by_cases e : x = a
    · exact .inr (e ▸ List.mem_cons_self)
    · rw [upd_ne e] at hx
      exact (t.n x hx).imp_right (List.mem_cons_of_mem _)
mutual
theorem sealV : ∀ (d : D) {G H : Hp} {v : V} {fp : List Addr}, Same G H → (∀ a ∈ fp, G a = none) → OwnV K G H d v fp → Sealed G H fp fun G' => Rep K G' (thaw d) v
  | .mut d, _, _, _, _, s, n, h => sealO d s n h
  | .non, _, _, _, _, s, _, ⟨h, e⟩ => fun Q k => by subst e; exact .done (k _ _ (.refl s) h)
  | .bl b, _, _, _, _, s, _, ⟨h, e⟩ => fun Q k => by subst e; exact .done (k _ _ (.refl s) h)
  | .int i, _, _, _, _, s, _, ⟨h, e⟩ => fun Q k => by subst e; exact .done (k _ _ (.refl s) h)
  | .str x, _, _, _, _, s, _, ⟨h, e⟩ => fun Q k => by subst e; exact .done (k _ _ (.refl s) h)
  | .ty x, _, _, _, _, s, _, ⟨h, e⟩ => fun Q k => by subst e; exact .done (k _ _ (.refl s) h)
  | .glo x, _, _, _, _, s, _, ⟨h, e⟩ => fun Q k => by subst e; exact .done (k _ _ (.refl s) h)
  | .nd x, _, _, _, _, s, _, ⟨h, e⟩ => fun Q k => by subst e; exact .done (k _ _ (.refl s) h)
  | .exc C fs, _, _, _, _, s, _, ⟨h, e⟩ => fun Q k => by subst e; exact .done (k _ _ (.refl s) h)
  | .tup x, _, _, _, _, s, _, ⟨h, e⟩ => fun Q k => by subst e; exact .done (k _ _ (.refl s) h)
  | .lst x, _, _, _, _, s, _, ⟨h, e⟩ => fun Q k => by subst e; exact .done (k _ _ (.refl s) h)
  | .dict x, _, _, _, _, s, _, ⟨h, e⟩ => fun Q k => by subst e; exact .done (k _ _ (.refl s) h)
  | .set x, _, _, _, _, s, _, ⟨h, e⟩ => fun Q k => by subst e; exact .done (k _ _ (.refl s) h)
  | .ins C x, _, _, _, _, s, _, ⟨h, e⟩ => fun Q k => by subst e; exact .done (k _ _ (.refl s) h)
theorem sealO : ∀ (d : D) {G H : Hp} {v : V} {fp : List Addr}, Same G H → (∀ a ∈ fp, G a = none) → OwnO K G H d v fp → Sealed G H fp fun G' => Rep K G' (thawO d) v
  | .lst ds, _, _, _, _, s, n, ⟨a, vs, f, h1, h2, h3, h4, h5⟩ => fun Q k => by
    subst h4
    refine sealL ds s (fun b hb => n b (List.mem_cons_of_mem _ hb)) h3 _ fun G1 H1 t r => k _ _ (sealed_share t h5 (n a List.mem_cons_self) ((t.out a h5).trans h2)) ?_
    exact ⟨a, vs, h1, upd_same, RepL.mono (sealed_share t h5 (n a List.mem_cons_self) ((t.out a h5).trans h2) |> fun z => by
      intro b u e
      have : G1 a = none := by
        cases q : G1 a with
        | none => rfl
        | some x => exact absurd (t.n a (ne_none_of q)) (by rintro (z | z); exact z (n a List.mem_cons_self); exact h5 z)
      rw [upd_ne (ne_of_none e this)]; exact e) _ r⟩
  | .dict kvs, G, H, _, _, s, n, ⟨a, kv, f, h1, h2, h3, h4, h5⟩ => fun Q k => by
    subst h4
    refine Seal.bind (sealK kvs s (fun b hb => n b (List.mem_cons_of_mem _ hb)) h3 (fun H1 => ∃ G1, SealTo G H f G1 H1 ∧ RepK K G1 (thawK kvs) kv) fun G1 H1 t r => ⟨G1, t, r⟩) fun H1 ⟨G1, t, r⟩ => ?_
    refine .step ((t.out a h5).trans h2) True.intro fun o => .done (k _ _ (sealed_lock t h5 (n a List.mem_cons_self)) ⟨a, o, kv, h1, upd_same, RepK.mono (fun b u e => ?_) _ r⟩)
    have : G1 a = none := by
      cases q : G1 a with
      | none => rfl
      | some x => exact absurd (t.n a (ne_none_of q)) (by rintro (z | z); exact z (n a List.mem_cons_self); exact h5 z)
    rw [upd_ne (ne_of_none e this)]; exact e
  | .ins C fs, _, _, _, _, s, n, ⟨a, dx, fv, f, h1, h2, h3, h4, h5⟩ => fun Q k => by
    subst h4
    refine sealF fs s (fun b hb => n b (List.mem_cons_of_mem _ hb)) h3 _ fun G1 H1 t r => k _ _ (sealed_share t h5 (n a List.mem_cons_self) ((t.out a h5).trans h2)) ?_
    refine ⟨a, dx, fv, h1, upd_same, RepF.mono (fun b u e => ?_) _ r⟩
    have : G1 a = none := by
      cases q : G1 a with
      | none => rfl
      | some x => exact absurd (t.n a (ne_none_of q)) (by rintro (z | z); exact z (n a List.mem_cons_self); exact h5 z)
    rw [upd_ne (ne_of_none e this)]; exact e
  | .mut d, _, _, _, _, _, _, h => by exact h.elim
  | .non, _, _, _, _, _, _, h => by exact h.elim
  | .bl b, _, _, _, _, _, _, h => by exact h.elim
  | .int i, _, _, _, _, _, _, h => by exact h.elim
  | .str x, _, _, _, _, _, _, h => by exact h.elim
  | .ty n, _, _, _, _, _, _, h => by exact h.elim
  | .glo x, _, _, _, _, _, _, h => by exact h.elim
  | .exc C fs, _, _, _, _, _, _, h => by exact h.elim
  | .nd kvs, _, _, _, _, s, n, ⟨a, xs, h1, h2, h3, h4⟩ => fun Q k => by
    subst h4
    have t := sealed_share (f := []) (SealTo.refl s) (by simp) (n a List.mem_cons_self) h2
    exact .done (k _ _ t ⟨a, xs, h1, upd_same, RepN.mono t.g kvs h3⟩)
  | .tup ds, _, _, _, _, s, n, ⟨a, vs, f, h1, h2, h3, h4, h5⟩ => fun Q k => by
    subst h4
    refine sealL ds s (fun b hb => n b (List.mem_cons_of_mem _ hb)) h3 _ fun G1 H1 t r => k _ _ (sealed_share t h5 (n a List.mem_cons_self) ((t.out a h5).trans h2)) ?_
    exact ⟨a, vs, h1, SqT.of upd_same, RepL.mono (sealed_share t h5 (n a List.mem_cons_self) ((t.out a h5).trans h2) |> fun z => by
      intro b u e
      have : G1 a = none := by
        cases q : G1 a with
        | none => rfl
        | some x => exact absurd (t.n a (ne_none_of q)) (by rintro (z | z); exact z (n a List.mem_cons_self); exact h5 z)
      rw [upd_ne (ne_of_none e this)]; exact e) _ r⟩
  | .set xs, _, _, _, _, _, _, h => by exact h.elim
theorem sealL : ∀ (ds : List D) {G H : Hp} {vs : List V} {fp : List Addr}, Same G H → (∀ a ∈ fp, G a = none) → OwnL K G H ds vs fp → Sealed G H fp fun G' => RepL K G' (thawL ds) vs
  | [], _, _, _, _, s, _, ⟨h, e⟩ => fun Q k => by subst e; exact .done (k _ _ (.refl s) h)
  | d :: ds, G, H, _, _, s, n, ⟨v, r, f, g, h1, h2, h3, h4, h5⟩ => fun Q k => by
    subst h4
    refine Seal.bind (sealV d s (fun a ha => n a (List.mem_append_left _ ha)) h2 (fun H1 => ∃ G1, SealTo G H f G1 H1 ∧ Rep K G1 (thaw d) v) fun G1 H1 t r => ⟨G1, t, r⟩) fun H1 ⟨G1, t, rv⟩ => ?_
    refine sealL ds t.s (fun a ha => ?_) (OwnL.mono t.g ds (fun a ha => t.out a fun z => h5 a z ha) h3) _ fun G2 H2 t2 r2 => k _ _ (t.trans t2) ⟨v, r, h1, Rep.mono t2.g _ rv, r2⟩
    cases q : G1 a with
    | none => rfl
    | some x => exact absurd (t.n a (ne_none_of q)) (by rintro (z | z); exact z (n a (List.mem_append_right _ ha)); exact h5 a z ha)
theorem sealK : ∀ (ds : List (D × D)) {G H : Hp} {vs : List (Key × V)} {fp : List Addr}, Same G H → (∀ a ∈ fp, G a = none) → OwnK K G H ds vs fp → Sealed G H fp fun G' => RepK K G' (thawK ds) vs
  | [], _, _, _, _, s, _, ⟨h, e⟩ => fun Q k => by subst e; exact .done (k _ _ (.refl s) h)
  | (x, d) :: ds, G, H, _, _, s, n, ⟨j, v, r, f, g, h1, h0, h2, h3, h4, h5⟩ => fun Q k => by
    subst h4
    refine Seal.bind (sealV d s (fun a ha => n a (List.mem_append_left _ ha)) h2 (fun H1 => ∃ G1, SealTo G H f G1 H1 ∧ Rep K G1 (thaw d) v) fun G1 H1 t r => ⟨G1, t, r⟩) fun H1 ⟨G1, t, rv⟩ => ?_
    refine sealK ds t.s (fun a ha => ?_) (OwnK.mono t.g ds (fun a ha => t.out a fun z => h5 a z ha) h3) _ fun G2 H2 t2 r2 => k _ _ (t.trans t2) ⟨j, v, r, h1, h0, Rep.mono t2.g _ rv, r2⟩
    cases q : G1 a with
    | none => rfl
    | some x => exact absurd (t.n a (ne_none_of q)) (by rintro (z | z); exact z (n a (List.mem_append_right _ ha)); exact h5 a z ha)
theorem sealF : ∀ (ds : List (Str × D)) {G H : Hp} {vs : List (Str × V)} {fp : List Addr}, Same G H → (∀ a ∈ fp, G a = none) → OwnF K G H ds vs fp → Sealed G H fp fun G' => RepF K G' (thawF ds) vs
  | [], _, _, _, _, s, _, ⟨h, e⟩ => fun Q k => by subst e; exact .done (k _ _ (.refl s) h)
  | (x, d) :: ds, G, H, _, _, s, n, ⟨v, r, f, g, h1, h2, h3, h4, h5⟩ => fun Q k => by
    subst h4
    refine Seal.bind (sealV d s (fun a ha => n a (List.mem_append_left _ ha)) h2 (fun H1 => ∃ G1, SealTo G H f G1 H1 ∧ Rep K G1 (thaw d) v) fun G1 H1 t r => ⟨G1, t, r⟩) fun H1 ⟨G1, t, rv⟩ => ?_
    refine sealF ds t.s (fun a ha => ?_) (OwnF.mono t.g ds (fun a ha => t.out a fun z => h5 a z ha) h3) _ fun G2 H2 t2 r2 => k _ _ (t.trans t2) ⟨v, r, h1, Rep.mono t2.g _ rv, r2⟩
    cases q : G1 a with
    | none => rfl
    | some x => exact absurd (t.n a (ne_none_of q)) (by rintro (z | z); exact z (n a (List.mem_append_right _ ha)); exact h5 a z ha)
end
end
end DL
namespace DL
open PySem PySem.Spec PyProof.Rows L2
variable [TheW]
theorem thaw_notMut : ∀ d : D, isMut (thaw d) = false
  | .mut d => by cases d <;> rfl
  | .non => rfl
  | .bl _ => rfl
  | .int _ => rfl
  | .str _ => rfl
  | .ty _ => rfl
  | .glo _ => rfl
  | .nd _ => rfl
  | .exc _ _ => rfl
  | .tup _ => rfl
  | .lst _ => rfl
  | .dict _ => rfl
  | .set _ => rfl
  | .ins _ _ => rfl
/-- a new value, used as a shared one -/
def pTh (f : P D) : P D := fun ρ => (f ρ).bind fun d => .ok (thaw d)
section
variable {c : Ct} {W : WX} {X : Cx} {e : Expr} {f : P D} {st : Stmt} {sts : List Stmt} {K : PySem.W.Frag} {G H : Hp} {σ : L2.St} {ρ : Rho}
theorem SealTo.grow {G H G1 H1 G2 H2 : Hp} {fp : List Addr} (g : Grow G H G1 H1) (t : SealTo G1 H1 fp G2 H2) (n : ∀ a ∈ fp, H a = none) : Grow G H G2 H2 :=
  ⟨g.g.trans t.g, fun a o e n' => by rw [t.out a fun z => ne_none_of e (n a z)]; exact g.h _ _ e n', t.s, fun a ha => (t.n a ha).elim (g.n a) fun z => .inr (n a z), fun a ha => by rw [t.out a fun z => ha (n a z)]; exact g.dm a ha,
    fun tb p hp => by
      obtain ⟨ps, h1, _⟩ := tb p hp
      exact (g.tb tb p hp).mono t.g (t.out p.1 fun z => ne_none_of h1 (n p.1 z)), fun z => t.nt (g.nt z)⟩
theorem dp_th (h : DX c W X e f) : DP c W X e (pTh f) := PE.imp (PE.seal h) fun σ H Q ⟨G, ρ, A, p⟩ => ⟨G, ρ, A, by
  have p : PostP X.K W σ G H (rv X.K) Q ((f ρ).bind fun d => .ok (thaw d)) := p
  cases o : f ρ with
  | ok d =>
    rw [o] at p
    intro v G1 H1 g1 ⟨fp, ow, n⟩
    exact sealV d g1.s (fun a ha => (n a ha).1) ow _ fun G2 H2 t r => p v G2 H2 (t.grow g1 fun a ha => (n a ha).2) r
  | exn x fs => rw [o] at p; exact p
  | stuck => rw [o] at p; exact p⟩
theorem dp_thN (h : DN c W X e f) : DP c W X e (pTh (pMut f)) := dp_th (dx_n h)
/-- a slot's objects become shared -/
theorem At.thaw (A : At K c G σ H ρ) {i : Nat} {d : D} (h : ρ[i]? = some (some d)) (hp : c.ar.length ≤ i ∨ isMut d = false) (Q : Hp → Prop) (k : ∀ G' H', Same G G' → At K c G' σ H' (ρ.set i (some (thaw d))) → Q H') : Seal Q H := by
  obtain ⟨fp, s1, s2, s3, s4⟩ := A.fp
  have hl : i < ρ.length := (List.getElem?_eq_some_iff.mp h).1
  obtain ⟨v, _, hv, _⟩ := A.get h
  have t := s1 i
  rw [getD_of hv, getD_of h] at t
  have t : OwnV K G H d v (fp i) := t
  have n0 : ∀ a ∈ fp i, c.H0 a = none := fun a ha => by
    rcases hp with hp | hp
    · exact (s3 i a ha).2.resolve_right fun z => by rw [A.f0 i hp] at z; cases z
    · rw [((ownV_val hp).mp t).2] at ha; cases ha
  refine sealV d A.sub (fun a ha => (s3 i a ha).1) t _ fun G' H' q r => k G' H' q.g ⟨q.s, A.g0.trans q.g, fun a ha => ?_, fun a o e n nt => ?_, fun a ha => ?_, fun p hp => ?_, q.nt A.nt, A.f0, A.arl, by simp [A.len], fun j w e q1 q2 => ?_, fpSet fp i [], fun j => ?_, fun j k b hj hk => ?_, fun j b hj => ?_⟩
  · rcases q.n a ha with z | z
    · exact A.gnew a z
    · exact .inr (n0 a z)
  · rw [q.out a fun z => ne_none_of e (n0 a z)]
    exact A.keep a o e n
  · by_cases z : a ∈ fp i
    · exact q.inn a z
    · rw [q.out a z]; exact A.dom a ha
  · obtain ⟨ps, h1, _⟩ := A.tb p hp
    refine (A.tb p hp).mono q.g (q.out p.1 fun z => ?_)
    have := OwnV.nt d t p.1 z _ h1
    cases this
  · by_cases z : j = i
    · subst z
      rw [List.getElem?_set_self hl] at q2
      have := thaw_notMut d
      rw [Option.some.inj (Option.some.inj q2)] at this
      cases this
    · rw [List.getElem?_set_ne (Ne.symm z)] at q2
      exact A.par j w _ q1 q2
  · rw [getD_set]
    by_cases z : j = i
    · subst z
      rw [if_pos ⟨rfl, hl⟩, fpSet_self, getD_of hv]
      exact (ownV_val (thaw_notMut d)).mpr ⟨r, rfl⟩
    · rw [if_neg (fun y => z y.1), fpSet_ne z]
      exact (s1 j).mono q.g fun a ha => q.out a fun y => z (s2 j i a ha y)
  · by_cases z : j = i
    · subst z; rw [fpSet_self] at hj; cases hj
    · rw [fpSet_ne z] at hj
      by_cases z' : k = i
      · subst z'; rw [fpSet_self] at hk; cases hk
      · rw [fpSet_ne z'] at hk; exact s2 j k b hj hk
  · by_cases z : j = i
    · subst z; rw [fpSet_self] at hj; cases hj
    · rw [fpSet_ne z] at hj
      refine ⟨?_, (s3 j b hj).2⟩
      cases y : G' b with
      | none => rfl
      | some o =>
        rcases q.n b (ne_none_of y) with x | x
        · exact absurd (s3 j b hj).1 x
        · exact absurd (s2 j i b hj x) z
/-- .. at a statement -/
def sTh (n i : Nat) (s : S) : S := fun ρ => match ρ[i]? with
  | some (some d) => if (isMut d && decide (i < n)) = true then .stuck else s (ρ.set i (some (thaw d)))
  | _ => s ρ
/-- a value that may be new, used as a shared one -/
def mTh (f : M D) : M D := fun ρ => (f ρ).bind fun d ρ' => .ok (thaw d) ρ'
theorem em_th {f : M D} (h : EX c W X e f) : EM c W X e (mTh f) := PE.imp (PE.seal h) fun σ H Q ⟨G, ρ, A, p⟩ => ⟨G, ρ, A, by
  have p : PostM X.K c W σ G H (rv X.K) Q ((f ρ).bind fun d ρ' => .ok (thaw d) ρ') := p
  cases o : f ρ with
  | ok d ρ' =>
    rw [o] at p
    intro v G' H' s A'
    have B := A'.unpush A.arl
    have hl : (ρ' ++ [some d])[ρ'.length]? = some (some d) := app_get_len
    refine A'.thaw hl (.inl (by rw [B.len]; exact B.arl)) _ fun G2 H2 s2 A2 => ?_
    rw [set_app_len] at A2
    obtain ⟨w, h1, h2⟩ := A2.val (i := ρ'.length) app_get_len (thaw_notMut d)
    rw [B.len, app_get_len] at h1
    cases h1
    exact p v G2 H2 (s.trans s2) (A2.unpush A.arl) h2
  | exn x fs ρ' => rw [o] at p; exact p
  | stuck => rw [o] at p; exact p⟩
end
end DL
namespace DL
open PySem PySem.Spec PyProof.Rows L2
variable [TheW]
/-! ### dict(d), list(d), sorted(d) -/
section
variable {K : PySem.W.Frag} {G H : Hp}
theorem repK_ownK : ∀ {ds : List (D × D)} {vs : List (Key × V)}, RepK K G ds vs → OwnK K G H ds vs []
  | [], _, h => ⟨h, rfl⟩
  | (k, d) :: ds, _, ⟨j, v, r, h1, h2, h3, h4⟩ => ⟨j, v, r, [], [], h1, h2, (ownV_val h3.notMut).mpr ⟨h3, rfl⟩, repK_ownK h4, rfl, by simp⟩
theorem keys_rep : ∀ {ds : List (D × D)} {vs : List (Key × V)}, RepK K G ds vs → RepL K G (ds.map (·.1)) (vs.map fun kv => kV kv.1)
  | [], _, h => by have h : _ = [] := h; subst h; rfl
  | (k, d) :: ds, _, ⟨j, v, r, h1, h2, h3, h4⟩ => by subst h1; exact ⟨kV j, _, rfl, key_rep h2, keys_rep h4⟩
end
def dictA : List D → Res D
  | [.dict kvs] => .ok (.dict kvs)
  | [.lst ds] => dictD [.lst ds]
  | _ => .stuck
def rDictP (K : PySem.W.Frag) : List V → Hp → VK → Prop := fun xs H Q => ∃ (a : Addr) (ps : List Addr) (kvs : List (Key × V)), xs = [.ref a] ∧ SqL K H a (ps.map V.ref) ∧ Paired (fun p kv => SqT K H p [kV kv.1, kv.2]) ps kvs ∧ ∀ p, H p = none → Q (.ref p) (upd H p (.dK (mergeK [] kvs)))
def rDictC : List V → Hp → VK → Prop := fun xs H Q => ∃ (a : Addr) (kvs : List (Key × V)), xs = [.ref a] ∧ Rd H a (.dK kvs) ∧ ∀ p, H p = none → Q (.ref p) (upd H p (.dK kvs))
def listA : List D → Res D
  | [.dict kvs] => .ok (.lst (kvs.map (·.1)))
  | [.lst ds] => .ok (.lst ds)
  | [.tup ds] => .ok (.lst ds)
  | [.set ds] => .ok (.lst ds)
  | _ => .stuck
theorem listA_quiet : QuietL listA := fun x z fs h => by unfold listA at h; split at h <;> cases h
def rListC : List V → Hp → VK → Prop := fun xs H Q => ∃ (a : Addr) (kvs : List (Key × V)), xs = [.ref a] ∧ Rd H a (.dK kvs) ∧ ∀ p, H p = none → Q (.ref p) (upd H p (.lst (kvs.map fun kv => kV kv.1)))
theorem cd_listA {K : PySem.W.Frag} : CallD K (ro K) (fun xs H Q => rListOf K xs H Q ∨ rListC xs H Q) listA := by
  intro G H vs ds Q s r q
  unfold listA at q
  split at q
  · obtain ⟨v, rfl, a, kv, rfl, h2, h3⟩ := paired1 r
    exact .inr ⟨a, kv, rfl, h2, fun l hl => q _ G _ (.new s hl) (ro_lst s hl (keys_rep h3))⟩
  · exact .inl (cd_list G H vs _ Q s r q)
  · exact .inl (cd_list G H vs _ Q s r q)
  · obtain ⟨v, rfl, a, xs, rfl, h2, h3⟩ := paired1 r
    exact .inl ⟨a, xs, rfl, .inl (same_seqL s h2), fun l hl => q _ G _ (.new s hl) (ro_lst s hl h3)⟩
  · exact q.elim
/-- sorted(d), d's keys texts -/
def keyStrs : List (D × D) → Option (List Str)
  | [] => some []
  | (.str x, _) :: r => (keyStrs r).map (x :: ·)
  | _ :: _ => none
def sortedC : List D → Res D
  | [.dict kvs] => (match keyStrs kvs with
    | some xs => if xs.length < 64 then .ok (.lst (sortL (kvs.map (·.1)))) else .stuck
    | none => .stuck)
  | [.lst ds] => sortedA [.lst ds]
  | [.tup ds] => sortedA [.tup ds]
  | _ => .stuck
def rSortC : List V → Hp → VK → Prop := fun xs H Q => ∃ (a : Addr) (kvs : List (Key × V)) (ks : List Str), xs = [.ref a] ∧ Rd H a (.dK kvs) ∧ kvs.map (·.1) = ks.map Sum.inr ∧ ks.length < 64 ∧ ∀ ys p, ys.Perm ks → sortedS ys = true → H p = none → Q (.ref p) (upd H p (.lst (ys.map V.str)))
section
variable {c : Ct} {W : WX} {X : Cx} {e : Expr} {es : List Expr} {fs : P (List D)} {pos p : Pos}
theorem dn_listA (hca : X.calm = true) (ha : DAB c W X (e :: es) fs) (hm : X.mg "list" = none) (hg : Gl X "list" := by rfl) (he : starEach (e :: es) X.env = (false, eval e X.env) :: starEach es X.env := by rfl) (hpl : (backTo pos (starEach es X.env)).any (·.1) = false := by rfl) :
    DN c W X (.Call (.Name "list" p) (e :: es) [] pos) (pCallL listA fs) := PE_callTy (CallR.or (r := rListOf X.K) (r' := rListC) call_list_of (call_listD hca)) cd_listA steady_ro listA_quiet hm (by decide +kernel) ha hg (by decide) (by decide) he hpl
end
end DL
namespace DL
open PySem PySem.Spec PyProof.Rows L2
variable [TheW]
/-! ### {k: v, ..} -/
def pPairs : List (P D × P D) → P (List (D × D))
  | [] => fun _ => .ok []
  | (f, g) :: fs => fun ρ => (f ρ).bind fun k => (g ρ).bind fun v => (pPairs fs ρ).bind fun r => .ok ((k, v) :: r)
def keyed (kvs : List (D × D)) : Bool := kvs.all fun p => (keyOf p.1).isSome
def pDisp (fs : List (P D × P D)) : P D := fun ρ => (pPairs fs ρ).bind fun kvs => if keyed kvs = true then .ok (.dict (mergeD kvs)) else .stuck
def rpr (K : PySem.W.Frag) : RR (List (D × D)) (List (V × V)) := fun _ d v G _ => Paired (fun (p : D × D) (q : V × V) => Rep K G p.1 q.1 ∧ Rep K G p.2 q.2) d v
def trsOf (K : PySem.W.Frag) (c : Ct) (W : WX) (fs : List (P D × P D)) : List (TE × TE) := fs.map fun f => (tP K c W (rv K) f.1, tP K c W (rv K) f.2)
section
variable {c : Ct} {W : WX} {X : Cx} {K : PySem.W.Frag} {σ : L2.St} {pos : Pos} {tg e e2 : Expr} {f g : P D}
abbrev DPs (c : Ct) (W : WX) (X : Cx) (pos : Pos) (ks : List (Option Expr)) (vs : List Expr) (fs : List (P D × P D)) : Prop := PPs X pos ks vs (trsOf X.K c W fs)
theorem dps_nil : DPs c W X pos [] [] [] := pps_nil
theorem dps_cons {k v : Expr} {ks : List (Option Expr)} {vs : List Expr} {fs : List (P D × P D)} (hk : DP c W X k f) (hv : DP c W X v g) (hr : DPs c W X pos ks vs fs) : DPs c W X pos (some k :: ks) (v :: vs) ((f, g) :: fs) := pps_cons hk hv hr
theorem pairs_read : ∀ (fs : List (P D × P D)) {G H : Hp} {ρ : Rho} {Q : List (V × V) → Hp → Prop}, At K c G σ H ρ → PostP K W σ G H (rpr K) Q (pPairs fs ρ) → tPairs (trsOf K c W fs) σ H Q
  | [], G, H, ρ, Q, A, p => p [] G H (.refl A.sub) .nil
  | (f, g) :: fs, G, H, ρ, Q, A, p => ⟨G, ρ, A, (PostP.bind (S := rpr K) (show PostP K W σ G H (rpr K) Q ((f ρ).bind fun k => (g ρ).bind fun v => (pPairs fs ρ).bind fun r => .ok ((k, v) :: r)) from p)).imp fun x H1 ⟨dx, G1, g1, r1, p1⟩ =>
      ⟨G1, ρ, A.grow g1, (PostP.bind p1).imp fun y H2 ⟨dy, G2, g2, r2, p2⟩ => pairs_read fs ((A.grow g1).grow g2) (PostP.imp (Q := fun ps H3 => ∃ r G3, Grow G2 H2 G3 H3 ∧ rpr K H2 r ps G3 H3 ∧ PostP K W σ G3 H3 (fun _ => rpr K H) Q (.ok ((dx, dy) :: r))) (PostP.bind p2) fun ps H3 ⟨r, G3, g3, r3, p3⟩ =>
        p3 ((x, y) :: ps) G3 H3 (.refl g3.s) (.cons ⟨Rep.mono (g2.g.trans g3.g) _ r1, Rep.mono g3.g _ r2⟩ r3))⟩⟩
theorem pairs_keyed {G : Hp} : ∀ {kvs : List (D × D)} {ps : List (V × V)}, keyed kvs = true → Paired (fun (p : D × D) (q : V × V) => Rep K G p.1 q.1 ∧ Rep K G p.2 q.2) kvs ps → ∃ kv : List (Key × V), ps = kv.map (fun kv => (kV kv.1, kv.2)) ∧ RepK K G kvs kv
  | [], _, _, .nil => ⟨[], rfl, rfl⟩
  | (k, d) :: kvs, (v, w) :: ps, h, .cons ⟨r1, r2⟩ t => by
    obtain ⟨h1, h2⟩ := Bool.and_eq_true_iff.mp (show ((keyOf k).isSome && keyed kvs) = true from h)
    obtain ⟨j, ej⟩ := Option.isSome_iff_exists.mp h1
    obtain ⟨kv, rfl, e2⟩ := pairs_keyed h2 t
    have := kV_rep ej r1
    subst this
    exact ⟨(j, w) :: kv, rfl, j, w, kv, rfl, ej, r2, e2⟩
theorem pPairs_len : ∀ {fs : List (P D × P D)} {ρ : Rho} {kvs : List (D × D)}, pPairs fs ρ = .ok kvs → kvs.length = fs.length
  | [], _, _, h => by cases h; rfl
  | (f, g) :: fs, ρ, kvs, h => by
    unfold pPairs at h
    cases o1 : f ρ with
    | ok k =>
      cases o2 : g ρ with
      | ok v =>
        cases o3 : pPairs fs ρ with
        | ok r =>
          simp only [o1, o2, o3, Res.bind, Res.ok.injEq] at h
          subst h
          simp [pPairs_len o3]
        | exn x y => simp [o1, o2, o3, Res.bind] at h
        | stuck => simp [o1, o2, o3, Res.bind] at h
      | exn x y => simp [o1, o2, Res.bind] at h
      | stuck => simp [o1, o2, Res.bind] at h
    | exn x y => simp [o1, Res.bind] at h
    | stuck => simp [o1, Res.bind] at h
theorem dn_disp {ks : List (Option Expr)} {vs : List Expr} {fs : List (P D × P D)} (h : DPs c W X pos ks vs fs) (h15 : fs.length ≤ 15 := by decide) (hall : ks.all (·.isSome) = true := by rfl) (hl : ks.length = vs.length := by rfl) (h0 : ks ≠ [] := by simp) (h15' : ks.length ≤ 15 := by decide) :
    DN c W X (.Dict ks vs pos) (pDisp fs) :=
  PE.imp (pe_disp h hall hl h0 h15') fun σ H Q ⟨G, ρ, A, q⟩ pp hpp => by
    have g0 : Grow G H G (upd H pp (.dK [])) := .new A.sub hpp
    have q : PostP X.K W σ G H (ro X.K) Q ((pPairs fs ρ).bind fun kvs => if keyed kvs = true then .ok (.dict (mergeD kvs)) else .stuck) := q
    refine pairs_read fs (A.grow g0) ?_
    cases o : pPairs fs ρ with
    | ok kvs =>
      rw [o] at q
      have q : PostP X.K W σ G H (ro X.K) Q (if keyed kvs = true then .ok (.dict (mergeD kvs)) else .stuck) := q
      split at q
      case isFalse => exact q.elim
      rename_i hk
      intro ps G4 H4 g1 r
      have hp4 : H4 pp = some (.dK []) := g1.h _ _ upd_same
      have gp : G pp = none := A.sub.free hpp
      have gp4 : G4 pp = none := g1.nn gp (by rw [upd_same]; simp)
      obtain ⟨kv, rfl, rk⟩ := pairs_keyed hk r
      refine ⟨hp4, kv, rfl, ?_, q (.ref pp) G4 _ ((g0.trans g1).upd' hpp gp4) ⟨[pp], ⟨pp, _, [], rfl, upd_same, own_fold rk ⟨rfl, rfl⟩, rfl, by simp⟩, fun b hb => ?_⟩⟩
      · rw [rk.length, pPairs_len o]; exact h15
      · have hb : b = pp := by simpa using hb
        subst hb
        exact ⟨gp4, hpp⟩
    | exn x y =>
      rw [o] at q
      exact fun cls dd G' H' g r => q cls dd G' H' (g0.trans g) r
    | stuck => rw [o] at q; exact q.elim
/-! ### d.items(), d.values() walked -/
def itemsD : D → Res (List D)
  | .dict kvs => .ok (kvs.map fun p => .tup [p.1, p.2])
  | _ => .stuck
def valuesD : D → Res (List D)
  | .dict kvs => .ok (kvs.map fun p => p.2)
  | _ => .stuck
def pItems (f : P D) : P (List D) := fun ρ => (f ρ).bind itemsD
def pValues (f : P D) : P (List D) := fun ρ => (f ρ).bind valuesD
/-! ### zip(xs, ys) walked -/
def zipL : List D → List D → List D
  | x :: xs, y :: ys => .tup [x, y] :: zipL xs ys
  | _, _ => []
def zipD : List D → Res (List D)
  | [.lst xs, .lst ys] => .ok (zipL xs ys)
  | [.tup xs, .tup ys] => .ok (zipL xs ys)
  | _ => .stuck
def pZip (fs : P (List D)) : P (List D) := fun ρ => (fs ρ).bind zipD
end
end DL
namespace DL
open PySem PySem.Spec PyProof.Rows L2
variable [TheW]
/-! ### dict comprehensions -/
def dcompL (g : D → Res (Option (D × D))) : List D → Res (List (D × D))
  | [] => .ok []
  | d :: ds => match g d with
    | .ok o => (match dcompL g ds with
      | .ok r => .ok (match o with
        | some y => y :: r
        | none => r)
      | _ => .stuck)
    | _ => .stuck
def ditem (vs : List Nat) (t : Tgt) (tt : P Bool) (tk tv : P D) (ρ : Rho) (d : D) : Res (Option (D × D)) := match asg t d with
  | some l => (match tt (setR (wipeR ρ vs) l) with
    | .ok true => (match tk (setR (wipeR ρ vs) l), tv (setR (wipeR ρ vs) l) with
      | .ok k, .ok v => (match keyOf k with
        | some _ => .ok (some (k, v))
        | none => .stuck)
      | _, _ => .stuck)
    | .ok false => .ok none
    | _ => .stuck)
  | none => .stuck
def mkDict (kvs : List (D × D)) : Res D := if kvs.length ≤ sizeLine then .ok (.dict (mergeD kvs)) else .stuck
def pDComp (vs : List Nat) (t : Tgt) (src : P (List D)) (tt : P Bool) (tk tv : P D) : P D := fun ρ => (src ρ).bind fun ds => (dcompL (ditem vs t tt tk tv ρ) ds).bind mkDict
section
variable {c : Ct} {W : WX} {K : PySem.W.Frag} {G H G1 H1 : Hp} {σ : L2.St} {ρ : Rho} {Q : VK} {vs : List Nat} {t : Tgt} {tt : P Bool} {tk tv : P D} {ds : List D} {J : It}
/-- the new dict so far -/
structure DcI (K : PySem.W.Frag) (G1 H1 : Hp) (Dd : Addr) (g : D → Res (Option (D × D))) (ds : List D) (res : List (D × D)) (i : Nat) (Hc : Hp) : Prop where
  ex : ∃ Gc vs acc rest, Grow G1 H1 Gc Hc ∧ Hc Dd = some (.dK vs) ∧ Gc Dd = none ∧ RepK K Gc (mergeD acc) vs ∧ dcompL g (ds.drop i) = .ok rest ∧ acc ++ rest = res
end
section
variable {c : Ct} {W : WX} {X : Cx} {kx vx tg iter : Expr} {ifs : List Expr} {scope : Scope} {own : List (Str × Nat)} {pos : Pos} {t : Tgt} {src : P (List D)} {tt : P Bool} {tk tv : P D}
end
end DL
namespace DL
open PySem PySem.Spec PyProof.Rows L2
variable [TheW]
/-! ### sets of ints and texts that can be walked -/
def vkey : Value → Key
  | .int i _ => .inl i
  | .str x _ => .inr x
  | _ => .inl 0
def KGood (w : World) (e : Int × Value) : Prop := ∃ k, keyIs k e.2 = true ∧ e.1 = keyH w k
abbrev ekey (e : Int × Value) : Key := vkey e.2
/-- the set at a: its keys, in the order of its table -/
def KSet (w : World) (h : Heap) (a : Addr) (ks : List Key) : Prop :=
  ∃ o es ep t, h.get? a = some o ∧ o.ExactSet ∧ o.data = .set es ep t ∧ (∀ e ∈ es.toList, KGood w e) ∧ es.toList.map ekey = ks ∧ ks.Nodup ∧
    es.size < scanBound ∧ t.fits es.size = true ∧ Ris t.place.toList ∧ (w.params.followText "set-order" = true ∨ t.led = true)
section
variable {P : Program} {w : World} {h h' : Heap} {a : Addr} {ks : List Key}
end
section
variable {P : Program} {w : World} {A : Around} {E : Value → Shared → Prop} {s : Shared} {a : Addr} {ks : List Key}
/-- what the set has got from the first i items -/
structure KGot (all : List Key) (i : Nat) (ls : List Key) : Prop where
  nd : ls.Nodup
  mem : ∀ k, k ∈ ls ↔ k ∈ all.take i
  len : ls.length ≤ i
end
end DL
set_option maxHeartbeats 8000000
namespace DL
open PySem PySem.Spec PyProof.Rows L2
variable [TheW]
abbrev fso (w : World) : Obj := { cls := .type "set", dict := none, data := .set #[] 0 (.fresh 0 0 (!w.params.followText "set-order")) }
inductive KeysAre : List Key → List Value → Prop where
  | nil : KeysAre [] []
  | cons {k : Key} {v : Value} {ks : List Key} {vs : List Value} : keyIs k v = true → KeysAre ks vs → KeysAre (k :: ks) (v :: vs)
/-- a set at S that takes the items one by one; J i tells the heap behind the first i of them -/
structure SetSrc (P : Program) (w : World) (B : Nat) (h0 : Heap) (S : Addr) (items : Array Value) (J : Nat → Heap → Prop) : Prop where
  keep : ∀ {i : Nat} {h h' : Heap}, J i h → (∀ b o, (b = S ∨ ∃ o', h0.get? b = some o') → h.get? b = some o → h'.get? b = some o) → J i h'
  add : ∀ {i : Nat} {v : Value} {A : Around} {E : Value → Shared → Prop} {s : Shared} {Q : Bool → Shared → Prop}, A.units < B → items[i]? = some v → J i s.heap →
    (∀ h' tk b, Heap.SameBut S s.heap h' → s.toks ≤ tk → J (i + 1) h' → Q b { s with heap := h', toks := tk }) → wpAny (model P w) A (setAdd S v) Q E s
section
variable {P : Program} {w : World} {A : Around} {E : Value → Shared → Prop} {s : Shared}
end
end DL
namespace DL
open PySem PySem.Spec PyProof.Rows L2
variable [TheW]
/-! ### set(xs), sorted(set(xs)), len(set(xs)) -/
def KSetO (w : World) (a : Addr) (ls : List Key) : HO := .ext fun h => KSet w h a ls
def keyD : Key → D
  | .inl i => .int i
  | .inr x => .str x
theorem keyOf_keyD (k : Key) : keyOf (keyD k) = some k := by cases k <;> rfl
section
variable {X : Cx} {pins : List (Addr × Obj)} {σ : L2.St} {H : Hp} {s : Shared}
def rSetK (K : PySem.W.Frag) (w : World) : List V → Hp → VK → Prop := fun xs H Q => ∃ (l : Addr) (all : List Key), xs = [.ref l] ∧ (SqL K H l (all.map kV) ∨ SqT K H l (all.map kV)) ∧ all.length + 1 < scanBound ∧ ∀ p ls, H p = none → KGot all all.length ls → Q (.ref p) (upd H p (KSetO w p ls))
end
section
variable {P : Program} {w : World} {A : Around} {E : Value → Shared → Prop} {s : Shared} {a : Addr} {ls : List Key}
end
section
variable {X : Cx}
def rSortK (w : World) : List V → Hp → VK → Prop := fun xs H Q => ∃ (a : Addr) (ls : List Key), xs = [.ref a] ∧ H a = some (KSetO w a ls) ∧ sortOk (ls.map keyD) = true ∧ ∀ (ks : List Key) p, ks.map keyD = sortL (ls.map keyD) → H p = none → Q (.ref p) (upd H p (.lst (ks.map kV)))
end
end DL
namespace DL
open PySem PySem.Spec PyProof.Rows L2
variable [TheW]
/-! ### sets used at once -/
def keysL : List D → Option (List Key)
  | [] => some []
  | d :: ds => match keyOf d with
    | some k => (keysL ds).map (k :: ·)
    | none => none
def hasK (ks : List Key) (k : Key) : Bool := ks.any fun j => decide (j = k)
theorem hasK_iff {ks : List Key} {k : Key} : hasK ks k = true ↔ k ∈ ks := by simp [hasK]
def nubK : List Key → List Key
  | [] => []
  | k :: ks => if hasK ks k = true then nubK ks else k :: nubK ks
theorem nubK_mem : ∀ {ks : List Key} {k : Key}, k ∈ nubK ks ↔ k ∈ ks
  | [], _ => by simp [nubK]
  | j :: ks, k => by
    unfold nubK
    split
    · rename_i h
      rw [nubK_mem, List.mem_cons]
      exact ⟨.inr, fun z => z.elim (fun e => e ▸ hasK_iff.mp h) id⟩
    · rw [List.mem_cons, nubK_mem, List.mem_cons]
theorem nubK_nodup : ∀ ks : List Key, (nubK ks).Nodup
  | [] => List.nodup_nil
  | j :: ks => by
    unfold nubK
    split
    · exact nubK_nodup ks
    · rename_i h
      exact List.nodup_cons.mpr ⟨fun z => h (hasK_iff.mpr (nubK_mem.mp z)), nubK_nodup ks⟩
def setD : List D → Res (List Key)
  | [.lst ds] => (match keysL ds with
    | some ks => if ks.length + 1 < scanBound then .ok ks else .stuck
    | none => .stuck)
  | [.tup ds] => (match keysL ds with
    | some ks => if ks.length + 1 < scanBound then .ok ks else .stuck
    | none => .stuck)
  | _ => .stuck
def pSet (fs : P (List D)) : P (List Key) := fun ρ => (fs ρ).bind setD
def sortKeys (ks : List Key) : Res D := if sortOk ((nubK ks).map keyD) = true then .ok (.lst (sortL ((nubK ks).map keyD))) else .stuck
def pSortSet (f : P (List Key)) : P D := fun ρ => (f ρ).bind sortKeys
def pLenSet (f : P (List Key)) : P D := fun ρ => (f ρ).bind fun ks => .ok (.int (nubK ks).length)
def rks (w : World) : RR (List Key) V := fun _ ks v _ H => ∃ a ls, v = .ref a ∧ H a = some (KSetO w a ls) ∧ KGot ks ks.length ls
abbrev DK (c : Ct) (W : WX) (X : Cx) (e : Expr) (f : P (List Key)) : Prop := PE X e (tP X.K c W (rks X.w) f)
def rLenK (w : World) : List V → Hp → VK → Prop := fun xs H Q => ∃ a ls, xs = [.ref a] ∧ H a = some (KSetO w a ls) ∧ Q (.int ls.length) H
section
variable {c : Ct} {W : WX} {X : Cx} {e : Expr} {es : List Expr} {fs : P (List D)} {f : P (List Key)} {pos p : Pos}
end
end DL
set_option maxHeartbeats 4000000
namespace DL
open PySem PySem.Spec PyProof.Rows L2
variable [TheW]
/-! ### instances that are shared: fields, methods, properties -/
abbrev ClF (K : PySem.W.Frag) (C : Str) : Prop := Cls K (He.ga K C)
abbrev NaF (K : PySem.W.Frag) (C f : Str) : Prop := NoAttr K (He.ga K C) f
/-- no two classes stand at one address -/
def fldL : List (Str × D) → Str → Option D
  | [], _ => none
  | (x, d) :: r, f => if f = x then some d else fldL r f
def pFld (C f : Str) (g : P D) : P D := fun ρ => (g ρ).bind fun d => match d with
  | .ins C' fs => if C' = C then (match fldL fs f with
    | some x => .ok x
    | none => .stuck) else .stuck
  | _ => .stuck
theorem repF_lookup {K : PySem.W.Frag} {G : Hp} {f : Str} : ∀ {fs : List (Str × D)} {fv : List (Str × V)}, RepF K G fs fv → (match fldL fs f with
    | some d => ∃ v, fv.lookup f = some v ∧ Rep K G d v
    | none => fv.lookup f = none)
  | [], _, h => by have h : _ = [] := h; subst h; rfl
  | (x, d) :: fs, _, ⟨v, r, h1, h2, h3⟩ => by
    subst h1
    unfold fldL
    by_cases e : f = x
    · subst e
      rw [if_pos rfl]
      exact ⟨v, by simp [List.lookup], h2⟩
    · rw [if_neg e]
      have ih := repF_lookup (f := f) h3
      have l : List.lookup f ((x, v) :: r) = List.lookup f r := by
        have : (f == x) = false := by simpa using e
        simp [List.lookup, this]
      rw [l]
      exact ih
section
variable {c : Ct} {W : WX} {X : Cx} {o e : Expr} {es : List Expr} {f g : P D} {fs : P (List D)} {pos apos : Pos} {C m : Str}
/-! ### a method's promise -/
structure CallM (P : Program) (w : World) (K : PySem.W.Frag) (mg : Str → Option Value) (base : Heap) (k : Nat) (C m : Str) (ps : List Str) (F : Fd) : Prop where
  ex : ∃ f fd, Meth K (He.ga K C) m f ∧ FnOk P w K mg base CX0 k f fd ps (spF K ps.length F) ∧ Binds K fd ps []
structure MtF (K : PySem.W.Frag) (C m : Str) (qual : Str) (st : Stmt) : Prop where
  ex : ∃ f fd, Meth K (He.ga K C) m f ∧ FunD K m qual (defArgs st) (defBody st) (defScope st) [] [] f fd
structure PrF (K : PySem.W.Frag) (C m : Str) (qual : Str) (st : Stmt) : Prop where
  ex : ∃ p f fd, PropOf K (He.ga K C) m p f ∧ FunD K m qual (defArgs st) (defBody st) (defScope st) [] [] f fd
structure CallPr (P : Program) (w : World) (K : PySem.W.Frag) (mg : Str → Option Value) (base : Heap) (k : Nat) (C m : Str) (F : Fd) : Prop where
  ex : ∃ p f fd ps, ps.length = 1 ∧ PropOf K (He.ga K C) m p f ∧ FnOk P w K mg base CX0 k f fd ps (spF K 1 F) ∧ Binds K fd ps []
section
variable {P : Program} {w : World} {K : PySem.W.Frag} {mg : Str → Option Value} {base : Heap} {st : Stmt} {N ps : List Str} {k j : Nat} {F : Fd} {qual : Str}
end
/-- o.m(..), o shared -/
def pMeth (C m : Str) (n : Nat) (F : Fd) (g : P D) (fs : P (List D)) : P D := fun ρ => (g ρ).bind fun d => match d with
  | .ins C' fl => if C' = C ∧ fldL fl m = none then (fs ρ).bind (fun ds => if (d :: ds).length = n then (match F (d :: ds) with
    | .ok r _ => .ok r
    | _ => .stuck) else .stuck) else .stuck
  | _ => .stuck
/-- o.p, a property -/
def pProp (C : Str) (F : Fd) (g : P D) : P D := fun ρ => (g ρ).bind fun d => match d with
  | .ins C' fl => if C' = C then (match F [d] with
    | .ok r _ => .ok r
    | _ => .stuck) else .stuck
  | _ => .stuck
end
end DL
namespace DL
open PySem PySem.Spec PyProof.Rows L2
variable [TheW]
/-! ### self.f = e -/
def putFD (f : Str) (d : D) : List (Str × D) → List (Str × D)
  | [] => [(f, d)]
  | (g, x) :: r => if g = f then (g, d) :: r else (g, x) :: putFD f d r
section
variable {K : PySem.W.Frag} {c : Ct} {G H : Hp} {σ : L2.St} {ρ : Rho}
end
/-- name.f = e -/
def sFld (C f : Str) (i : Nat) (g : M D) : S := fun ρ => (g ρ).fl fun d ρ' => match ρ'[i]? with
  | some (some (.mut (.ins C' fs))) => if C' = C ∧ fs.length < 1000 then .nx (ρ'.set i (some (.mut (.ins C' (putFD f d fs))))) else .stuck
  | _ => .stuck
section
variable {c : Ct} {W : WX} {X : Cx} {e : Expr} {g : M D} {pos p p' : Pos} {x C f : Str} {i : Nat}
end
/-! ### C(..): a new instance -/
def makeR (C : Str) (n : Nat) (F : Fd) (ds : List D) : Res D := if ds.length + 1 = n then (match F (.mut (.ins C []) :: ds) with
  | .ok .non ρ' => (match ρ'[0]? with
    | some (some (D.mut d)) => .ok d
    | _ => .stuck)
  | _ => .stuck) else .stuck
section
variable {K : PySem.W.Frag} {W : WX} {σ : L2.St} {G H G1 H1 : Hp} {Q : VK} {C : Str} {n : Nat} {F : Fd} {ds : List D} {vs : List V}
end
end DL
namespace DL
open PySem PySem.Spec PyProof.Rows L2
variable [TheW]
/-! ### calls with keywords, defaults of keyword-only parameters -/
theorem PK.imp {X : Cx} {e : List Keyword} {t t' : TA} (h : PK X e t) (i : ∀ σ H Q, t' σ H Q → t σ H Q) : PK X e t' := ⟨fun pos pins s σ H Q I q => h.run pos pins s σ H Q I (i σ H Q q)⟩
abbrev DKw (c : Ct) (W : WX) (X : Cx) (kws : List Keyword) (f : P (List D)) : Prop := PK X kws (tP X.K c W (rl X.K) f)
/-- a def with keyword-only defaults -/
structure FnK (K : PySem.W.Frag) (mg : Str → Option Value) (x : Str) (st : Stmt) (kws : List (Str × D)) : Prop where
  ex : ∃ fd kv, FunD K x x (defArgs st) (defBody st) (defScope st) [] kv (He.ga K x) fd ∧ kv.map (·.1) = kws.map (·.1) ∧ ∀ G, RepL K G (kws.map (·.2)) (kv.map (·.2))
  m : mg x = some (.ref (He.ga K x))
/-- its promise at calls with n positional values and keywords ks; gD puts all values in the parameters' order -/
structure CallK (P : Program) (w : World) (K : PySem.W.Frag) (mg : Str → Option Value) (base : Heap) (k : Nat) (x : Str) (ps : List Str) (F : Fd) (n : Nat) (ks : List Str) (gD : List D → List D → List D) : Prop where
  ex : ∃ fd g gV, FnOk P w K mg base CX0 k (He.ga K x) fd ps (spF K ps.length F) ∧ KBn K fd ps n ks g gV ∧ ∀ (G : Hp) (ds es : List D) (vs zs : List V), ds.length = n → es.length = ks.length → RepL K G ds vs → RepL K G es zs → RepL K G (gD ds es) (gV vs zs)
  m : mg x = some (.ref (He.ga K x))
  kp : PySem.W.keepIn K (.ref (He.ga K x)) = true
def pCallK (F : Fd) (n m : Nat) (N : Nat) (gD : List D → List D → List D) (fs ks : P (List D)) : P D := fun ρ => (fs ρ).bind fun ds => (ks ρ).bind fun es => if ds.length = n ∧ es.length = m ∧ (gD ds es).length = N then (match F (gD ds es) with
  | .ok r _ => .ok r
  | _ => .stuck) else .stuck
section
variable {c : Ct} {W : WX} {X : Cx} {e : Expr} {es : List Expr} {kws : List Keyword} {f : P D} {fs kf : P (List D)} {pos p kpos : Pos} {x : Str} {nm : Option Str}
theorem dkw_nil : DKw c W X [] pNil := PK.imp pk_nil fun σ H Q ⟨G, ρ, A, p⟩ => p [] G H (.refl A.sub) rfl
theorem dkw_cons (he : DP c W X e f) (hs : DKw c W X kws kf) : DKw c W X (⟨nm, e, kpos⟩ :: kws) (pCons f kf) :=
  PK.imp (pk_cons he hs) fun σ H Q ⟨G, ρ, A, p⟩ => ⟨G, ρ, A, (PostP.bind p).imp fun x H1 ⟨dx, G1, g1, r1, p1⟩ => ⟨G1, ρ, A.grow g1, (PostP.bind p1).imp fun xs H2 ⟨ds, G2, g2, r2, p2⟩ =>
    p2 (x :: xs) G2 H2 (.refl g2.s) ⟨x, xs, rfl, Rep.mono g2.g _ r1, r2⟩⟩⟩
/-! ### C(.., k = v) -/
structure MakeK (P : Program) (w : World) (K : PySem.W.Frag) (mg : Str → Option Value) (base : Heap) (k : Nat) (C : Str) (F : Fd) (N n : Nat) (ks : List Str) (gD : List D → List D → List D) : Prop where
  ex : ∃ (f : Addr) (fd : FuncData) (ps : List Str) (g : List Value → List Value → List Value) (gV gV' : List V → List V → List V), Mk K (He.ga K C) f ∧ ps.length = N ∧ FnOk P w K mg base CX0 k f fd ps (spF K N F) ∧ KBn K fd ps (n + 1) ks g gV ∧ (∀ (x : V) (vs zs : List V), vs.length = n → zs.length = ks.length → gV (x :: vs) zs = x :: gV' vs zs) ∧
    ∀ (G : Hp) (ds es : List D) (vs zs : List V), ds.length = n → es.length = ks.length → RepL K G ds vs → RepL K G es zs → RepL K G (gD ds es) (gV' vs zs)
  m : mg C = some (.ref (He.ga K C))
def pMakeK (C : Str) (F : Fd) (n m N : Nat) (gD : List D → List D → List D) (fs ks : P (List D)) : P D := fun ρ => (fs ρ).bind fun ds => (ks ρ).bind fun es => if ds.length = n ∧ es.length = m then makeR C N F (gD ds es) else .stuck
end
end DL
namespace DL
open PySem PySem.Spec PyProof.Rows L2
variable [TheW]
/-! ### the bindings of calls with keywords -/
structure FnO (P : Program) (w : World) (K : PySem.W.Frag) (mg : Str → Option Value) (base : Heap) (k : Nat) (x : Str) (st : Stmt) (ps : List Str) (F : Fd) (kws : List (Str × D)) : Prop where
  ex : ∃ fd kv, FunD K x x (defArgs st) (defBody st) (defScope st) [] kv (He.ga K x) fd ∧ kv.map (·.1) = kws.map (·.1) ∧ (∀ G, RepL K G (kws.map (·.2)) (kv.map (·.2))) ∧ FnOk P w K mg base CX0 k (He.ga K x) fd ps (spF K ps.length F)
  m : mg x = some (.ref (He.ga K x))
abbrev ArrOk (g : {α : Type} → List α → List α → List α → List α) : Prop := ∀ {α β : Type} {R : α → β → Prop} {a1 a2 a3 : List α} {b1 b2 b3 : List β}, Paired R a1 b1 → Paired R a2 b2 → Paired R a3 b3 → Paired R (g a1 a2 a3) (g b1 b2 b3)
section
variable {P : Program} {w : World} {K : PySem.W.Frag} {mg : Str → Option Value} {base : Heap} {x : Str} {st : Stmt} {N ps ks : List Str} {k n : Nat} {F : Fd} {kws : List (Str × D)}
end
/-! ### a class's __init__ with keyword-only defaults -/
structure MkF (K : PySem.W.Frag) (mg : Str → Option Value) (C : Str) (qual : Str) (st : Stmt) (kws : List (Str × D)) : Prop where
  ex : ∃ f fd kv, Mk K (He.ga K C) f ∧ FunD K "__init__" qual (defArgs st) (defBody st) (defScope st) [] kv f fd ∧ kv.map (·.1) = kws.map (·.1) ∧ ∀ G, RepL K G (kws.map (·.2)) (kv.map (·.2))
  m : mg C = some (.ref (He.ga K C))
structure MkO (P : Program) (w : World) (K : PySem.W.Frag) (mg : Str → Option Value) (base : Heap) (k : Nat) (C : Str) (qual : Str) (st : Stmt) (ps : List Str) (F : Fd) (kws : List (Str × D)) : Prop where
  ex : ∃ f fd kv, Mk K (He.ga K C) f ∧ FunD K "__init__" qual (defArgs st) (defBody st) (defScope st) [] kv f fd ∧ kv.map (·.1) = kws.map (·.1) ∧ (∀ G, RepL K G (kws.map (·.2)) (kv.map (·.2))) ∧ FnOk P w K mg base CX0 k f fd ps (spF K ps.length F)
  m : mg C = some (.ref (He.ga K C))
section
variable {P : Program} {w : World} {K : PySem.W.Frag} {mg : Str → Option Value} {base : Heap} {C qual : Str} {st : Stmt} {N ps ks : List Str} {k n : Nat} {F : Fd} {kws : List (Str × D)}
end
end DL
namespace DL
open PySem PySem.Spec PyProof.Rows L2
variable [TheW]
/-! ### a zip whose tuples are kept -/
section
variable {prog : Program} {w : World} {A : Around} {E : Value → Shared → Prop} {s : Shared} {z TI TO T i1 i2 : Addr} {fp1 fp2 : List Addr} {n1 n2 i : Nat} {P1 P2 : Nat → Value → Prop} {St1 St2 : Nat → Heap → Prop} {f : Bool} {oT : Obj}
/-- the state at the i-th turn -/
structure ZSt (z TI TO i1 i2 : Addr) (St1 St2 : Nat → Heap → Prop) (i : Nat) (h : Heap) : Prop where
  zp : (IsZip h z TI TO .none ∧ ∃ a b, IsTupOf2 h TO a b) ∨ ∃ T f oT, IsZipHeld h z TI TO T f ∧ h.get? T = some oT ∧ T ≠ i1 ∧ T ≠ i2
  ti : IsTupOf2 h TI (.ref i1) (.ref i2)
  s1 : St1 i h
  s2 : St2 i h
end
end DL
namespace DL
open PySem PySem.Spec PyProof.Rows L2
variable [TheW]
/-! ### list(zip(a, b)) -/
section
variable {prog : Program} {w : World} {A : Around} {E : Value → Shared → Prop} {s : Shared} {z : Addr}
end
/-- the tuples made, from lo on -/
structure ZG (P1 P2 : Nat → Value → Prop) (lo : Addr) (h : Heap) (as : List Addr) : Prop where
  rise : as.Pairwise (· < ·)
  above : ∀ a ∈ as, lo < a
  pairs : ∀ (j : Nat) (a : Addr), as[j]? = some a → ∃ x1 x2, P1 j x1 ∧ P2 j x2 ∧ IsTupOf2 h a x1 x2
section
variable {prog : Program} {w : World} {A : Around} {s : Shared} {R : Result → Shared → Prop} {z TI TO i1 i2 S : Addr} {fp1 fp2 : List Addr} {n1 n2 n : Nat} {P1 P2 : Nat → Value → Prop} {St1 St2 : Nat → Heap → Prop}
end
section
variable {prog : Program} {w : World} {A : Around} {E : Value → Shared → Prop} {s : Shared} {z TI TO i1 i2 S : Addr} {fp1 fp2 : List Addr} {n1 n2 n : Nat} {P1 P2 : Nat → Value → Prop} {St1 St2 : Nat → Heap → Prop}
end
end DL
namespace DL
open PySem PySem.Spec PyProof.Rows L2
variable [TheW]
def putP : Hp → List Addr → List (V × V) → Hp
  | H, a :: as, p :: ps => putP (upd H a (.tup [p.1, p.2])) as ps
  | H, _, _ => H
section
variable {X : Cx} {pins : List (Addr × Obj)} {σ : L2.St} {H : Hp} {s : Shared}
end
def tZipL (K : PySem.W.Frag) (ta : TA) : TE := fun σ H Q => ta σ H fun vs H1 => ∃ a b xs ys, vs = [.ref a, .ref b] ∧ ((SqL K H1 a xs ∧ SqL K H1 b ys) ∨ (SqT K H1 a xs ∧ SqT K H1 b ys)) ∧
  ∀ (ts : List Addr) (p : Addr), (∀ t ∈ ts, H1 t = none) → ts.Nodup → ts.length = (xs.zip ys).length → p ∉ ts → H1 p = none → Q (.ref p) (upd (putP H1 ts (xs.zip ys)) p (.lst (ts.map V.ref)))
section
variable {X : Cx} {e e2 : Expr} {ta : TA} {p p2 pos pos2 : Pos}
end
end DL
namespace DL
open PySem PySem.Spec PyProof.Rows L2
variable [TheW]
/-! ### list(zip(a, b)) as data -/
def pZipL (fs : P (List D)) : P D := fun ρ => (fs ρ).bind fun vs => (zipD vs).bind fun ds => .ok (.lst ds)
section
variable {c : Ct} {W : WX} {X : Cx} {e e2 o : Expr} {es : List Expr} {f g : P D} {fs : P (List D)} {pos p p2 pos2 apos cpos : Pos} {C m : Str}
end
/-! ### dict of the empty default -/
structure Emp (K : PySem.W.Frag) : Prop where
  ex : ∃ o n, K.lookup (gx K "()") = some o ∧ o.cls = .type "tuple" ∧ o.dict = none ∧ o.data = .seq #[] n
def soft : D → D
  | .glo x => if x = "()" then .tup [] else .glo x
  | d => d
def pSoft (f : P D) : P D := fun ρ => (f ρ).bind fun d => .ok (soft d)
def dictB : List D → Res D
  | [.glo x] => if x = "()" then .ok (.dict []) else .stuck
  | ds => dictA ds
def rDictE (K : PySem.W.Frag) : List V → Hp → VK → Prop := fun xs H Q => xs = [.ref (gx K "()")] ∧ ∀ p, H p = none → Q (.ref p) (upd H p (.dK []))
section
variable {c : Ct} {W : WX} {X : Cx} {e e2 o : Expr} {es : List Expr} {f g : P D} {fs : P (List D)} {pos p p2 pos2 apos cpos : Pos} {C m : Str}
/-! ### d.get(k) -/
def pGet1 (f g : P D) : P D := fun ρ => (f ρ).bind fun d => match d with
  | .dict kvs => (g ρ).bind fun k => getD2 kvs k .non
  | _ => .stuck
end
/-! ### x in d -/
def inB (x y : D) : Res D := match y with
  | .dict kvs => (match keyOf x with
    | some j => .ok (.bl (lookD kvs j).isSome)
    | none => .stuck)
  | _ => inR x y
def notInB (x y : D) : Res D := match y with
  | .dict kvs => (match keyOf x with
    | some j => .ok (.bl (!(lookD kvs j).isSome))
    | none => .stuck)
  | _ => notInR x y
def rInDic (neg : Bool) : R2 := fun x y H Q => ∃ a o, y = .ref a ∧ DGet H a x o ∧ Q (.bl (if neg = true then !o.isSome else o.isSome)) H
section
variable {X : Cx}
/-! ### d == {}, d != {} -/
def rEq0 (neg : Bool) : R2 := fun x y H Q => ∃ a b ks, x = .ref a ∧ y = .ref b ∧ Rd H a (.dK ks) ∧ Rd H b (.dK []) ∧ Q (.bl (if neg = true then !ks.isEmpty else ks.isEmpty)) H
def eq0 (x y : D) : Res D := match x, y with
  | .dict kvs, .dict [] => .ok (.bl kvs.isEmpty)
  | _, _ => .stuck
def ne0 (x y : D) : Res D := match x, y with
  | .dict kvs, .dict [] => .ok (.bl !kvs.isEmpty)
  | _, _ => .stuck
end
/-! ### a, b = e -/
def sAsg (t : Tgt) (f : M D) : S := fun ρ => (f ρ).fl fun d ρ' => match asg t d with
  | some l => .nx (setR ρ' l)
  | none => .stuck
section
variable {c : Ct} {W : WX} {X : Cx} {e tg : Expr} {f : M D} {pos : Pos} {t : Tgt}
end
/-! ### a class's constant, by the own self -/
def pCon (C f : Str) (i : Nat) (d : D) : P D := fun ρ => match ρ[i]? with
  | some (some (.mut (.ins C' fs))) => if C' = C ∧ fldL fs f = none then .ok d else .stuck
  | _ => .stuck
section
variable {c : Ct} {W : WX} {X : Cx} {pos p : Pos} {C f x : Str} {i : Nat} {d : D}
end
end DL
namespace DL
open PySem PySem.Spec PyProof.Rows L2
variable [TheW]
/-! ### small change for the generator -/
section
variable {c : Ct} {W : WX} {X : Cx} {e : Expr} {es : List Expr} {fs : M (List D)} {pos p : Pos}
end
/-! ### facts about the module, as the texts of the defs take them -/
structure CnF (K : PySem.W.Frag) (C f : Str) (d : D) : Prop where
  ex : ∃ v u, Con K (He.ga K C) f v u ∧ ∀ G, Rep K G d v
structure KnF (K : PySem.W.Frag) (mg : Str → Option Value) (x : Str) (d : D) : Prop where
  ex : ∃ v u, mg x = some u ∧ RelV v u ∧ ∀ G, Rep K G d v
section
variable {c : Ct} {W : WX} {X : Cx} {pos p : Pos} {C f x : Str} {i : Nat} {d : D}
end
end DL
namespace DL
open PySem PySem.Spec PyProof.Rows L2
variable [TheW]
section
variable {c : Ct} {W : WX} {X : Cx}
end
end DL
namespace DL
open PySem PySem.Spec PyProof.Rows L2
variable [TheW]
/-! ### sets of objects that are compared quietly, under 64 of them -/
variable {κ : Type} [DecidableEq κ]
structure QuietK {P : Program} {w : World} (kn : HeapKind P w κ) : Prop where
  cls : ∀ {A : Around} {E : Value → Shared → Prop} {s : Shared} {k : κ} {b : Addr} {Q : Bool → Shared → Prop}, kn.is s.heap k b → Q false s → wpAny (model P w) A (ofAClassStatement 8 (.ref b)) Q E s
  byv : ∀ {A : Around} {E : Value → Shared → Prop} {s : Shared} {k : κ} {b : Addr} {Q : Bool → Shared → Prop}, kn.is s.heap k b → Q true s → Q false s → wpAny (model P w) A (hashByValue 8 (.ref b)) Q E s
  kep : ∀ {h h' : Heap} {k : κ} {b : Addr}, kn.is h k b → (∀ c o vs n, h.get? c = some o → o.data = .seq vs n → h'.get? c = some o) → kn.is h' k b
section
variable {P : Program} {w : World} {A : Around} {E : Value → Shared → Prop} {s : Shared} {kn : HeapKind P w κ}
/-- what stands in the table for the objects of L -/
def ents (kn : HeapKind P w κ) (L : List (Addr × κ)) : List (Int × Value) := L.map fun q => (kn.hash q.2, Value.ref q.1)
def hss (kn : HeapKind P w κ) (L : List (Addr × κ)) : List Int := L.map fun q => kn.hash q.2
/-- the set at a has the objects of L -/
structure OSet (kn : HeapKind P w κ) (h : Heap) (a : Addr) (L : List (Addr × κ)) (es : Array (Int × Value)) (ep : Nat) (t : SetTable) : Prop where
  at_ : ∃ o, h.get? a = some o ∧ o.ExactSet ∧ o.data = .set es ep t
  row : es.toList = ents kn L
  tab : TabOk t (hss kn L)
  dif : (L.map (·.2)).Nodup
  obj : ∀ q ∈ L, kn.is h q.2 q.1
  room : L.length * 5 < t.mask * 3
  few : L.length < 64
  led : w.params.followText "set-order" = true ∨ t.led = true
variable {a : Addr} {L : List (Addr × κ)} {es : Array (Int × Value)} {ep : Nat} {t : SetTable}
/-- the c-th step of the way -/
abbrev stp (t : SetTable) (H : Int) (c : Nat) : SetTable.Probe := nth t.mask (runAt t.mask (SetTable.bits H % (t.mask + 1)) (SetTable.bits H)) c
section
variable (Qt : QuietK kn) (R : OSet kn s.heap a L es ep t) {x : Addr} {k : κ} (hx : kn.is s.heap k x) (hu : kn.room A) {K : Nat} (hf : K < 10 * SetTable.turns t.mask) (hK : way t.mask (kn.hash k) K ∉ t.place.toList)
  (hb : ∀ c, c < K → way t.mask (kn.hash k) c ∈ t.place.toList) {Q : SetFound → Shared → Prop} (hin : k ∈ L.map (·.2) → Q (.there none) s) (hout : k ∉ L.map (·.2) → Q (.free (way t.mask (kn.hash k) K) false) s)
include Qt R hx hu hf hK hb hin hout
end
end
end DL
namespace DL
open PySem PySem.Spec PyProof.Rows L2
variable [TheW]
variable {κ : Type} [DecidableEq κ]
section
variable {P : Program} {w : World} {A : Around} {E : Value → Shared → Prop} {s : Shared} {kn : HeapKind P w κ}
variable {a : Addr} {L : List (Addr × κ)} {es : Array (Int × Value)} {ep : Nat} {t : SetTable}
end
end DL
namespace DL
open PySem PySem.Spec PyProof.Rows L2
variable [TheW]
section
variable {κ : Type} [DecidableEq κ] {P : Program} {w : World} {A : Around} {E : Value → Shared → Prop} {s : Shared} {kn : HeapKind P w κ}
/-- what the set has from the first i -/
structure OGot (all : List (Addr × κ)) (i : Nat) (L : List (Addr × κ)) : Prop where
  sub : ∀ q ∈ L, q ∈ all.take i
  mem : ∀ k, k ∈ L.map (·.2) ↔ k ∈ (all.take i).map (·.2)
  len : L.length ≤ i
def OJ (kn : HeapKind P w κ) (h0 : Heap) (S : Addr) (all : List (Addr × κ)) (i : Nat) (h : Heap) : Prop := (∀ b o, h0.get? b = some o → h.get? b = some o) ∧ ∃ L es ep t, OSet kn h S L es ep t ∧ OGot all i L
end
/-! ### nested keys -/
section
variable {P : Program} {w : World}
abbrev QBool (P : Program) (w : World) (m : Sem Bool) (s : Shared) (bs : List Bool) : Prop := ∀ (A : Around) (E : Value → Shared → Prop) (Q : Bool → Shared → Prop), (∀ b ∈ bs, Q b s) → wpAny (model P w) A m Q E s
end
end DL
namespace DL
open PySem PySem.Spec PyProof.Rows L2
variable [TheW]
/-! ### len(set(tuples)) -/
section
variable {X : Cx} {pins : List (Addr × Obj)} {σ : L2.St} {G H : Hp} {s : Shared}
end
def SzSet (h : Heap) (a : Addr) (n : Nat) : Prop := ∃ o es ep t, h.get? a = some o ∧ o.ExactSet ∧ o.data = .set es ep t ∧ es.size = n ∧ n < 64 ∧ t.fits es.size = true
def SzO (a : Addr) (n : Nat) : HO := .ext fun h => SzSet h a n
def hasN (ks : List NestedKey) (k : NestedKey) : Bool := ks.any fun j => decide (j = k)
def nubN : List NestedKey → List NestedKey
  | [] => []
  | k :: ks => if hasN ks k = true then nubN ks else k :: nubN ks
/-- all of them tuples, not too deep -/
def isTupK : NestedKey → Bool
  | .tup ks => decide (NestedKey.depthAll ks + 1 ≤ 8)
  | _ => false
def setN : List D → Res Nat
  | [.lst ds] => (match nkL ds with
    | some ks => if (ks.all isTupK && decide (ks.length < 64)) = true then .ok (nubN ks).length else .stuck
    | none => .stuck)
  | _ => .stuck
def rSetN (X : Cx) : List V → Hp → VK → Prop := fun xs H Q => ∃ (l : Addr) (vs : List V) (G : Hp) (ds : List D) (ks : List NestedKey), xs = [.ref l] ∧ SqL X.K H l vs ∧ Same G H ∧ RepL X.K G ds vs ∧ nkL ds = some ks ∧ ks.all isTupK = true ∧ ks.length < 64 ∧
  ∀ p, H p = none → Q (.ref p) (upd H p (SzO p (nubN ks).length))
def rsz : RR Nat V := fun _ n v _ H => ∃ a, v = .ref a ∧ H a = some (SzO a n)
def pSetN (fs : P (List D)) : P Nat := fun ρ => (fs ρ).bind setN
def rLenZ : List V → Hp → VK → Prop := fun xs H Q => ∃ a n, xs = [.ref a] ∧ H a = some (SzO a n) ∧ Q (.int (n : Nat)) H
section
variable {c : Ct} {W : WX} {X : Cx} {e : Expr} {es : List Expr} {fs : P (List D)} {pos p p2 pos2 : Pos}
def pLenSetT (fs : P (List D)) : P D := fun ρ => (fs ρ).bind fun ds => (setN ds).bind fun n => .ok (.int (n : Nat))
end
end DL
namespace DL
open PySem PySem.Spec PyProof.Rows L2
variable [TheW]
/-! ### the look at the module -/
/-- a def: where it stands, its name, qualified name, text, keyword-only defaults -/
structure Df where
  at_ : PySem.W.Frag → Addr
  name : Str
  qual : Str
  st : Stmt
  kwd : List (Str × He.Dv) := []
def Df.kws (K : PySem.W.Frag) (d : Df) : List (Str × V) := d.kwd.map fun q => (q.1, q.2.v K)
def Df.val (d : Df) : He.FnW := some (d.name, d.qual, defArgs d.st, .stmts (defBody d.st), defScope d.st, mainGlobals, [], builtinsNs)
def fnAt (K : PySem.W.Frag) (a : Addr) : He.FnW := match K.lookup a with
  | some ⟨_, _, .func fd, _⟩ => some (fd.name, fd.qualname, fd.params, fd.body, fd.scope, fd.globals, fd.closure, fd.builtins)
  | _ => none
def Df.ok (K : PySem.W.Frag) (d : Df) : Bool := PySem.W.keepIn K (.ref (d.at_ K)) && (match K.lookup (d.at_ K) with
  | some ⟨_, _, .func fd, _⟩ => PySem.W.codeIn K fd.code d.qual && (He.dflB K fd.defaults [] && He.kwdB K fd.kwdefaults (d.kws K))
  | _ => false)
theorem Df.funD {K : PySem.W.Frag} {d : Df} (e : fnAt K (d.at_ K) = d.val) (c : d.ok K = true) : ∃ fd, FunD K d.name d.qual (defArgs d.st) (defBody d.st) (defScope d.st) [] (d.kws K) (d.at_ K) fd := by
  obtain ⟨kp, c2⟩ := He.ba c
  unfold fnAt at e
  cases q : K.lookup (d.at_ K) with
  | none => rw [q] at c2; cases c2
  | some o =>
    obtain ⟨oc, od, dt, osl⟩ := o
    rw [q] at c2 e
    cases dt with
    | func fd =>
      obtain ⟨m1, m2, m3, m4, m5, m6, m7, m8, m9, m10, m11, m12, m13, m14, m15⟩ := fd
      have e2 : (some (m1, m2, m3, m4, m5, m6, m7, m15) : He.FnW) = some (d.name, d.qual, defArgs d.st, .stmts (defBody d.st), defScope d.st, mainGlobals, [], builtinsNs) := e
      simp only [Option.some.injEq, Prod.mk.injEq] at e2
      obtain ⟨e1, e2, e3, e4, e5, e6, e7, e8⟩ := e2
      subst e1 e2 e3 e4 e5 e6 e7 e8
      have c3 : (PySem.W.codeIn K m13 d.qual && (He.dflB K m8 [] && He.kwdB K m9 (d.kws K))) = true := c2
      obtain ⟨k1, k2⟩ := He.ba c3
      obtain ⟨k3, k4⟩ := He.ba k2
      exact ⟨_, ⟨oc, od, m8, m9, m10, m11, m12, m13, m14, osl, rfl, q, k1, He.dflB_ok k3, He.kwdB_ok k4⟩, kp⟩
    | _ => cases c2
/-- the property's object and its getter -/
def pA (K : PySem.W.Frag) (C m : Str) : Addr := He.ma K (He.ga K C) m
def pG (K : PySem.W.Frag) (C m : Str) : Addr := match PySem.W.recIn K (pA K C m) "property" with
  | some (.ref g :: _) => g
  | _ => 0
def prB (K : PySem.W.Frag) (C m : Str) : Bool := He.eqO (PySem.W.findIn K (.ref (He.ga K C)) m) (some (some (.ref (pA K C m)))) && (He.eqO (PySem.W.specialIn K (.ref (pA K C m)) "__get__") (some (some (.builtin "property.__get__"))) &&
  (decide (PySem.W.takesIn K (.ref (pA K C m)) = some true) && (match PySem.W.recIn K (pA K C m) "property" with
    | some (.ref _ :: _) => true
    | _ => false)))
/-- a datum that a value of the module is, at once -/
def isB (K : PySem.W.Frag) : D → Value → Bool
  | .non, .none => true
  | .bl b, .bool c => decide (b = c)
  | .int i, .int j _ => decide (i = j)
  | .str x, .str y _ => decide (x = y)
  | _, _ => false
def vOf : D → V
  | .bl b => .bl b
  | .int i => .int i
  | .str x => .str x
  | _ => .non
def isBL (K : PySem.W.Frag) : List D → List Value → Bool
  | [], [] => true
  | d :: ds, u :: us => isB K d u && isBL K ds us
  | _, _ => false
/-- .. a tuple of such too -/
def isT (K : PySem.W.Frag) (d : D) (u : Value) : Bool := match d, u with
  | .tup ds, .ref a => (match K.lookup a with
    | some ⟨.type c, _, .seq its _, _⟩ => decide (c = "tuple") && (decide (its.size ≤ sizeLine) && isBL K ds its.toList)
    | _ => false)
  | d, u => isB K d u
def knB (K : PySem.W.Frag) (x : Str) (d : D) : Bool := match PySem.W.nsIn K mainGlobals x with
  | some (some u) => isT K d u
  | _ => false
def cnB (K : PySem.W.Frag) (C f : Str) (d : D) : Bool := match PySem.W.findIn K (.ref (He.ga K C)) f with
  | some (some u) => isB K d u && He.eqO (PySem.W.specialIn K u "__get__") (some none)
  | _ => false
def emB (K : PySem.W.Frag) : Bool := match K.lookup (gx K "()") with
  | some ⟨.type c, none, .seq its _, _⟩ => decide (c = "tuple") && its.isEmpty
  | _ => false
section
variable {K : PySem.W.Frag} {h : Heap} {mg : Str → Option Value}
end
/-! ### the Hook -/
abbrev AlL : Type := Bool × List He.FnW
def obsL (fa : List He.Fa) (ex : PySem.W.Frag → Bool) (fn : List Df) (K : PySem.W.Frag) : AlL := ((fa.all fun f => f.ok K) && (ex K && fn.all fun d => d.ok K), fn.map fun d => fnAt K (d.at_ K))
def valL (fn : List Df) : AlL := (true, fn.map Df.val)
def SaysL (fa : List He.Fa) (ex : PySem.W.Frag → Bool) (fn : List Df) (K : PySem.W.Frag) : Prop := obsL fa ex fn K = valL fn
def obsLG (n : Nat) (fa : List He.Fa) (ex : PySem.W.Frag → Bool) (fn : List Df) (g : Addr → Option Obj) : AlL := obsL fa ex fn (He.frG g (He.asD g n))
def hookL (n : Nat) (fa : List He.Fa) (ex : PySem.W.Frag → Bool) (fn : List Df) : PySem.W.Hook where
  α := AlL
  obs := fun s => obsLG n fa ex fn s.heap.get?
  val := fun _ => valL fn
  says := fun _ h => ∃ K : PySem.W.Frag, K.In h ∧ SaysL fa ex fn K
  of := fun _ _ e => ⟨_, He.frG_in, e⟩
  keeps := fun _ _ _ ⟨K, hK, c⟩ k => ⟨K, PySem.W.Frag.In.keeps hK k, c⟩
section
variable {fa : List He.Fa} {ex : PySem.W.Frag → Bool} {fn : List Df} {K : PySem.W.Frag} {h : Heap} {mg : Str → Option Value}
theorem SaysL.fact (c : SaysL fa ex fn K) (i : Nat) {f : He.Fa} (e : fa[i]? = some f := by rfl) : f.ok K = true :=
  List.all_eq_true.mp (He.ba (show ((fa.all fun f => f.ok K) && (ex K && fn.all fun d => d.ok K)) = true from congrArg (fun z : AlL => z.1) c)).1 f (List.mem_of_getElem? e)
theorem SaysL.more (c : SaysL fa ex fn K) : ex K = true :=
  (He.ba (He.ba (show ((fa.all fun f => f.ok K) && (ex K && fn.all fun d => d.ok K)) = true from congrArg (fun z : AlL => z.1) c)).2).1
theorem SaysL.df (c : SaysL fa ex fn K) (i : Nat) {d : Df} (e : fn[i]? = some d := by rfl) : ∃ fd, FunD K d.name d.qual (defArgs d.st) (defBody d.st) (defScope d.st) [] (d.kws K) (d.at_ K) fd := by
  have c2 := (He.ba (He.ba (show ((fa.all fun f => f.ok K) && (ex K && fn.all fun d => d.ok K)) = true from congrArg (fun z : AlL => z.1) c)).2).2
  have e1 : fn.map (fun d => fnAt K (d.at_ K)) = fn.map Df.val := congrArg (fun z : AlL => z.2) c
  have e2 : (fn.map fun d => fnAt K (d.at_ K))[i]? = (fn.map Df.val)[i]? := by rw [e1]
  rw [List.getElem?_map, List.getElem?_map, e] at e2
  exact Df.funD (Option.some.inj e2) (List.all_eq_true.mp c2 d (List.mem_of_getElem? e))
end
end DL
namespace DL
open PySem PySem.Spec PyProof.Rows L2
variable [TheW]
/-! ### the script -/
theorem repL_ints {K : PySem.W.Frag} {G : Hp} : ∀ ns : List Int, RepL K G (ns.map D.int) (ns.map V.int)
  | [] => rfl
  | n :: ns => ⟨_, _, rfl, rfl, repL_ints ns⟩
def noT (H : Hp) : Hp := fun b => match H b with
  | some (.tbl _) => none
  | o => o
theorem sp_script {K : PySem.W.Frag} {F : Fd} {H : Hp} {a : Addr} {ns : List Int} {E : XK} (hS : SqL K H a (ns.map V.int)) (hT : ∀ p ∈ TheW.T, H p.1 = some (.tbl #[])) (key : ∃ r, F [.set (ns.map D.int)] = .ok (.bl true) r) : spF K 1 F [.ref a] H (fun v _ => v = .bl true) E := by
  obtain ⟨r, e⟩ := key
  have at_ : ∀ b o, noT H b = some o → H b = some o ∧ NT o = true := fun b o z => by
    unfold noT at z
    split at z
    · cases z
    · rename_i h2
      refine ⟨z, ?_⟩
      cases o with
      | tbl ps => exact absurd z (h2 ps)
      | _ => rfl
  have hG : SqL K (noT H) a (ns.map V.int) := by
    have to : ∀ b o, H b = some o → NT o = true → noT H b = some o := fun b o z n => by
      unfold noT
      split
      · rename_i h2
        rw [h2] at z
        cases z
        cases n
      · exact z
    exact SameT.seq to hS
  refine ⟨noT H, [.set (ns.map D.int)], fun _ => [], rfl, entry_rep (fun b o z => (at_ b o z).1) (fun p hp => ⟨#[], hT p hp, True.intro, fun pos cv hc => ?_⟩) (fun b ps z => by have := (at_ b _ z).2; cases this) ⟨.ref a, [], rfl, ⟨a, _, rfl, hG, repL_ints ns⟩, rfl⟩, ?_⟩
  · have z : codeAmong pos [] = some cv := hc
    simp [codeAmong] at z
  rw [e]
  intro v G' σ' H' hl A
  obtain ⟨_, fp, o, _⟩ := exit_x A
  exact ((ownV_val (d := .bl true) rfl).mp o).1
end DL
namespace DL
open PySem PySem.Spec PyProof.Rows L2
variable [TheW]
/-! ### x or y, x and y by truth -/
def truD : D → Option Bool
  | .non => some false
  | .bl b => some b
  | .int i => some (i != 0)
  | .str x => if x.length ≤ LINE then some ((x.length : Int) != 0) else none
  | .lst ds => some !ds.isEmpty
  | .tup ds => some !ds.isEmpty
  | _ => none
def pOrT (f g : P D) : P D := fun ρ => (f ρ).bind fun d => match truD d with
  | some true => .ok d
  | some false => g ρ
  | none => .stuck
def pAndT (f g : P D) : P D := fun ρ => (f ρ).bind fun d => match truD d with
  | some true => g ρ
  | some false => .ok d
  | none => .stuck
theorem repL_emp {K : PySem.W.Frag} {G : Hp} {ds : List D} {vs : List V} (h : RepL K G ds vs) : vs.isEmpty = ds.isEmpty := by
  cases ds with
  | nil => have h : vs = [] := h; subst h; rfl
  | cons d ds => obtain ⟨v, r, rfl, _⟩ := h; rfl
theorem tru_rep {K : PySem.W.Frag} {G H : Hp} (s : Same G H) {d : D} {v : V} {k : Bool} (h : Rep K G d v) (e : truD d = some k) : TruV K v H k := by
  cases d with
  | non => cases e; have h : v = .non := h; subst h; rfl
  | bl b => cases e; have h : v = .bl k := h; subst h; rfl
  | int i => cases e; have h : v = .int i := h; subst h; rfl
  | str x =>
    have h : v = .str x := h
    subst h
    have e : (if x.length ≤ LINE then some ((x.length : Int) != 0) else none) = some k := e
    split at e
    · rename_i hl
      cases e
      exact ⟨by show x.length ≤ sizeLine; rw [sizeLine_eq]; exact hl, rfl⟩
    · cases e
  | lst ds =>
    obtain ⟨a, vs, rfl, h2, h3⟩ := h
    cases e
    exact .inl ⟨vs, SqL.of (s _ _ h2), by rw [repL_emp h3]⟩
  | tup ds =>
    obtain ⟨a, vs, rfl, h2, h3⟩ := h
    cases e
    exact .inr (.inl ⟨vs, same_seqT s h2, by rw [repL_emp h3]⟩)
  | _ => cases e
section
variable {c : Ct} {W : WX} {X : Cx} {a b : Expr} {rest : List Expr} {f g : P D} {pos : Pos}
theorem dp_andT (ha : DP c W X a f) (hb : DP c W X (.BoolOp .And (b :: rest) pos) g) : DP c W X (.BoolOp .And (a :: b :: rest) pos) (pAndT f g) :=
  PE.imp (pe_andT ha hb) fun σ H Q ⟨G, ρ, A, p⟩ => ⟨G, ρ, A, (PostP.bind p).imp fun x H1 ⟨d, G1, g1, r1, p1⟩ => by
    cases e : truD d with
    | none => rw [e] at p1; exact p1.elim
    | some k =>
      rw [e] at p1
      refine ⟨k, tru_rep g1.s r1 e, ?_⟩
      cases k with
      | true => simp only [if_true]; exact ⟨G1, ρ, A.grow g1, p1⟩
      | false => simp only [Bool.false_eq_true, if_false]; exact p1 _ G1 H1 (.refl g1.s) r1⟩
end
end DL
namespace DL
open PySem PySem.Spec PyProof.Rows L2
variable [TheW]
section
variable {c : Ct} {W : WX} {X : Cx} {e a b : Expr} {pos p p2 pos2 : Pos}
/-! ### x[e], x a new list -/
/-! ### list(range(n)) -/
def rngD : D → Res D
  | .int n => if -(2 ^ 62) ≤ n ∧ n ≤ 16777216 then .ok (.lst ((List.range n.toNat).map fun (i : Nat) => D.int (i : Int))) else .stuck
  | _ => .stuck
def pListRg (f : P D) : P D := fun ρ => (f ρ).bind rngD
/-! ### x, y = a, b by way of the tuple -/
end
end DL
namespace DL
open PySem PySem.Spec PyProof.Rows L2
variable [TheW]
/-! ### list(d.items()), list(d.values()) of a dict that is read -/
def rItR : V → Hp → VK → Prop := fun x H Q => ∃ (d : Addr) (kvs : List (Key × V)), x = .ref d ∧ Rd H d (.dK kvs) ∧
  ∀ (H' : Hp) (q : Addr) (ts : List Addr), Same H H' → H q = none → (∀ t ∈ ts, H t = none) → q ∉ ts → H' q = some (.lst (ts.map V.ref)) → Paired (fun (t : Addr) (z : Key × V) => H' t = some (.tup [kV z.1, z.2])) ts kvs → Q (.ref q) H'
def rVaR : V → Hp → VK → Prop := fun x H Q => ∃ (d : Addr) (kvs : List (Key × V)), x = .ref d ∧ Rd H d (.dK kvs) ∧ ∀ q, H q = none → Q (.ref q) (upd H q (.lst (kvs.map (·.2))))
section
variable {X : Cx} {e : Expr} {te : TE} {p apos cpos pos : Pos}
end
end DL
namespace DL
open PySem PySem.Spec PyProof.Rows L2
variable [TheW]
def itmD : D → Res D
  | .dict kvs => .ok (.lst (kvs.map fun p => .tup [p.1, p.2]))
  | _ => .stuck
def valD : D → Res D
  | .dict kvs => .ok (.lst (kvs.map (·.2)))
  | _ => .stuck
def pItemsL (f : P D) : P D := fun ρ => (f ρ).bind itmD
def pValuesL (f : P D) : P D := fun ρ => (f ρ).bind valD
section
variable {c : Ct} {W : WX} {X : Cx} {e a b : Expr} {f : P D} {pos p apos cpos : Pos}
end
end DL
namespace DL
open PySem PySem.Spec PyProof.Rows L2
variable [TheW]
section
variable {prog : Program} {w : World} {A : Around} {E : Value → Shared → Prop} {s : Shared} {z TI TO i1 i2 T : Addr} {fp1 fp2 : List Addr} {n1 n2 i : Nat} {P1 P2 : Nat → Value → Prop} {St1 St2 : Nat → Heap → Prop} {f : Bool} {oT : Obj}
/-- the tuple that is out is none but those made since -/
def Off (d z TI TO : Addr) (h : Heap) : Prop := ∀ T f, IsZipHeld h z TI TO T f → T ≠ d
end
section
variable {prog : Program} {w : World} {z TI TO i1 i2 : Addr} {fp1 fp2 : List Addr} {n1 n2 : Nat} {P1 P2 : Nat → Value → Prop} {St1 St2 : Nat → Heap → Prop}
end
end DL
namespace DL
open PySem PySem.Spec PyProof.Rows L2
variable [TheW]
def rDictZ (K : PySem.W.Frag) : List V → Hp → VK → Prop := fun vs H Q => ∃ (a b : Addr) (xs ys : List V) (kvs : List (Key × V)), vs = [.ref a, .ref b] ∧ ((SqL K H a xs ∧ SqL K H b ys) ∨ (SqT K H a xs ∧ SqT K H b ys)) ∧ xs.zip ys = kvs.map (fun kv => (kV kv.1, kv.2)) ∧ ∀ p, H p = none → Q (.ref p) (upd H p (.dK (mergeK [] kvs)))
section
variable {X : Cx} {e e2 : Expr} {ta : TA} {p p2 pos pos2 : Pos}
end
/-! ### dict(zip(xs, ys)) as data -/
def pDictZip (fs : P (List D)) : P D := fun ρ => (fs ρ).bind fun vs => (zipD vs).bind fun ds => dictD [.lst ds]
section
variable {c : Ct} {W : WX} {X : Cx} {e e2 : Expr} {fs : P (List D)} {p p2 pos pos2 : Pos}
end
end DL
namespace DL
open PySem PySem.Spec PyProof.Rows L2
variable [TheW]
/-! ### min(a, b) -/
def min2D : List D → Res D
  | [.int i, .int j] => .ok (.int (if j < i then j else i))
  | _ => .stuck
/-! ### and, or as values, by expressions that change owned objects -/
def mOrT (f g : M D) : M D := fun ρ => (f ρ).bind fun d ρ1 => match truD d with
  | some true => .ok d ρ1
  | some false => g ρ1
  | none => .stuck
def mAndT (f g : M D) : M D := fun ρ => (f ρ).bind fun d ρ1 => match truD d with
  | some true => g ρ1
  | some false => .ok d ρ1
  | none => .stuck
section
variable {c : Ct} {W : WX} {X : Cx} {a b e : Expr} {es rest : List Expr} {f g : M D} {fs : M (List D)} {kf : P (List D)} {pos p : Pos} {x : Str} {kws : List Keyword}
/-! ### a new object out of a built-in -/
/-! ### a call with keywords, its positional arguments by such expressions -/
def mCallK (F : Fd) (n m N : Nat) (gD : List D → List D → List D) (fs : M (List D)) (ks : P (List D)) : M D := fun ρ => (fs ρ).bind fun ds ρ1 => ((ks ρ1).bind fun es => if ds.length = n ∧ es.length = m ∧ (gD ds es).length = N then (match F (gD ds es) with
  | .ok r _ => .ok r
  | _ => .stuck) else .stuck).out ρ1
end
end DL
namespace DL
open PySem PySem.Spec PyProof.Rows L2
variable [TheW]
/-! ### x, y = a, b: a by an expression that changes owned objects, b a new object -/
def sParX (n i j : Nat) (f : M D) (g : P D) : S := fun ρ => (f ρ).fl fun d ρ1 => match g ρ1 with
  | .ok e => if (i < ρ1.length ∧ j < ρ1.length) ∧ (n ≤ j ∨ isMut e = false) then .nx ((ρ1.set i (some d)).set j (some e)) else .stuck
  | _ => .stuck
section
variable {c : Ct} {W : WX} {X : Cx} {a b : Expr} {pos : Pos}
/-! ### x, y, .. = a list -/
def sAsgL (ts : List Tgt) (f : M D) : S := fun ρ => (f ρ).fl fun d ρ1 => match d with
  | .lst ds => (match asgL ts ds with
    | some l => .nx (setR ρ1 l)
    | none => .stuck)
  | _ => .stuck
end
end DL
namespace DL
open PySem PySem.Spec PyProof.Rows L2
variable [TheW]
/-! ### enumerate of a tuple -/
section
variable {prog : Program} {w : World} {A : Around} {E : Value → Shared → Prop} {s : Shared}
end
def IteT (K : PySem.W.Frag) (a : Addr) : It :=
  ⟨fun i H => ∃ (xs : List V) (x : V), SqT K H a xs ∧ xs[i]? = some x, fun i H v H' => ∃ T x, v = .ref T ∧ H T = none ∧ H' = upd H T (.tup [.int (i : Nat), x]) ∧ ∀ xs, SqT K H a xs → xs[i]? = some x, fun i H => ∃ xs : List V, SqT K H a xs ∧ xs.length ≤ i⟩
/-- .. of a list or a tuple -/
def iEnumA (K : PySem.W.Frag) (ta : TA) : TI := fun σ H R => ta σ H fun vs H1 => ∃ a xs, vs = [.ref a] ∧ ((SqL K H1 a xs ∧ R (Ite K a) H1) ∨ (SqT K H1 a xs ∧ R (IteT K a) H1))
def enumE : List D → Res (List D)
  | [.lst ds] => .ok (enumF 0 ds)
  | [.tup ds] => .ok (enumF 0 ds)
  | _ => .stuck
def pEnumA (fs : P (List D)) : P (List D) := fun ρ => (fs ρ).bind enumE
section
variable {c : Ct} {W : WX} {X : Cx} {e : Expr} {fs : P (List D)} {pos p tpos : Pos} {elts : List Expr} {kk : Nat}
end
end DL
namespace DL
open PySem PySem.Spec PyProof.Rows L2
variable [TheW]
/-! ### an empty tuple that is a default -/
def emA (K : PySem.W.Frag) (a : Addr) : Bool := match K.lookup a with
  | some ⟨.type c, none, .seq its _, _⟩ => decide (c = "tuple") && its.isEmpty
  | _ => false
end DL
namespace DL
open PySem PySem.Spec PyProof.Rows L2
variable [TheW]
/-! ### sorted of tuples whose later items are lists: each pair is decided ahead of them -/
mutual
def okZ : D → Bool
  | .int _ => true
  | .str _ => true
  | .tup xs => okZL xs
  | .lst xs => okZL xs
  | _ => false
def okZL : List D → Bool
  | [] => true
  | d :: ds => okZ d && okZL ds
end
/-- the first items that differ are ordered -/
def decL : List D → List D → Bool
  | x :: xs, y :: ys => if eqD x y = true then decL xs ys else okO x && okO y && cmpOk x y
  | _, _ => true
def decT : D → D → Bool
  | .tup xs, .tup ys => decL xs ys
  | _, _ => false
def sortOkZ (ds : List D) : Bool := (allTup 0 ds || allTup 1 ds || allTup 2 ds) && ds.all fun x => okZ x && decide (dep x ≤ 60) && ds.all fun y => decT x y
section
variable {X : Cx} {pins : List (Addr × Obj)} {σ : L2.St} {G H : Hp} {s : Shared} {prog : Program} {w : World} {A : Around} {b : Bool} {Q : Bool → Shared → Prop}
end
section
variable {X : Cx} {pins : List (Addr × Obj)} {σ : L2.St} {G H : Hp} {s : Shared} {prog : Program} {w : World} {A : Around}
end
section
variable {X : Cx} {pins : List (Addr × Obj)} {σ : L2.St} {G H : Hp} {s : Shared}
def rSortZ (X : Cx) : List V → Hp → VK → Prop := fun xs H Q => ∃ (G : Hp) (a : Addr) (ds : List D) (vs : List V), xs = [.ref a] ∧ Same G H ∧ SqL X.K H a vs ∧ RepL X.K G ds vs ∧ sortOkZ ds = true ∧ ∀ ws p, RepL X.K G (sortL ds) ws → H p = none → Q (.ref p) (upd H p (.lst ws))
def sortedZ : List D → Res D
  | [.lst ds] => if sortOkZ ds = true then .ok (.lst (sortL ds)) else .stuck
  | _ => .stuck
variable {c : Ct} {W : WX} {e : Expr} {es : List Expr} {fs : P (List D)} {pos p : Pos}
end
end DL
namespace DL
open PySem PySem.Spec PyProof.Rows L2
variable [TheW]
/-! ### zip of two lists walked with a name as the target: the pair that is out may be alive or gone -/
abbrev IsZipG (h : Heap) (z TI TO : Addr) (f0 : Value) (f : Bool) : Prop :=
  h.get? z = some { cls := .type "zip", dict := none, data := .fields #[f0, .bool f, .bool false, .ref TI, .ref TO], slots := #[] }
section
variable {prog : Program} {w : World} {A : Around} {E : Value → Shared → Prop} {s : Shared}
/-- field 0 says: nothing is out, or the tuple T -/
def Out0 (f0 : Value) : Prop := f0 = .none ∨ ∃ T : Addr, f0 = rawInt T
end
def iZipN (K : PySem.W.Frag) (ta : TA) : TI := fun σ H R => ta σ H fun vs H1 => ∃ a b xs ys, vs = [.ref a, .ref b] ∧ SqL K H1 a xs ∧ SqL K H1 b ys ∧ R (Itz K a b) H1
def zipND : List D → Res (List D)
  | [.lst xs, .lst ys] => .ok (zipL xs ys)
  | _ => .stuck
def pZipN (fs : P (List D)) : P (List D) := fun ρ => (fs ρ).bind zipND
section
variable {c : Ct} {W : WX} {X : Cx} {e e2 : Expr} {pos : Pos}
end
end DL
namespace DL
open PySem PySem.Spec PyProof.Rows L2
variable [TheW]
/-! ### dicts whose keys are tuples of any depth: read -/
section
variable {X : Cx} {pins : List (Addr × Obj)} {σ : L2.St} {G H : Hp} {s : Shared}
end
def lookN (kvs : List (D × D)) (k : D) : Option D := (kvs.find? fun kv => decide (nkD kv.1 = nkD k)).map (·.2)
def putN (kvs : List (D × D)) (k d : D) : List (D × D) := if (kvs.any fun p => decide (nkD p.1 = nkD k)) = true then kvs.map (fun p => if nkD p.1 = nkD k then (p.1, d) else p) else kvs ++ [(k, d)]
/-- a key: a tuple of data that may be hashed, not too deep -/
def okN : D → Bool
  | .tup ds => (match nkL ds with
    | some ks => decide (NestedKey.depthAll ks + 1 ≤ 8)
    | none => false)
  | _ => false
section
variable {K : PySem.W.Frag} {G : Hp}
end
/-! ### d[k] -/
def ixNd : D → D → Res D
  | .nd kvs, k => if okN k = true then ofOpt (lookN kvs k) else .stuck
  | _, _ => .stuck
def rIxN (X : Cx) : R2 := fun x y H Q => ∃ (a b : Addr) (G : Hp) (kvs : List (D × D)) (xs : NE) (k d : D) (nk : NestedKey), x = .ref a ∧ y = .ref b ∧ Same G H ∧ H a = some (NdO TheW.w a xs) ∧ RepN X.K G kvs xs.2 ∧ nkD k = some nk ∧ nk.depth ≤ 8 ∧ Rep X.K G k (.ref b) ∧ lookN kvs k = some d ∧ ∀ v, Rep X.K G d v → Q v H
section
variable {c : Ct} {W : WX} {X : Cx} {a b e : Expr} {es : List Expr} {f g : P D} {fs : P (List D)} {pos p p2 : Pos} {x : Str}
end
/-! ### for k in d -/
def ItN (d : Addr) (xs : NE) : It :=
  ⟨fun i H => H d = some (NdO TheW.w d xs) ∧ i < xs.2.length, fun i H x H' => H' = H ∧ ∃ y, xs.2[i]? = some y ∧ x = .ref y.2.1, fun i H => H d = some (NdO TheW.w d xs) ∧ xs.2.length ≤ i⟩
def iNd (te : TE) : TI := fun σ H R => te σ H fun x H1 => ∃ d xs, x = .ref d ∧ H1 d = some (NdO TheW.w d xs) ∧ R (ItN d xs) H1
def iterN : D → Res (List D)
  | .nd kvs => .ok (kvs.map (·.1))
  | _ => .stuck
def pIterN (f : P D) : P (List D) := fun ρ => (f ρ).bind iterN
section
variable {c : Ct} {W : WX} {X : Cx} {tg a b e : Expr} {es : List Expr} {f g : P D} {fs : P (List D)} {pos p p2 : Pos} {x : Str}
end
/-! ### list(d) -/
section
variable {prog : Program} {w : World} {d : Addr} {es : Array DictEntry} {ep : Nat}
end
def rListN : List V → Hp → VK → Prop := fun vs H Q => ∃ (a : Addr) (xs : NE), vs = [.ref a] ∧ H a = some (NdO TheW.w a xs) ∧ xs.2.length ≤ sizeLine ∧ ∀ p, H p = none → Q (.ref p) (upd H p (.lst (xs.2.map fun x => V.ref x.2.1)))
def listN : List D → Res D
  | [.nd kvs] => if kvs.length < LINE then .ok (.lst (kvs.map (·.1))) else .stuck
  | _ => .stuck
section
variable {c : Ct} {W : WX} {X : Cx} {e : Expr} {es : List Expr} {fs : P (List D)} {pos p : Pos}
end
end DL
namespace DL
open PySem PySem.Spec PyProof.Rows L2
variable [TheW]
/-! ### dicts whose keys are tuples of any depth: d[k] = v, comprehensions -/
section
variable {c : Ct} {K : PySem.W.Frag} {G H : Hp} {σ : L2.St} {ρ : Rho}
end
/-- what is asked where y : z is stored in the dict at a -/
def StN (K : PySem.W.Frag) (a : Addr) (y z : V) (H : Hp) (Nx : Hp → Prop) : Prop := ∃ (b : Addr) (G : Hp) (kvs : List (D × D)) (xs : NE) (k : D) (nk : NestedKey), y = .ref b ∧ Same G H ∧ H a = some (NdO TheW.w a xs) ∧ RepN K G kvs xs.2 ∧ nkD k = some nk ∧ nk.depth ≤ 8 ∧ Rep K G k (.ref b) ∧ xs.2.length < sizeLine ∧ ∀ ep u, RelV z u → Nx (upd H a (NdO TheW.w a (ep, storedH xs.2 nk b u)))
section
variable {X : Cx} {pins : List (Addr × Obj)} {σ : L2.St} {H : Hp} {s : Shared} {E : Value → Shared → Prop} {a : Addr} {y z : V} {u r : Value} {Nx : Hp → Prop} {Q : Unit → Shared → Prop}
end
def tDPutN (K : PySem.W.Frag) (td ty tv : TE) : TS := fun D σ H => tv σ H fun v H1 => td σ H1 fun x H2 => ty σ H2 fun y H3 => ∃ a, x = .ref a ∧ StN K a y v H3 (D.nx σ)
def sDPutN (i : Nat) (g : P D) (f : M D) : S := fun ρ => (f ρ).fl fun d ρ1 => match g ρ1 with
  | .ok k => if okN k = true then (match ρ1[i]? with
    | some (some (.mut (.nd kvs))) => if kvs.length < LINE then .nx (ρ1.set i (some (.mut (.nd (putN kvs k d))))) else .stuck
    | _ => .stuck) else .stuck
  | _ => .stuck
section
variable {c : Ct} {W : WX} {X : Cx} {e ke : Expr} {es : List Expr} {f : M D} {g : P D} {fs : M (List D)} {pos p p2 apos cpos : Pos} {x : Str} {K : PySem.W.Frag} {σ : L2.St} {G H : Hp}
end
/-! ### {k: v for ..} -/
def tDcN (K : PySem.W.Frag) (wi : TI) (g : TG) (tt : TT) (tk tv : TE) (vs : List Nat) : TE := fun σ H Q => wi σ H fun J H1 => ∀ D, H1 D = none → ∃ W : Nat → Nat → Hp → Prop, (∃ m, W 0 m (upd H1 D (NdO TheW.w D (0, [])))) ∧ ∀ i m H, W i m H →
  (J.stop i H ∧ Q (.ref D) H) ∨ (J.go i H ∧ ∃ Nx : Hp → Prop, (∀ H', Nx H' → ∃ m', m' < m ∧ W (i + 1) m' H') ∧ ∀ x H', J.yld i H x H' → g x (wipe σ vs) H' fun σ2 H2 => wipe σ2 vs = wipe σ vs ∧ tt σ2 H2 fun b H3 =>
    if b = true then tk σ2 H3 fun y H4 => tv σ2 H4 fun z H5 => StN K D y z H5 Nx else Nx H3)
section
variable {X : Cx}
end
end DL
namespace DL
open PySem PySem.Spec PyProof.Rows L2
variable [TheW]
/-! ### {k: v for ..}, the keys tuples -/
def ditemN (vs : List Nat) (t : Tgt) (tt : P Bool) (tk tv : P D) (ρ : Rho) (d : D) : Res (Option (D × D)) := match asg t d with
  | some l => (match tt (setR (wipeR ρ vs) l) with
    | .ok true => (match tk (setR (wipeR ρ vs) l), tv (setR (wipeR ρ vs) l) with
      | .ok k, .ok v => if okN k = true then .ok (some (k, v)) else .stuck
      | _, _ => .stuck)
    | .ok false => .ok none
    | _ => .stuck)
  | none => .stuck
def mergeN (kvs : List (D × D)) : List (D × D) := kvs.foldl (fun acc p => putN acc p.1 p.2) []
def mkDictN (kvs : List (D × D)) : Res D := if kvs.length ≤ sizeLine then .ok (.nd (mergeN kvs)) else .stuck
def pDCompN (vs : List Nat) (t : Tgt) (src : P (List D)) (tt : P Bool) (tk tv : P D) : P D := fun ρ => (src ρ).bind fun ds => (dcompL (ditemN vs t tt tk tv ρ) ds).bind mkDictN
section
variable {c : Ct} {W : WX} {K : PySem.W.Frag} {G H G1 H1 : Hp} {σ : L2.St} {ρ : Rho} {Q : VK} {vs : List Nat} {t : Tgt} {tt : P Bool} {tk tv : P D} {ds : List D} {J : It}
structure DcN (K : PySem.W.Frag) (G1 H1 : Hp) (Dd : Addr) (g : D → Res (Option (D × D))) (ds : List D) (res : List (D × D)) (i : Nat) (Hc : Hp) : Prop where
  ex : ∃ (Gc : Hp) (xs : NE) (acc rest : List (D × D)), Grow G1 H1 Gc Hc ∧ Hc Dd = some (NdO TheW.w Dd xs) ∧ Gc Dd = none ∧ RepN K Gc (mergeN acc) xs.2 ∧ dcompL g (ds.drop i) = .ok rest ∧ acc ++ rest = res
end
section
variable {c : Ct} {W : WX} {X : Cx} {kx vx tg iter : Expr} {ifs : List Expr} {scope : Scope} {own : List (Str × Nat)} {pos : Pos} {t : Tgt} {src : P (List D)} {tt : P Bool} {tk tv : P D}
end
section
variable {c : Ct} {W : WX} {X : Cx} {kx vx tg iter : Expr} {ifs : List Expr} {scope : Scope} {own : List (Str × Nat)} {pos spos py : Pos} {t : Tgt} {src : P (List D)} {tt : P Bool} {tk tv : P D} {n i : Nat} {x : Str}
end
/-! ### d == e, d != e -/
section
variable {prog : Program} {w : World} {K : Type} [DecidableEq K] (knd : HeapKind prog w K) {A : Around} {E : Value → Shared → Prop} {s : Shared}
inductive NHits (A : Around) (s : Shared) (ys : List (K × Addr × Value)) : List (K × Addr × Value) → Bool → Prop
  | nil : NHits A s ys [] true
  | miss {x : K × Addr × Value} {r : List (K × Addr × Value)} : atKey ys x.1 = none → NHits A s ys (x :: r) false
  | hit {x : K × Addr × Value} {p : Addr × Value} {r : List (K × Addr × Value)} {e b : Bool} : atKey ys x.1 = some p → SeqAt.EqAt A s x.2.2 p.2 e → NHits A s ys r b → NHits A s ys (x :: r) (e && b)
end
/-- the same keys with the same values -/
def sameN (xs ys : List (D × D)) : Bool := xs.all fun p => match lookN ys p.1 with
  | some d => eqD p.2 d
  | none => false
def eqN (xs ys : List (D × D)) : Bool := xs.length == ys.length && sameN xs ys
def simpleN (xs : List (D × D)) : Bool := xs.all fun p => simple p.2 && decide (dep p.2 ≤ 60)
def neN : D → D → Res D
  | .nd xs, .nd ys => if (simpleN xs && simpleN ys) = true then .ok (.bl (!eqN xs ys)) else .stuck
  | _, _ => .stuck
section
variable {X : Cx} {pins : List (Addr × Obj)} {σ : L2.St} {G H : Hp} {s : Shared} {A : Around}
def rNeN (X : Cx) : R2 := fun x y H Q => ∃ (a b : Addr) (G : Hp) (xs ys : List (D × D)) (us vs : NE), x = .ref a ∧ y = .ref b ∧ Same G H ∧ H a = some (NdO TheW.w a us) ∧ H b = some (NdO TheW.w b vs) ∧ RepN X.K G xs us.2 ∧ RepN X.K G ys vs.2 ∧ simpleN xs = true ∧ simpleN ys = true ∧ Q (.bl (!eqN xs ys)) H
end
end DL
namespace DL
open PySem PySem.Spec PyProof.Rows L2
variable [TheW]
/-! ### sorted(set(xs)), the items tuples -/
end DL
namespace DL
open PySem PySem.Spec PyProof.Rows L2
variable [TheW]
/-- the set at a: its objects -/
def NSet (w : World) (h : Heap) (a : Addr) (as : List Addr) : Prop :=
  ∃ o es ep t, h.get? a = some o ∧ o.ExactSet ∧ o.data = .set es ep t ∧ es.toList.map (·.2) = as.map Value.ref ∧ es.size < scanBound ∧ t.fits es.size = true ∧ Ris t.place.toList ∧ (w.params.followText "set-order" = true ∨ t.led = true)
def NSetO (w : World) (a : Addr) (as : List Addr) : HO := .ext fun h => NSet w h a as
def hasD (ds : List D) (d : D) : Bool := ds.any fun e => decide (nkD e = nkD d)
def nubD : List D → List D
  | [] => []
  | d :: ds => if hasD ds d = true then nubD ds else d :: nubD ds
def setNP : List D → Res (List D)
  | [.lst ds] => (match nkL ds with
    | some ks => if (ks.all isTupK && (decide (ks.length < 64) && ds.all okO)) = true then .ok (nubD ds) else .stuck
    | none => .stuck)
  | _ => .stuck
def PsR (K : PySem.W.Frag) (G : Hp) (ps : List (D × Addr)) : Prop := ∀ p ∈ ps, Rep K G p.1 (.ref p.2)
def rSetNP (X : Cx) : List V → Hp → VK → Prop := fun xs H Q => ∃ (l : Addr) (vs : List V) (G : Hp) (ds : List D) (ks : List NestedKey), xs = [.ref l] ∧ SqL X.K H l vs ∧ Same G H ∧ RepL X.K G ds vs ∧ nkL ds = some ks ∧ ks.all isTupK = true ∧ ks.length < 64 ∧ (∀ x ∈ ds, ∀ y ∈ ds, nkD x = nkD y → x = y) ∧
  ∀ p ps, H p = none → PsR X.K G ps → (ps.map (·.1)).Perm (nubD ds) → Q (.ref p) (upd H p (NSetO X.w p (ps.map (·.2))))
def rSortN (X : Cx) : List V → Hp → VK → Prop := fun xs H Q => ∃ (a : Addr) (G : Hp) (ps : List (D × Addr)), xs = [.ref a] ∧ Same G H ∧ H a = some (NSetO X.w a (ps.map (·.2))) ∧ PsR X.K G ps ∧ sortOk (ps.map (·.1)) = true ∧ ps.length ≤ 1000 ∧ ∀ ws p, RepL X.K G (sortL (ps.map (·.1))) ws → H p = none → Q (.ref p) (upd H p (.lst ws))
def rnp (K : PySem.W.Frag) (w : World) : RR (List D) V := fun _ ds v G H => ∃ a ps, v = .ref a ∧ H a = some (NSetO w a (ps.map (·.2))) ∧ PsR K G ps ∧ (ps.map (·.1)).Perm ds
def pSetNP (fs : P (List D)) : P (List D) := fun ρ => (fs ρ).bind setNP
def sortNs (ds : List D) : Res D := if sortOk ds = true then (if ds.length ≤ 1000 then .ok (.lst (sortL ds)) else .stuck) else .stuck
def pSortSetN (f : P (List D)) : P D := fun ρ => (f ρ).bind sortNs
section
variable {c : Ct} {W : WX} {X : Cx} {e : Expr} {es : List Expr} {fs : P (List D)} {f : P (List D)} {pos p p2 pos2 : Pos}
end
end DL
namespace DL
open PySem PySem.Spec PyProof.Rows L2
variable [TheW]
/-! ### e[:k], k drawn; xs[::-1]; xs[i] = v -/
def sliceTo (x : D) : D → Res D
  | .int i => sliceD x none (some i)
  | _ => .stuck
def mSliceU (f g : M D) : M D := fun ρ => (f ρ).bind fun x ρ1 => (g ρ1).bind fun d ρ2 => (sliceTo x d).out ρ2
section
variable {c : Ct} {W : WX} {X : Cx} {e k : Expr} {f g : M D} {pos p2 : Pos}
end
def revD : D → Res D
  | .lst ds => .ok (.lst ds.reverse)
  | _ => .stuck
def pRevL (f : P D) : P D := fun ρ => (f ρ).bind revD
section
variable {c : Ct} {W : WX} {X : Cx} {e : Expr} {f : P D} {k : Nat} {p1 p2 p3 pos : Pos}
end
section
variable {prog : Program} {w : World} {A : Around} {E : Value → Shared → Prop} {s : Shared}
end
def tLPut (td ty tv : TE) : TS := fun D σ H => tv σ H fun v H1 => td σ H1 fun x H2 => ty σ H2 fun y H3 => ∃ (a : Addr) (vs : List V) (j : Nat), x = .ref a ∧ y = .int (j : Nat) ∧ H3 a = some (.lst vs) ∧ j < vs.length ∧ D.nx σ (upd H3 a (.lst (vs.set j v)))
def sLPut (i : Nat) (g : P D) (f : M D) : S := fun ρ => (f ρ).fl fun d ρ1 => match g ρ1 with
  | .ok (.int j) => (match ρ1[i]? with
    | some (some (.mut (.lst ds))) => if 0 ≤ j ∧ j < ds.length ∧ noMutL ds = true ∧ isMut d = false then .nx (ρ1.set i (some (.mut (.lst (ds.set j.toNat d))))) else .stuck
    | _ => .stuck)
  | _ => .stuck
section
variable {c : Ct} {W : WX} {X : Cx} {e ke : Expr} {f : M D} {g : P D} {pos p p2 : Pos} {x : Str}
end
end DL
namespace DL
open PySem PySem.Spec PyProof.Rows L2
variable [TheW]
/-! ### len of the script -/
def lenXD : List D → Res D
  | [.set ds] => .ok (.int ds.length)
  | xs => lenD xs
end DL
namespace DL
open PySem PySem.Spec PyProof.Rows L2
variable [TheW]
/-! ### xs == [], whatever the list holds -/
def eqNil (x y : D) : Res D := match x, y with
  | .lst ds, .lst [] => .ok (.bl ds.isEmpty)
  | _, _ => .stuck
def neNil (x y : D) : Res D := match x, y with
  | .lst ds, .lst [] => .ok (.bl !ds.isEmpty)
  | _, _ => .stuck
def rNil (neg : Bool) : R2 := fun x y H Q => ∃ a b vs, x = .ref a ∧ y = .ref b ∧ H a = some (.lst vs) ∧ H b = some (.lst []) ∧ Q (.bl (if neg = true then !vs.isEmpty else vs.isEmpty)) H
section
variable {X : Cx}
end
end DL
namespace DL
open PySem PySem.Spec PyProof.Rows L2
variable [TheW]
/-! ### list(zip(a, b)) and d.get(k, x), a part of them drawn -/
def zipLD (ds : List D) : Res D := (zipD ds).bind fun zs => .ok (.lst zs)
def rZipL (K : PySem.W.Frag) : List V → Hp → VK → Prop := fun vs H1 Q => ∃ a b xs ys, vs = [.ref a, .ref b] ∧ ((SqL K H1 a xs ∧ SqL K H1 b ys) ∨ (SqT K H1 a xs ∧ SqT K H1 b ys)) ∧
  ∀ (ts : List Addr) (p : Addr), (∀ t ∈ ts, H1 t = none) → ts.Nodup → ts.length = (xs.zip ys).length → p ∉ ts → H1 p = none → Q (.ref p) (upd (putP H1 ts (xs.zip ys)) p (.lst (ts.map V.ref)))
section
variable {c : Ct} {W : WX} {X : Cx} {e e2 o : Expr} {f g : P D} {h : M D} {fs : M (List D)} {pos p p2 pos2 apos cpos : Pos}
def mGet2 (f g : P D) (h : M D) : M D := fun ρ => match f ρ with
  | .ok (.dict kvs) => (match g ρ with
    | .ok k => (h ρ).bind fun x ρ1 => (getD2 kvs k x).out ρ1
    | _ => .stuck)
  | _ => .stuck
end
end DL
namespace DL
open PySem PySem.Spec PyProof.Rows L2
variable [TheW]
/-! ### a slot's objects set apart: meanwhile they stand as the caller's -/
section
variable {K : PySem.W.Frag} {c : Ct} {G G1 H H1 H2 : Hp} {σ : L2.St} {ρ : Rho} {F F' : List Addr} {i : Nat} {d : D} {v : V}
open Classical in
noncomputable def Ct.hold (c : Ct) (H : Hp) (F : List Addr) : Ct := { c with H0 := fun a => if a ∈ F then H a else c.H0 a, F0 := fun j => (c.F0 j).filter fun a => decide (a ∉ F) }
end
end DL
namespace DL
open PySem PySem.Spec PyProof.Rows L2
variable [TheW]
/-! ### two names for dicts within a dict of one's own: u, w = d['y'], d['x']; u[k] = e; w[k] = e -/
section
variable {K : PySem.W.Frag} {c : Ct} {G H : Hp} {σ : L2.St} {ρ : Rho}
end
section
variable {c : Ct} {W : WX} {X : Cx} {e ke : Expr} {f : M D} {g : P D} {x : Str} {p p2 pos : Pos} {G H : Hp} {σ : L2.St} {ρ ρ1 : Rho} {E : Ends}
def tMx (K : PySem.W.Frag) (n : Nat) (W : WX) (f : M D) : TE := fun σ H Q => ∃ c' : Ct, c'.ar.length = n ∧ tM K c' W (rv K) f σ H Q
def tPx (K : PySem.W.Frag) (n : Nat) (W : WX) (f : P D) : TE := fun σ H Q => ∃ c' : Ct, c'.ar.length = n ∧ tP K c' W (rv K) f σ H Q
end
def sAl (n i p q : Nat) (x y : Str) (k1 : P D) (f1 : M D) (k2 : P D) (f2 : M D) : S := fun ρ => match ρ[i]? with
  | some (some (.mut (.dict kvs))) => (match lookD kvs (.inr y), lookD kvs (.inr x) with
    | some (.mut (.dict C)), some _ => if ((n ≤ i ∧ n ≤ p ∧ n ≤ q) ∧ (i ≠ p ∧ i ≠ q ∧ p ≠ q)) ∧ p < ρ.length ∧ q < ρ.length then
      (match f1 (((ρ.set p none).set q none).set i none) with
      | .ok v1 ρ1 => (match k1 ρ1 with
        | .ok d1 => (match keyOf d1 with
          | some _ => if ρ1.getD i none = none ∧ i < ρ1.length ∧ C.length < LINE then
            (match lookD (updK kvs (.inr y) (.mut (.dict (putKD C d1 v1)))) (.inr x) with
            | some (.mut (.dict P)) => (match f2 (ρ1.set i none) with
              | .ok v2 ρ2 => (match k2 ρ2 with
                | .ok d2 => (match keyOf d2 with
                  | some _ => if ρ2.getD i none = none ∧ i < ρ2.length ∧ P.length < LINE then .nx (ρ2.set i (some (.mut (.dict (updK (updK kvs (.inr y) (.mut (.dict (putKD C d1 v1)))) (.inr x) (.mut (.dict (putKD P d2 v2)))))))) else .stuck
                  | none => .stuck)
                | _ => .stuck)
              | _ => .stuck)
            | _ => .stuck) else .stuck
          | none => .stuck)
        | _ => .stuck)
      | _ => .stuck) else .stuck
    | _, _ => .stuck)
  | _ => .stuck
section
variable {c : Ct} {W : WX} {X : Cx} {e1 e2 ke1 ke2 : Expr} {f1 f2 : M D} {k1 k2 : P D} {u w z x y : Str} {rest : List Stmt} {t : S} {pu pw pt pd1 pd2 pc1 pc2 ps1 ps2 pt2 q1 q2 q3 q4 pos1 pos2 pos3 : Pos} {n i p q : Nat} {kt kt2 ck1 ck2}
end
end DL
namespace DL
open PySem PySem.Spec PyProof.Rows L2
variable [TheW]
/-! ### {k1: e1, k2: e2} with new objects of its own; x, y, z = a, b, c, drawn -/
def pDispO2 (k1 k2 : Str) (f1 f2 : P D) : P D := fun ρ => (f1 ρ).bind fun d => (f2 ρ).bind fun e => if k1 ≠ k2 then .ok (.dict [(.str k1, .mut d), (.str k2, .mut e)]) else .stuck
def sParM3 (i j l : Nat) (f g h : M D) : S := fun ρ => (f ρ).fl fun d ρ1 => (g ρ1).fl fun e ρ2 => (h ρ2).fl fun m ρ3 => .nx (((ρ3.set i (some d)).set j (some e)).set l (some m))
section
variable {c : Ct} {W : WX} {X : Cx} {e1 e2 : Expr} {f1 f2 : P D} {k1 k2 : Str} {p1 p2 pos : Pos} {t1 t2 : Tok}
end
section
variable {c : Ct} {W : WX} {X : Cx} {a b d : Expr} {f g h : M D} {x y z : Str} {pos px py pz pt : Pos} {kt k2 pt2} {i j l : Nat}
end
end DL
/-! DL89: `for` and `if` within a generator's body. -/
namespace DL
open PySem PySem.Spec PyProof.Rows L2 GenW
section
variable {M : Model} {A : Around} {R : GenEnd} {Y : Protocol} {n : Nat} {s₀ : Shared} {c : Code} {fs : List Frame} {s : Shared} {env : Env}
  {K : Flow → Sem PySem.Fin} {H : Value → Sem PySem.Fin} {gd : Bool → Bool} {lv : List Value → List Value}
end
section
variable {prog : Program} {w : World} {A : Around} {R : GenEnd} {Y : Protocol} {n : Nat} {s₀ : Shared} {fs : List Frame} {s : Shared} {env : Env}
abbrev HX (env : Env) (e : Value) : Sem PySem.Fin := (do noteFrame e env; theTreesLotGoes e : Sem Unit).wrap (fun _ => .raise e) .raise id id
end
section
variable {X : Cx} {tg : Expr}
/-- if, within a generator -/
def tGIf (c : TT) (t u : TGn) : TGn := fun D ys σ H => c σ H fun b H1 => if b = true then t D ys σ H1 else u D ys σ H1
/-- for, within a generator -/
def tGFor (wi : TI) (g : TG) (tb : TGn) : TGn := fun D ys σ H => wi σ H fun J H1 => ∃ W : Nat → Nat → List V → L2.St → Hp → Prop, (∃ m, W 0 m ys σ H1) ∧ ∀ i m ys σ H, W i m ys σ H →
  (J.stop i H ∧ D.nx ys σ H) ∨ (J.go i H ∧ ∃ N : List V → L2.St → Hp → Prop, (∀ ys' σ' H', N ys' σ' H' → ∃ m', m' < m ∧ W (i + 1) m' ys' σ' H') ∧ ∀ x H', J.yld i H x H' → g x σ H' fun σ2 H2 => tb { D with nx := N, ct := N, bk := D.nx } ys σ2 H2)
end
end DL
/-! DL90: generator defs as data: what they hand out, one behind another. -/
namespace DL
open PySem PySem.Spec PyProof.Rows L2 GenW
variable [TheW]
section
variable {X : Cx} {S : Addr} {ip : List (Addr × Obj)} {ys : List V} {σ : L2.St} {H : Hp} {s : Shared}
end
/-! ### the denotation of a generator's statements -/
inductive FlG where
  | nx (ds : List D) (ρ : Rho) | stuck
abbrev SG := List D → Rho → FlG
def PostG (K : PySem.W.Frag) (c : Ct) (D0 : GEnds) (G : Hp) : FlG → Prop
  | .nx ds ρ' => ∀ G' σ' H' ys, Same G G' → At K c G' σ' H' ρ' → RepL K G' ds ys → D0.nx ys σ' H'
  | .stuck => False
def tSG (K : PySem.W.Frag) (c : Ct) (s : SG) : TGn := fun D0 ys σ H => ∃ G ρ ds, At K c G σ H ρ ∧ RepL K G ds ys ∧ PostG K c D0 G (s ds ρ)
abbrev DG (c : Ct) (X : Cx) (st : Stmt) (s : SG) : Prop := GS X st (tSG X.K c s)
abbrev DGs (c : Ct) (X : Cx) (st : List Stmt) (s : SG) : Prop := GSs X st (tSG X.K c s)
def gPl (s : S) : SG := fun ds ρ => match s ρ with
  | .nx ρ' => .nx ds ρ'
  | _ => .stuck
def gNext : SG := fun ds ρ => .nx ds ρ
def gSeq (a b : SG) : SG := fun ds ρ => match a ds ρ with
  | .nx ds' ρ' => b ds' ρ'
  | .stuck => .stuck
def gIf (t : M Bool) (a b : SG) : SG := fun ds ρ => match t ρ with
  | .ok true ρ1 => a ds ρ1
  | .ok false ρ1 => b ds ρ1
  | _ => .stuck
def gYield (f : M D) : SG := fun ds ρ => match f ρ with
  | .ok d ρ1 => if ds.length < LINE then .nx (ds ++ [d]) ρ1 else .stuck
  | _ => .stuck
def loopG (t : Tgt) (b : SG) : List D → SG
  | [], ds, ρ => .nx ds ρ
  | d :: l, ds, ρ => match asg t d with
    | some u => (match b ds (setR ρ u) with
      | .nx ds' ρ' => loopG t b l ds' ρ'
      | .stuck => .stuck)
    | none => .stuck
def gFor (src : M (List D)) (t : Tgt) (b : SG) : SG := fun ds ρ => match src ρ with
  | .ok l ρ' => loopG t b l ds ρ'
  | _ => .stuck
section
variable {c : Ct} {X : Cx} {e : Expr} {st : Stmt} {rest : List Stmt} {s a b : SG} {pos yp : Pos}
end
end DL
/-! DL91: generator defs: what they promise; list(f(.., k = v)). -/
namespace DL
open PySem PySem.Spec PyProof.Rows L2 GenW
variable [TheW]
def gF (m : Nat) (s : SG) : Fd := fun ds => match s [] (ds.map some ++ List.replicate (m - ds.length) none) with
  | .nx out ρ => .ok (.mut (.lst out)) ρ
  | .stuck => .stuck
def spG (K : PySem.W.Frag) (n : Nat) (F : Fd) : SpG := fun vs H Q _ => ∃ G ds, ds.length = n ∧ (Same G H ∧ Tabs G H ∧ NTG G) ∧ RepL K G ds vs ∧ match F ds with
  | .ok (.mut (.lst out)) _ => ∀ outs G' H', Grow G H G' H' → RepL K G' out outs → Q outs H'
  | _ => False
section
variable {P : Program} {w : World} {K : PySem.W.Frag} {mg : Str → Option Value} {base : Heap} {x qual : Str} {params : Arguments} {body : List Stmt} {scope : Scope} {dvs : List V} {kws : List (Str × V)} {f : Addr} {fd : FuncData}
abbrev GX (P : Program) (w : World) (K : PySem.W.Frag) (mg : Str → Option Value) (base : Heap) (N : List Str) (qual : Str) (scope : Scope) (f : Addr) (cdv : Value) (A : Around) (outer : List Env) (s : Shared) (H : Hp) (E : XK) (pn : List (Addr × Obj)) : Cx := (gcxOf P w K mg base N qual scope f cdv A outer s H E pn).nox
end
/-! ### the call -/
def tCallGN (n m : Nat) (sp : SpG) (gV : List V → List V → List V) (E : XK) (t tk : TA) : TGen := fun σ H cont => t σ H fun vs H1 => tk σ H1 fun zs H2 => vs.length = n ∧ zs.length = m ∧ sp (gV vs zs) H2 cont E
section
variable {X : Cx} {k n : Nat} {f : Addr} {fd : FuncData} {ps ks : List Str} {sp : SpG} {E : XK} {x : Str} {p pos : Pos} {e : Expr} {es : List Expr} {kws : List Keyword} {t tk : TA} {g : List Value → List Value → List Value} {gV : List V → List V → List V}
end
/-- a generator def with keyword-only defaults: its promise at calls with n positional values and keywords ks -/
structure CallG (P : Program) (w : World) (K : PySem.W.Frag) (mg : Str → Option Value) (base : Heap) (k : Nat) (x : Str) (ps : List Str) (F : Fd) (n : Nat) (ks : List Str) (gD : List D → List D → List D) : Prop where
  ex : ∃ fd g gV, GFn P w K mg base k (He.ga K x) fd ps (spG K ps.length F) ∧ KBn K fd ps n ks g gV ∧ ∀ (G : Hp) (ds es : List D) (vs zs : List V), ds.length = n → es.length = ks.length → RepL K G ds vs → RepL K G es zs → RepL K G (gD ds es) (gV vs zs)
  m : mg x = some (.ref (He.ga K x))
  kp : PySem.W.keepIn K (.ref (He.ga K x)) = true
  form : ∀ ds, (∃ out ρ, F ds = .ok (.mut (.lst out)) ρ) ∨ F ds = .stuck
section
variable {c : Ct} {W : WX} {X : Cx} {e : Expr} {es : List Expr} {kws : List Keyword} {fs kf : P (List D)} {pos p p2 pos2 : Pos} {x : Str}
end
end DL
/-! DL92: generator defs with keyword-only defaults, by name. -/
namespace DL
open PySem PySem.Spec PyProof.Rows L2 GenW
variable [TheW]
structure GnO (P : Program) (w : World) (K : PySem.W.Frag) (mg : Str → Option Value) (base : Heap) (k : Nat) (x : Str) (st : Stmt) (ps : List Str) (F : Fd) (kws : List (Str × D)) : Prop where
  ex : ∃ fd kv, FunD K x x (defArgs st) (defBody st) (defScope st) [] kv (He.ga K x) fd ∧ kv.map (·.1) = kws.map (·.1) ∧ (∀ G, RepL K G (kws.map (·.2)) (kv.map (·.2))) ∧ GFn P w K mg base k (He.ga K x) fd ps (spG K ps.length F)
  m : mg x = some (.ref (He.ga K x))
  form : ∀ ds, (∃ out ρ, F ds = .ok (.mut (.lst out)) ρ) ∨ F ds = .stuck
section
variable {P : Program} {w : World} {K : PySem.W.Frag} {mg : Str → Option Value} {base : Heap} {k : Nat} {x : Str} {st : Stmt} {ps N : List Str} {F : Fd} {kws : List (Str × D)}
end
section
variable {c : Ct} {W : WX} {X : Cx} {e : Expr} {es : List Expr} {kws : List Keyword} {fs kf : P (List D)} {pos p p2 pos2 : Pos} {x : Str}
end
end DL
/-! DL93: dict(xs) of pairs whose keys are tuples of any depth. -/
namespace DL
open PySem PySem.Spec PyProof.Rows L2
variable [TheW]
def pairsN : List D → Option (List (D × D))
  | [] => some []
  | .tup [k, d] :: ds => if okN k = true then (pairsN ds).map ((k, d) :: ·) else none
  | _ :: _ => none
def dictN : List D → Res D
  | [.lst ds] => (match pairsN ds with
    | some kvs => .ok (.nd (mergeN kvs))
    | none => .stuck)
  | _ => .stuck
def rDictN (K : PySem.W.Frag) : List V → Hp → VK → Prop := fun xs H Q => ∃ (G : Hp) (a : Addr) (us : List V) (es : List D) (kvs : List (D × D)), xs = [.ref a] ∧ SqL K H a us ∧ Same G H ∧ RepL K G es us ∧ pairsN es = some kvs ∧ ∀ p ep ys, H p = none → RepN K G (mergeN kvs) ys → Q (.ref p) (upd H p (NdO TheW.w p (ep, ys)))
section
variable {X : Cx} {pins : List (Addr × Obj)} {σ : L2.St} {H G : Hp} {s : Shared}
end
section
variable {c : Ct} {W : WX} {X : Cx} {e : Expr} {es : List Expr} {fs : P (List D)} {pos p : Pos}
end
end DL
/-! DL94: x != y, equal lists, tuples and dicts of any depth. -/
namespace DL
open PySem PySem.Spec PyProof.Rows L2 PySem.SeqAt
open AutoSeq1 (wpAny_loadPart')
open MeetsSeq MeetsSeq2 MeetsSeq3 SeqRoads2
section
variable {prog : Program} {w : World}
end
end DL
/-! DL95: x != y of such data. -/
namespace DL
open PySem PySem.Spec PyProof.Rows L2 PySem.SeqAt
section
variable {prog : Program} {w : World}
end
/-- lists, tuples and dicts of equal parts -/
def EqRd (H : Hp) (E : V → V → Prop) (x y : V) : Prop := ∃ a b ks ls, x = .ref a ∧ y = .ref b ∧ Rd H a (.dK ks) ∧ Rd H b (.dK ls) ∧ ks.length = ls.length ∧ ∀ p ∈ ks, ∃ u, valV ls p.1 = some u ∧ E p.2 u
def EqR2 (K : PySem.W.Frag) (H : Hp) (E : V → V → Prop) (x y : V) : Prop := (EqR K H E x y ∨ EqRd H E x y) ∨ ∃ a b xs ys, x = .ref a ∧ y = .ref b ∧ SqT K H a xs ∧ SqT K H b ys ∧ Paired E xs ys
def EqW (K : PySem.W.Frag) (H : Hp) : Nat → V → V → Prop
  | 0 => fun _ _ => False
  | n + 1 => fun x y => (x = y ∧ flatB x = true) ∨ EqR2 K H (EqW K H n) x y
section
variable {X : Cx} {pins : List (Addr × Obj)} {σ : L2.St} {H : Hp} {s : Shared}
/-- two lists or two tuples -/
def SqR (K : PySem.W.Frag) (H : Hp) (E : V → V → Prop) (x y : V) : Prop := (∃ a b xs ys, x = .ref a ∧ y = .ref b ∧ SqL K H a xs ∧ SqL K H b ys ∧ Paired E xs ys) ∨ ∃ a b xs ys, x = .ref a ∧ y = .ref b ∧ SqT K H a xs ∧ SqT K H b ys ∧ Paired E xs ys
def rNeW (K : PySem.W.Frag) : R2 := fun x y H Q => ∃ n, n ≤ 60 ∧ SqR K H (EqW K H n) x y ∧ Q (.bl false) H
end
/-! ### by data -/
mutual
def eqQ : D → D → Bool
  | .non, .non => true
  | .bl a, .bl b => a == b
  | .int a, .int b => decide (a = b)
  | .str a, .str b => decide (a = b)
  | .tup xs, .tup ys => eqQL xs ys
  | .lst xs, .lst ys => eqQL xs ys
  | .dict ks, .dict ls => decide (ks.length = ls.length) && eqQK ks ls
  | _, _ => false
def eqQL : List D → List D → Bool
  | [], [] => true
  | x :: xs, y :: ys => eqQ x y && eqQL xs ys
  | _, _ => false
def eqQK : List (D × D) → List (D × D) → Bool
  | [], _ => true
  | (k, d) :: ks, ls => (match keyOf k with
    | some j => (match lookD ls j with
      | some e => eqQ d e
      | none => false)
    | none => false) && eqQK ks ls
end
mutual
def depQ : D → Nat
  | .tup xs => depQL xs + 1
  | .lst xs => depQL xs + 1
  | .dict ks => depQK ks + 1
  | _ => 0
def depQL : List D → Nat
  | [] => 0
  | d :: ds => max (depQ d) (depQL ds)
def depQK : List (D × D) → Nat
  | [] => 0
  | (_, d) :: ds => max (depQ d) (depQK ds)
end
variable [TheW]
section
variable {K : PySem.W.Frag} {G H : Hp}
end
/-- x != y where they are equal -/
def neW : D → D → Res D
  | .lst xs, .lst ys => if (eqQL xs ys && decide (depQL xs < 60)) = true then .ok (.bl false) else .stuck
  | .tup xs, .tup ys => if (eqQL xs ys && decide (depQL xs < 60)) = true then .ok (.bl false) else .stuck
  | _, _ => .stuck
end DL
namespace DL
open PySem PySem.Spec PyProof.Rows L2
variable [TheW]
/-! ### repr of data; xs.count(x) -/
mutual
def pyD : D → Option PyData
  | .non => some .none
  | .bl b => some (.bool b)
  | .int i => some (.int i)
  | .str x => some (.str x)
  | .tup ds => (pyDL ds).map PyData.tuple
  | .lst ds => (pyDL ds).map PyData.list
  | _ => none
def pyDL : List D → Option (List PyData)
  | [] => some []
  | d :: ds => (pyD d).bind fun p => (pyDL ds).map fun ps => p :: ps
end
section
variable {K : PySem.W.Frag} {G H : Hp}
mutual
theorem dp_of (s : Same G H) : ∀ (d : D) {v : V} {p : PyData}, pyD d = some p → Rep K G d v → Dp K H v p
  | .non, _, _, e, h => by cases e; cases h; exact .non
  | .bl b, _, _, e, h => by cases e; cases h; exact .bl b
  | .int i, _, _, e, h => by cases e; cases h; exact .int i
  | .str x, _, _, e, h => by cases e; cases h; exact .str x
  | .tup ds, _, _, e, ⟨a, vs, h1, h2, h3⟩ => by
    obtain ⟨ps, e1, e2⟩ := Option.map_eq_some_iff.mp (show (pyDL ds).map PyData.tuple = some _ from e)
    subst e2 h1
    exact .tup (same_seqT s h2) (dp_ofL s ds e1 h3)
  | .lst ds, _, _, e, ⟨a, vs, h1, h2, h3⟩ => by
    obtain ⟨ps, e1, e2⟩ := Option.map_eq_some_iff.mp (show (pyDL ds).map PyData.list = some _ from e)
    subst e2 h1
    exact .lst (SqL.of (s _ _ h2)) (dp_ofL s ds e1 h3)
  | .dict _, _, _, e, _ => by cases e
  | .set _, _, _, e, _ => by cases e
  | .ins _ _, _, _, e, _ => by cases e
  | .ty _, _, _, e, _ => by cases e
  | .glo _, _, _, e, _ => by cases e
  | .mut _, _, _, e, _ => by cases e
  | .nd _, _, _, e, _ => by cases e
  | .exc _ _, _, _, e, _ => by cases e
theorem dp_ofL (s : Same G H) : ∀ (ds : List D) {vs : List V} {ps : List PyData}, pyDL ds = some ps → RepL K G ds vs → DpAll K H vs ps
  | [], _, _, e, h => by
    have h : _ = [] := h
    subst h
    cases e
    exact .nil
  | d :: ds, _, _, e, ⟨v, r, h1, h2, h3⟩ => by
    subst h1
    obtain ⟨p, e1, e2⟩ := Option.bind_eq_some_iff.mp (show ((pyD d).bind fun p => (pyDL ds).map fun ps => p :: ps) = some _ from e)
    obtain ⟨ps, e3, e4⟩ := Option.map_eq_some_iff.mp e2
    subst e4
    exact .cons (dp_of s d e1 h2) (dp_ofL s ds e3 h3)
end
theorem rdO_dp (s : Same G H) {d : D} {v : V} {p : PyData} (e : pyD d = some p) (h : RdO K G H d v) : Dp K H v p := by
  cases d with
  | lst ds =>
    obtain ⟨a, vs, h1, h2, h3⟩ := h
    obtain ⟨ps, e1, e2⟩ := Option.map_eq_some_iff.mp (show (pyDL ds).map PyData.list = some _ from e)
    subst e2 h1
    exact .lst (SqL.of h2) (dp_ofL s ds e1 h3)
  | dict ds => cases e
  | nd ds => cases e
  | exc C fs => cases e
  | _ => exact dp_of s _ e h
end
mutual
theorem pyD_noDict : ∀ (d : D) {p : PyData}, pyD d = some p → p.hasDict = false
  | .non, _, e => by cases e; rfl
  | .bl b, _, e => by cases e; rfl
  | .int i, _, e => by cases e; rfl
  | .str x, _, e => by cases e; rfl
  | .tup ds, _, e => by
    obtain ⟨ps, e1, e2⟩ := Option.map_eq_some_iff.mp (show (pyDL ds).map PyData.tuple = some _ from e)
    subst e2
    exact pyDL_noDict ds e1
  | .lst ds, _, e => by
    obtain ⟨ps, e1, e2⟩ := Option.map_eq_some_iff.mp (show (pyDL ds).map PyData.list = some _ from e)
    subst e2
    exact pyDL_noDict ds e1
  | .dict _, _, e => by cases e
  | .set _, _, e => by cases e
  | .ins _ _, _, e => by cases e
  | .ty _, _, e => by cases e
  | .glo _, _, e => by cases e
  | .mut _, _, e => by cases e
  | .nd _, _, e => by cases e
  | .exc _ _, _, e => by cases e
theorem pyDL_noDict : ∀ (ds : List D) {ps : List PyData}, pyDL ds = some ps → PyData.hasDictAll ps = false
  | [], _, e => by cases e; rfl
  | d :: ds, _, e => by
    obtain ⟨p, e1, e2⟩ := Option.bind_eq_some_iff.mp (show ((pyD d).bind fun p => (pyDL ds).map fun ps => p :: ps) = some _ from e)
    obtain ⟨ps, e3, e4⟩ := Option.map_eq_some_iff.mp e2
    subst e4
    simp only [PyData.hasDictAll, pyD_noDict d e1, pyDL_noDict ds e3, Bool.or_self]
end
def reprOk (p : PyData) : Bool := p.showable && decide (p.depth ≤ 60) && decide (p.shown.length ≤ LINE)
def reprD : List D → Res D
  | [d] => (match pyD d with
    | some p => if reprOk p = true then .ok (.str p.shown) else .stuck
    | none => .stuck)
  | _ => .stuck
theorem reprD_quiet : QuietL reprD := fun x z fs h => by
  unfold reprD at h
  split at h
  · split at h
    · split at h <;> cases h
    · cases h
  · cases h
def rReprD (K : PySem.W.Frag) : List V → Hp → VK → Prop := fun xs H Q => ∃ v p, xs = [v] ∧ Dp K H v p ∧ reprOk p = true ∧ p.hasDict = false ∧ Q (.str p.shown) H
section
variable {X : Cx}
theorem call_reprA (hg : X.A.guards = some []) (hu : X.A.units + 64 < cLine) : CallR X (.builtin "repr") (rReprD X.K) := by
  intro pins s σ H xs us Q I r h
  obtain ⟨v, p, rfl, hd, ok, nd, q⟩ := h
  obtain ⟨u, rfl, ru⟩ := vals1 r
  simp only [reprOk, Bool.and_eq_true, decide_eq_true_eq] at ok
  obtain ⟨⟨o1, o2⟩, o3⟩ := ok
  obtain ⟨as, rd⟩ := Dp.reads I p v u hd ru
  cases rd with
  | none => exact PySem.P.repr_of_none ⟨.str _, H, I.tok _, ⟨_, rfl⟩, q⟩
  | bool b => exact PySem.P.repr_of_bool ⟨.str _, H, I.tok _, ⟨_, rfl⟩, q⟩
  | int i t => exact PySem.P.repr_of_int (by simpa [PyData.showable] using o1) ⟨.str _, H, I.tok _, ⟨_, rfl⟩, q⟩
  | str x t => exact PySem.P.repr_of_str ⟨.str _, H, I.tok _, ⟨_, rfl⟩, q⟩ (by
    rw [show PyData.shown (.str x) = reprText x by simp only [PyData.shown]] at o3
    exact o3)
  | list h1 h2 h3 h4 => exact repr_of_reads' (.list h1 h2 h3 h4) o1 (PyData.noDict_hsm nd) hg (by omega) (fun _ _ e => e) (fun h' t tk hk => ⟨.str _, H, I.kept (t' := tk) hk, ⟨t, rfl⟩, q⟩) o3
  | tuple h1 h2 h3 h4 => exact repr_of_reads' (.tuple h1 h2 h3 h4) o1 (PyData.noDict_hsm nd) hg (by omega) (fun _ _ e => e) (fun h' t tk hk => ⟨.str _, H, I.kept (t' := tk) hk, ⟨t, rfl⟩, q⟩) o3
  | dict h1 h2 h3 h4 h5 => simp [PyData.hasDict] at nd
theorem cd_repr {K : PySem.W.Frag} : CallD K (rv K) (rReprD K) reprD := by
  intro G H vs ds Q s r q
  unfold reprD at q
  split at q
  · split at q
    · rename_i e
      split at q
      · rename_i ok
        obtain ⟨v, rfl, r1⟩ := paired1 r
        exact ⟨_, _, rfl, rdO_dp s e r1, ok, pyD_noDict _ e, q _ G H (.refl s) rfl⟩
      · exact q.elim
    · exact q.elim
  · exact q.elim
end
/-! ### xs.count(x) -/
def cntD (d x : D) : Res D := match d with
  | .lst ds => (match pyDL ds, pyD x with
    | some ps, some p => if decide (p.depth ≤ 60) && p.plain && PyData.plainAll ps then .ok (.int (ps.countP fun y => PyData.eqv y p : Nat)) else .stuck
    | _, _ => .stuck)
  | _ => .stuck
def pCnt (f g : P D) : P D := fun ρ => (f ρ).bind fun d => match d with
  | .lst ds => (g ρ).bind fun x => cntD (.lst ds) x
  | _ => .stuck
def rCntD (K : PySem.W.Frag) : V → List V → Hp → VK → Prop := fun x xs H Q => ∃ (a : Addr) (vs : List V) (ps : List PyData) (y : V) (p : PyData), x = .ref a ∧ xs = [y] ∧ SqL K H a vs ∧ DpAll K H vs ps ∧ Dp K H y p ∧ p.depth ≤ 60 ∧ p.plain = true ∧ PyData.plainAll ps = true ∧
  Q (.int (ps.countP fun y => PyData.eqv y p : Nat)) H
section
variable {X : Cx}
variable {c : Ct} {W : WX} {o e : Expr} {f g : P D} {apos cpos : Pos}
end
end DL
namespace DL
open PySem PySem.Spec PyProof.Rows L2
variable [TheW]
/-! ### defs that are called where no repr is under way (they may call repr) -/
structure FnQ (P : Program) (w : World) (K : PySem.W.Frag) (mg : Str → Option Value) (base : Heap) (k : Nat) (f : Addr) (fd : FuncData) (ps : List Str) (sp : Sp) : Prop where
  n : ∀ vs H Q E, sp vs H Q E → vs.length = ps.length
  go : ∀ (A : Around) (ou : List Env) (t : Shared) (H : Hp) (ag : Args) (us : List Value) (vs : List V) (Q : VK) (E : XK), A.guards = some [] → Room k A →
    Env0 P w K mg base A ou t H → BindsTo t fd ag (ps.zip us) → Vals vs us → sp vs H Q E →
    codeAny (model P w) A (.call (.ref f) ag) (CR CX0 ou P w H t Q E) t
section
variable {P : Program} {w : World} {K : PySem.W.Frag} {mg : Str → Option Value} {base : Heap} {f : Addr} {fd : FuncData} {ps : List Str} {sp : Sp} {j k : Nat}
end
section
variable {P : Program} {w : World} {K : PySem.W.Frag} {mg : Str → Option Value} {base : Heap} {k : Nat} {f : Addr} {x qual : Str} {params : Arguments} {body : List Stmt} {scope : Scope} {N ps : List Str} {sp : Sp}
theorem fnq_of {oc : Value} {od : Option Addr} {dV kV doc pm cdv ct : Value} {an : Option Addr} {osl : Array (Option Value)} (lk : K.lookup f = some ⟨oc, od, .func (PySem.W.fnOf x qual params body scope dV kV doc pm an cdv ct), osl⟩)
    (cd : PySem.W.codeIn K cdv qual = true) (S : FnScope N ps scope) (n : ∀ vs H Q E, sp vs H Q E → vs.length = ps.length)
    (hbd : ∀ (A : Around) (ou : List Env) (t : Shared) (H : Hp) (vs : List V) (Q : VK) (E : XK), A.guards = some [] → Room k (A.deeper (envOfC qual scope t.heap.objs.size f cdv)) → sp vs H Q E →
      ∃ T, PSs (cxOf CX0 P w K mg base N qual scope f cdv A ou t H E) body T ∧ T { nx := fun _ H2 => Q .non H2, rt := Q } (start N vs) H) :
    FnQ P w K mg base (k + 1) f (PySem.W.fnOf x qual params body scope dV kV doc pm an cdv ct) ps sp := by
  refine ⟨n, fun A ou t H ag us vs Q E g hr ev hb rv hsp => ?_⟩
  have ln := n vs H Q E hsp
  have kin : K.In t.heap := ev.mod.kin.keeps fun a o z => (ev.bs a o z).1
  have nol : t.heap.NoLimit := ev.mod.nolimit.keeps fun a o z => (ev.bs a o z).1
  have kinds : ∀ q ∈ ps.zip us, scope.names.lookup q.1 = some .local ∨ (scope.names.lookup q.1 = some .cell ∧ ((cellsFrom (t.heap.objs.size + 1) scope.names []).lookup q.1).isSome = true) := fun q hq =>
    (S.par q.1 (List.of_mem_zip hq).1).imp_right fun z => ⟨z, PySem.W.cellsFrom_some _ _ _ (.inl z)⟩
  refine codeAny_call_function hr.depth (kin _ _ lk) rfl S.co S.gen rfl (PySem.W.codeRec_of kin cd) (hb _ _ _ _ ?q)
  refine wpAny_newFunctionEnv_cells S.kind kinds fun en he t1 xx => ?_
  subst he
  refine ⟨nol.keeps xx.toInCall.keep, codeAny_func ?_⟩
  obtain ⟨T, hT, hq⟩ := hbd A ou t H vs Q E g (hr.deeper _) hsp
  have J : Inv (cxOf CX0 P w K mg base N qual scope f cdv A ou t H E) [] (start N vs) H t1 := inv_start S hr.hd ev ln rv xx
  refine wpAny_mono (hT.run [] t1 (start N vs) H _ J hq) (fun fl t2 z => ?_) fun e t2 z => z
  match fl, z with
  | .ret u, ⟨v, σ2, H2, J2, r2, q2⟩ => exact ⟨v, H2, J2.os, J2.bare, J2.base, J2.hok, r2, q2⟩
  | .next, ⟨σ2, H2, J2, q2⟩ => exact ⟨V.non, H2, J2.os, J2.bare, J2.base, J2.hok, rfl, q2⟩
  | .brk, ⟨_, _, _, z⟩ => exact z.elim
  | .cont, ⟨_, _, _, z⟩ => exact z.elim
theorem fn_bodyQ {fd : FuncData} {dvs : List V} {kws : List (Str × V)} {st : S} (F : FunD K x qual params body scope dvs kws f fd) (Sc : FnScope N ps scope)
    (hb : ∀ (c : Ct) (cdv : Value) (A : Around) (outer : List Env) (s : Shared) (H : Hp) (E : XK), c.ar.length = ps.length → Room k (A.deeper (envOfC qual scope s.heap.objs.size f cdv)) → A.guards = some [] → DSs c noW (FX P w K mg base N qual scope f cdv A outer s H E) body st) :
    FnQ P w K mg base (k + 1) f fd ps (spF K ps.length (runF N.length st)) := by
  obtain ⟨oc, od, dV, kV, doc, pm, an, cdv, ct, osl, rfl, lk, hcd, _, _⟩ := F.ex
  refine fnq_of lk hcd Sc (fun vs H Q E h => spF_len h) fun A outer s H vs Q E hG hr h => ?_
  have hl := spF_len h
  obtain ⟨G, ds, F0, h1, A0, p⟩ := h
  refine ⟨_, PSs.nox (hb ⟨H, G, F0, vs⟩ cdv A outer s H E hl hr hG), G, ds.map some ++ List.replicate (N.length - ds.length) none, ?_, ?_⟩
  · have := A0.ext (N.length - ds.length)
    rw [show ds.length = vs.length by omega] at this ⊢
    exact this
  · unfold runF at p
    cases o : st (ds.map some ++ List.replicate (N.length - ds.length) none) with
    | nx ρ => rw [o] at p; exact fun G' σ' H' s' A' => p .non G' σ' H' A'.arl (A'.pushR (d := .non) rfl)
    | ret d ρ => rw [o] at p; exact fun v G' σ' H' s' l A' => p v G' σ' H' l A'
    | bk ρ => rw [o] at p; exact False.elim p
    | ct ρ => rw [o] at p; exact False.elim p
    | exn x fs ρ => rw [o] at p; exact False.elim p
    | stuck => rw [o] at p; exact p
end
/-! ### their calls -/
section
variable {X : Cx} {k n : Nat} {f : Addr} {fd : FuncData} {ps : List Str} {sp : Sp} {E : XK} {x : Str} {p pos : Pos} {e : Expr} {es : List Expr} {t : TA}
end
structure Call1Q (P : Program) (w : World) (K : PySem.W.Frag) (mg : Str → Option Value) (base : Heap) (k : Nat) (x : Str) (ps : List Str) (F : Fd) : Prop where
  ex : ∃ fd, FnQ P w K mg base k (He.ga K x) fd ps (spF K ps.length F) ∧ Binds K fd ps []
  m : mg x = some (.ref (He.ga K x))
  kp : PySem.W.keepIn K (.ref (He.ga K x)) = true
section
variable {P : Program} {w : World} {K : PySem.W.Frag} {mg : Str → Option Value} {base : Heap} {x : Str} {st : Stmt} {N ps : List Str} {k j : Nat} {F : Fd}
end
section
variable {c : Ct} {W : WX} {X : Cx} {k n : Nat} {ps : List Str} {x : Str} {p pos : Pos} {e : Expr} {es : List Expr} {fs : P (List D)} {F : Fd}
end
end DL
namespace DL
open PySem PySem.Spec PyProof.Rows L2
/-! ### the law's own call: no repr is under way there -/
theorem law_callQ {P : Program} {w : World} {K : PySem.W.Frag} {mg mb : Str → Option Value} {k : Nat} {fa a : Addr} {fd : FuncData} {x : Str} {sp : Sp} {t : Shared} {us : List Value} {ns : List Int}
    (kx : K.In t.heap) (gl : t.heap.Ns mainGlobals mg) (bl : t.heap.Ns builtinsNs mb) (bb : ∀ y : Str, y ≠ "__name__" → mb y = bootBuiltins y) (nl : t.heap.NoLimit) (gn : t.gens = #[])
    (ga : t.heap.get? a = some { cls := .type "list", data := .seq us.toArray }) (hi : IntsAre us ns) (hn : ns.length ≤ sizeLine) (hr : Room k callerA)
    (F : ∀ base : Heap, K.In base → base.Ns mainGlobals mg → FnQ P w K mg base k fa fd [x] sp) (bd : ∀ (s : Shared) (u : Value), BindsTo s fd ⟨[u], []⟩ [(x, u)])
    (hs : ∀ H : Hp, Only H → SqL K H a (ns.map V.int) → sp [.ref a] H (fun v _ => v = .bl true) fun _ _ _ => False) :
    codeAny (model P w) callerA (.call (.ref fa) ⟨[.ref a], []⟩) (fun r t2 => r = .ok (.ret (.bool true)) ∧ OldK t.heap t2.heap ∧ t2.os = t.os ∧ AllBare t2.gens) t := by
  have rv := vals_ints hi
  have ul := hi.length
  have main : ∀ H : Hp, Only H → SqL K H a (ns.map V.int) → HOk P w H t.heap → (∀ b, H b ≠ none → b = a) → (H a ≠ none → K.lookup a = none) →
      codeAny (model P w) callerA (.call (.ref fa) ⟨[.ref a], []⟩) (fun r t2 => r = .ok (.ret (.bool true)) ∧ OldK t.heap t2.heap ∧ t2.os = t.os ∧ AllBare t2.gens) t := by
    intro H ho hsq hok only noK
    have at_a : ∀ {b : Addr}, H b ≠ none → b = a := fun {b} z => only b z
    have nd : ∀ {b : Addr} {o : Obj} {es : Array DictEntry} {n : Nat}, t.heap.get? b = some o → o.data = .dict es n → H b = none := fun {b o es n} z1 z2 => by
      by_cases q : H b = none
      · exact q
      · have z3 := at_a q
        subst z3
        rw [ga] at z1
        cases z1
        cases (show Data.seq us.toArray _ = Data.dict es n from z2)
    have hid : ∀ {b : Addr} {o : Obj}, t.heap.get? b = some o → H b = none → (hidT t.heap H).get? b = some o := fun z1 z2 => hidT_get z1 z2
    have ns2 : ∀ {b : Addr} {m : Str → Option Value}, t.heap.Ns b m → (hidT t.heap H).Ns b m := fun ⟨o, es, n, z1, z2, z3⟩ => ⟨o, es, n, hid z1 (nd z1 z2), z2, z3⟩
    have kb : K.In (hidT t.heap H) := fun b o z => hid (kx b o z) (by
      by_cases q : H b = none
      · exact q
      · have z3 := at_a q
        subst z3
        rw [noK q] at z
        cases z)
    have md : Mod K mg (hidT t.heap H) := ⟨kb, ns2 gl, ⟨mb, ns2 bl, bb⟩, nl.elim fun mc z => ⟨mc, ns2 z.1, z.2⟩⟩
    have ev : Env0 P w K mg (hidT t.heap H) callerA [] t H :=
      ⟨rfl, md, fun b o z => of_hidT z, Nat.le_of_eq (hidT_size _ _), trivial, fun b z => absurd (show b ∈ ([] : List Addr) from z) (by simp), hok, .of_eq gn⟩
    refine codeAny_mono ((F _ kb (ns2 gl)).go callerA [] t H ⟨[.ref a], []⟩ [.ref a] [.ref a] _ _ rfl hr ev (bd t (.ref a)) (.cons rfl .nil) (hs H ho hsq)) fun r t2 z => ?_
    match r, z with
    | .error e, z => exact False.elim z
    | .ok .next, z => exact False.elim z
    | .ok .brk, z => exact False.elim z
    | .ok .cont, z => exact False.elim z
    | .ok (.ret u), ⟨v, H2, e1, e2, un, hok2, r2, q⟩ =>
      have q : v = .bl true := q
      subst q
      have r2 : u = Value.bool true := r2
      subst r2
      refine ⟨rfl, OldK.of_keep fun b o z => ?_, e1, e2⟩
      by_cases q : H b = none
      · exact un.keep b o z q (by simp [frs]) (by simp)
      · rcases ho b with z2 | ⟨ob, xs, z2⟩
        · exact absurd z2 q
        · have w1 := (hok b _ z2).1
          have w2 := (hok2 b _ (un.frzs b ob _ z2)).1
          rw [z] at w1
          cases w1
          exact w2
  cases hk : K.lookup a with
  | some o =>
    have z := kx a o hk
    rw [ga] at z
    cases z
    exact main (fun _ => none) (fun _ => .inl rfl) (.inr ⟨_, us.toArray, _, hk, rfl, rfl, rfl, by rw [List.size_toArray, ul]; exact hn, by simpa using rv⟩) (fun _ _ z => nomatch z) (fun _ z => absurd rfl z) fun z => absurd rfl z
  | none =>
    have hat : ∀ {b : Addr} {u : HO}, (if b = a then some (HO.frz { cls := .type "list", data := .seq us.toArray } (.lst (ns.map V.int))) else none) = some u → b = a ∧ u = HO.frz { cls := .type "list", data := .seq us.toArray } (.lst (ns.map V.int)) := fun {b u} z => by
      split at z
      · rename_i q
        exact ⟨q, (Option.some.inj z).symm⟩
      · cases z
    refine main (fun b => if b = a then some (HO.frz { cls := .type "list", data := .seq us.toArray } (.lst (ns.map V.int))) else none) (fun b => ?_) (.inl (.inr ⟨{ cls := .type "list", data := .seq us.toArray }, if_pos rfl⟩)) (fun b u z => ?_) (fun b z => ?_) fun _ => hk
    · by_cases q : b = a
      · exact .inr ⟨_, _, if_pos q⟩
      · exact .inl (if_neg q)
    · obtain ⟨q, q2⟩ := hat z
      subst q q2
      exact ⟨ga, by rw [List.length_map]; exact hn, us, _, rv, ga⟩
    · by_cases q : b = a
      · exact q
      · exact absurd (if_neg q) z
theorem walkQ {l : PySem.W.OpenLaw} {n k : Nat} {q : Program} {loose : List Str} {XP : (Str → Option Value) → Heap → Prop} {YP : World → Heap → Prop} {d : DefRec} {x : Str}
    (h1 : l.most = some n) (h2 : n ≤ sizeLine) (h3 : d.params.defaults = []) (hr : Room k callerA)
    (F : ∀ (w : World) (mg : Str → Option Value) (fa : Addr) (h : Heap), YP w h → h.Ns mainGlobals mg → mg d.name = some (.ref fa) → ∃ (K : PySem.W.Frag) (fd : FuncData) (sp : Sp), K.In h ∧
      (∀ (s : Shared) (u : Value), BindsTo s fd ⟨[u], []⟩ [(x, u)]) ∧ (∀ (H : Hp) (a : Addr) (ns : List Int), ns.length ≤ n → Only H → SqL K H a (ns.map V.int) → sp [.ref a] H (fun v _ => v = .bl true) fun _ _ _ => False) ∧
      ∀ base : Heap, K.In base → base.Ns mainGlobals mg → FnQ l.prog w K mg base k fa fd [x] sp) : PySem.W.WalkO q loose XP YP l.row.toRowW d [] (fun f vs => PySem.call f vs) :=
  Att.attach_call h1 h3 fun w _ t mg _ fa _ _ _ _ a us ns G Y _ _ _ hm ga hi hl gn => by
    obtain ⟨K, fd, sp, kx, bd, hs, hF⟩ := F w mg fa _ Y G.T.g hm
    exact law_callQ kx G.T.g G.T.b G.T.builtins G.T.nolimit gn ga hi (Nat.le_trans hl h2) hr hF bd fun H ho hsq => hs H a ns hl ho hsq
end DL
namespace DL
open PySem PySem.Spec PyProof.Rows L2
variable [TheW]
/-! ### sorted(d.items()) -/
def sitmD (d : D) : Res D := (itmD d).bind fun l => sortedC [l]
def pSortItm (f : P D) : P D := fun ρ => (f ρ).bind sitmD
def rSIt (X : Cx) : V → Hp → VK → Prop := fun x H Q => ∃ (d : Addr) (kvs : List (Key × V)) (ds : List D), x = .ref d ∧ Rd H d (.dK kvs) ∧ sortOk ds = true ∧
  ∀ (H' : Hp) (ts : List Addr), Same H H' → (∀ t ∈ ts, H t = none) → Paired (fun (t : Addr) (z : Key × V) => H' t = some (.tup [kV z.1, z.2])) ts kvs →
    ∃ G', Same G' H' ∧ RepL X.K G' ds (ts.map V.ref) ∧ ∀ ws q, RepL X.K G' (sortL ds) ws → H' q = none → Q (.ref q) (upd H' q (.lst ws))
section
variable {X : Cx} {e : Expr} {te : TE} {p apos cpos pos : Pos}
variable {c : Ct} {W : WX} {f : P D}
end
end DL
namespace DL
open PySem PySem.Spec PyProof.Rows L2
variable [TheW]
/-! ### (x,) * n -/
def mulT : D → D → Res D
  | .tup xs, .int k => if xs ≠ [] ∧ 2 ≤ k ∧ k ≤ 1000 ∧ xs.length ≤ 1000 then .ok (.tup (List.replicate k.toNat xs).flatten) else .stuck
  | _, _ => .stuck
/-! ### a def without defaults that is called with keywords here, without there -/
section
variable {P : Program} {w : World} {K : PySem.W.Frag} {mg : Str → Option Value} {base : Heap} {x : Str} {st : Stmt} {ps : List Str} {k : Nat} {F : Fd}
end
end DL
namespace DL
open PySem PySem.Spec PyProof.Rows L2
variable [TheW]
/-! ### repr(name) of an own object, read in place with its own parts -/
section
variable {K : PySem.W.Frag} {G H : Hp}
end
def pReprO (i : Nat) : P D := fun ρ => match ρ[i]? with
  | some (some (.mut d)) => reprD [thawO d]
  | _ => .stuck
section
variable {c : Ct} {W : WX} {X : Cx} {x : Str} {p p2 pos : Pos} {i : Nat}
end
/-! ### return e, name: the name's own object becomes a part of the tuple -/
def sRetT (n i : Nat) (f : P D) : S := fun ρ => match f ρ, ρ[i]? with
  | .ok d, some (some (.mut e)) => if n ≤ i then .ret (.mut (.tup [d, .mut e])) (ρ.set i none) else .stuck
  | _, _ => .stuck
section
variable {c : Ct} {W : WX} {X : Cx} {e : Expr} {f : P D} {pos p tp : Pos} {x : Str} {K : PySem.W.Frag} {σ : L2.St} {G H : Hp}
end
/-! ### x[k].append(..): a list within a tuple of one's own -/
def mTLst (i : Nat) (k : Nat) (as : List D) (g : List D → List D → Option (D × List D)) : M D := fun ρ => match ρ[i]? with
  | some (some (.mut (.tup ds))) => (match ds[k]? with
    | some (.mut (.lst xs)) => (match g xs as with
      | some (d, es) => if noMutL xs = true then .ok d (ρ.set i (some (.mut (.tup (ds.set k (.mut (.lst es))))))) else .stuck
      | none => .stuck)
    | _ => .stuck)
  | _ => .stuck
section
variable {c : Ct} {W : WX} {X : Cx} {p p2 apos cpos : Pos} {x s : Str} {σ : L2.St} {G H : Hp}
end
end DL
namespace DL
open PySem PySem.Spec PyProof.Rows L2
variable [TheW]
/-! ### sorted(list) of any data that can be compared place by place: lists and bools too -/
def pyO (d : D) : PyData := (pyD d).getD .none
def leY : D → D → Bool := PySem.W.dataLe false pyO
def sortY (ds : List D) : List D := ds.mergeSort leY
def tupNe : D → Bool
  | .tup (_ :: _) => true
  | _ => false
def notTup : D → Bool
  | .tup _ => false
  | .non => false
  | _ => true
def okY (ds : List D) : Bool := (ds.all tupNe || ds.all notTup) && ds.all fun d => (pyD d).isSome && decide ((pyO d).depth ≤ 60) && ds.all fun e => PySem.W.alike (pyO d) (pyO e)
def rSortY (X : Cx) : List V → Hp → VK → Prop := fun xs H Q => ∃ (G : Hp) (a : Addr) (ds : List D) (vs : List V), xs = [.ref a] ∧ Same G H ∧ SqL X.K H a vs ∧ RepL X.K G ds vs ∧ okY ds = true ∧ ∀ ws p, RepL X.K G (sortY ds) ws → H p = none → Q (.ref p) (upd H p (.lst ws))
section
variable {X : Cx} {pins : List (Addr × Obj)} {σ : L2.St} {G H : Hp} {s : Shared}
def sortedY : List D → Res D
  | [.lst ds] => if okY ds = true then .ok (.lst (sortY ds)) else .stuck
  | _ => .stuck
variable {c : Ct} {W : WX} {e : Expr} {es : List Expr} {fs : P (List D)} {pos p : Pos}
end
/-! ### the order, in plain words -/
end DL
set_option maxHeartbeats 8000000
namespace DL
open PySem PySem.Spec PyProof.Rows L2
variable [TheW]
/-! ### a set of texts or ints, made by a comprehension -/
section
variable {X : Cx}
/-- how a set of keys takes one more -/
abbrev Took (k : Key) (old new : List Key) : Prop := (k ∈ old → new = old) ∧ (k ∉ old → new.Perm (k :: old))
/-- what is to be shown of a turn: the store, the tests, the element taken -/
abbrev SkStep (w : World) (D : Addr) (g : TG) (tt : TT) (te : TE) (vs : List Nat) (σ : L2.St) (Nx : Hp → Prop) (x : V) (H : Hp) : Prop :=
  g x (wipe σ vs) H fun σ2 H2 => wipe σ2 vs = wipe σ vs ∧ tt σ2 H2 fun b H3 => if b = true then te σ2 H3 fun y H4 => ∃ k old, y = kV k ∧ H4 D = some (KSetO w D old) ∧ old.length + 1 < scanBound ∧ ∀ new, Took k old new → Nx (upd H4 D (KSetO w D new)) else Nx H3
def tScK (w : World) (wi : TI) (g : TG) (tt : TT) (te : TE) (vs : List Nat) : TE := fun σ H Q => wi σ H fun J H1 => ∀ D, H1 D = none → ∃ W : Nat → Nat → Hp → Prop, (∃ m, W 0 m (upd H1 D (KSetO w D []))) ∧
  ∀ i m H, W i m H → (J.stop i H ∧ Q (.ref D) H) ∨ (J.go i H ∧ ∃ Nx : Hp → Prop, (∀ H', Nx H' → ∃ m', m' < m ∧ W (i + 1) m' H') ∧ ∀ x H', J.yld i H x H' → SkStep w D g tt te vs σ Nx x H')
section
variable {Xb : Cx} {fp : List Addr} {tn : Nat → Heap → Prop} {J : It} {it : Addr} {tg elt iter : Expr} {ifs : List Expr} {scope : Scope} {pos : Pos} {g : TG} {tt : TT} {te : TE} {vs : List Nat} {σ : L2.St} {W : Nat → Nat → Hp → Prop}
/-- the head of a turn -/
def SkAt (Xb : Cx) (σ : L2.St) (fp : List Addr) (tn : Nat → Heap → Prop) (W : Nat → Nat → Hp → Prop) (n : Nat) (s : Shared) : Prop := ∃ i H, Inv Xb [] σ H s ∧ tn i s.heap ∧ (∀ b ∈ fp, H b = none) ∧ W i n H
end
end
/-! ### its denotation: the keys as they come -/
def keysR (r : List D) : Res (List Key) := match keysL r with
  | some ks => if ks.length + 1 < scanBound then .ok ks else .stuck
  | none => .stuck
def pSC (vs : List Nat) (t : Tgt) (src : P (List D)) (tt : P Bool) (te : P D) : P (List Key) := fun ρ => (src ρ).bind fun ds => (compL (item vs t tt te ρ) ds).bind keysR
section
variable {c : Ct} {W : WX} {K : PySem.W.Frag} {G H G1 H1 : Hp} {σ : L2.St} {ρ : Rho} {Q : VK} {vs : List Nat} {t : Tgt} {tt : P Bool} {te : P D} {ds : List D} {J : It} {w : World}
/-- the new set so far -/
structure ScI (K : PySem.W.Frag) (w : World) (G1 H1 : Hp) (Dd : Addr) (g : D → Res (Option D)) (ds : List D) (ks : List Key) (i : Nat) (Hc : Hp) : Prop where
  ex : ∃ Gc old n rest, Grow G1 H1 Gc Hc ∧ Hc Dd = some (KSetO w Dd old) ∧ Gc Dd = none ∧ KGot ks n old ∧ n ≤ ks.length ∧ compL g (ds.drop i) = .ok rest ∧ rest = (ks.map keyD).drop n
end
section
variable {c : Ct} {W : WX} {X : Cx} {elt tg iter : Expr} {ifs : List Expr} {scope : Scope} {own : List (Str × Nat)} {pos : Pos} {t : Tgt} {src : P (List D)} {tt : P Bool} {te : P D}
end
end DL
namespace DL
open PySem PySem.Spec PyProof.Rows L2
variable [TheW]
/-! ### text in d.values() -/
/-- is a text among the values -/
def amongV (t : Str) (kvs : List (Key × V)) : Bool := kvs.any fun p => match p.2 with | .str z => decide (z = t) | _ => false
section
variable {X : Cx} {o : Obj}
/-- x in d.values() for a text x and texts as values -/
def tInV (ta td : TE) : TE := fun σ H Q => ta σ H fun x H1 => td σ H1 fun u H2 => ∃ t d o kvs, x = .str t ∧ u = .ref d ∧ H2 d = some (.frz o (.dK kvs)) ∧ (∀ p ∈ kvs, ∃ z, p.2 = .str z) ∧ Q (.bl (amongV t kvs)) H2
end
/-- is the item a text -/
def isTxt : D → Bool
  | .str _ => true
  | _ => false
/-- text in d.values() -/
def inVD : D → D → Res D
  | .str t, .dict kvs => if kvs.all (fun p => isTxt p.2) = true then .ok (.bl (kvs.any fun p => match p.2 with | .str z => decide (z = t) | _ => false)) else .stuck
  | _, _ => .stuck
section
variable {c : Ct} {W : WX} {X : Cx} {a e : Expr} {f g : P D} {apos cpos pos : Pos}
end
end DL
set_option maxHeartbeats 4000000
namespace DL
open PySem PySem.Spec PyProof.Rows L2
variable [TheW]
/-! ### list(range(a, b)) -/
def rngD2 : D → D → Res D
  | .int a, .int b => if 0 ≤ a ∧ a ≤ 16777216 ∧ 0 ≤ b ∧ b ≤ 16777216 then .ok (.lst ((List.range (b - a).toNat).map fun (i : Nat) => D.int (a + (i : Int)))) else .stuck
  | _, _ => .stuck
section
variable {c : Ct} {W : WX} {X : Cx} {e e2 : Expr} {f g : P D} {pos p p2 pos2 : Pos}
end
end DL
/-! DL106: x != y of two equal dicts. -/
namespace DL
open PySem PySem.Spec PyProof.Rows L2 PySem.SeqAt
section
variable {prog : Program} {w : World} {A : Around} {E : Value → Shared → Prop} {s : Shared} {K : Type} [DecidableEq K] {knd : KeyKind prog w K}
end
variable [TheW]
/-- d != e where they are equal -/
def neD : D → D → Res D
  | .dict ks, .dict ls => if (decide (ks.length = ls.length) && (eqQK ks ls && decide (depQK ks < 60))) = true then .ok (.bl false) else .stuck
  | _, _ => .stuck
def rNeD (K : PySem.W.Frag) : R2 := fun x y H Q => ∃ n, n ≤ 60 ∧ EqRd H (EqW K H n) x y ∧ Q (.bl false) H
end DL
/-! DL107: x.clear() on a dict of one's own. -/
namespace DL
open PySem PySem.Spec PyProof.Rows L2
variable [TheW]
def mDClr (i : Nat) : M D := fun ρ => match ρ[i]? with
  | some (some (.mut (.dict _))) => .ok .non (ρ.set i (some (.mut (.dict []))))
  | _ => .stuck
section
variable {K : PySem.W.Frag} {c : Ct} {G H : Hp} {σ : L2.St} {ρ : Rho}
end
section
variable {c : Ct} {W : WX} {X : Cx} {p apos cpos : Pos} {x : Str}
end
end DL
namespace DL
open PySem PySem.Spec PyProof.Rows L2
variable [TheW]
/-! ### sorted(xs, key=lambda v: (len(v), v)), xs an own list of tuples -/
abbrev klArgs (v : Str) (p : Pos) : Arguments := { posonlyargs := [], args := [{ arg := v, annotation := none, pos := p : Arg }], vararg := none, kwonlyargs := [], kw_defaults := [], kwarg := none, defaults := [] }
abbrev klBody (v : Str) (p1 p2 p3 p4 p5 : Pos) : Expr := .Tuple [.Call (.Name "len" p1) [.Name v p2] [] p3, .Name v p4] 0 p5
abbrev klScope (v : Str) : Scope := { kind := .function, names := [(v, .local), (Str.ofString "len", .globalImplicit)], isGenerator := false, isCoroutine := false, more := [] }
abbrev klObj (q v : Str) (p p1 p2 p3 p4 p5 : Pos) (pm : Value) (c' : Addr) (ctv : Value) : Obj := PySem.W.kla_obj "<lambda>" q (klArgs v p) (klBody v p1 p2 p3 p4 p5) (klScope v) [] pm c' ctv
def KlB (v : Str) (p p1 p2 p3 p4 p5 : Pos) : Prop := ∀ (q : Str) (pm cv ctv u : Value), bindArgs (PySem.W.kla_fn "<lambda>" q (klArgs v p) (klBody v p1 p2 p3 p4 p5) (klScope v) [] pm cv ctv) ⟨[u], []⟩ = pure [(v, u)]
/-! ### the lambda is made -/
def LamO (q v : Str) (p p1 p2 p3 p4 p5 : Pos) (f c' : Addr) : HO := .ext fun h => ∃ (pm ctv : Value), h.get? f = some (klObj q v p p1 p2 p3 p4 p5 pm c' ctv)
/-- the module of the built-ins, in K -/
structure BmF (K : PySem.W.Frag) (mg : Str → Option Value) : Prop where
  ex : ∃ (bm : Addr) (ob : Obj), mg "__builtins__" = some (.ref bm) ∧ bm ≠ builtinsNs ∧ bm ≠ mainGlobals ∧ K.lookup bm = some ob ∧ ob.cls = .type "module" ∧ ob.dict = some builtinsNs ∧ ob.data = .plain
/-- what the making asks of the def's frame -/
def TabK (X : Cx) : Prop := ∃ c P : Addr, X.env.code = .ref c ∧ PySem.W.codeHdIn X.K c P = true ∧ BmF X.K X.mg ∧ (P, X.env.qual ++ "<lambda>") ∈ TheW.T ∧ ∀ r ∈ TheW.T, r.1 = P → r.2 = X.env.qual ++ "<lambda>"
section
variable {X : Cx} {pins : List (Addr × Obj)} {σ : L2.St} {G H : Hp} {s : Shared} {q v : Str} {p p1 p2 p3 p4 p5 : Pos}
def tMkL (K : PySem.W.Frag) (c : Ct) (q v : Str) (p p1 p2 p3 p4 p5 : Pos) : TE := fun σ H Q => ∃ G ρ, At K c G σ H ρ ∧ ∀ (G1 H1 : Hp) (f c' : Addr), Grow G H G1 H1 → H1 f = some (LamO q v p p1 p2 p3 p4 p5 f c') → H1 c' = some (LamX.CodeO c' q) → Q (.ref f) H1
end
end DL
namespace DL
open PySem PySem.Spec PyProof.Rows L2
variable [TheW]
/-! ### .. and its use: sorted by length, then by the items -/
def tupIs (f : D → Bool) : D → Bool
  | .tup xs => xs.all f && decide (xs.length ≤ 64)
  | _ => false
def isI : D → Bool
  | .int _ => true
  | _ => false
def isSt : D → Bool
  | .str _ => true
  | _ => false
def okK (ds : List D) : Bool := ds.all (tupIs isI) || ds.all (tupIs isSt)
def tupLen : D → Nat
  | .tup xs => xs.length
  | _ => 0
def keyK (d : D) : PyData := .tuple [.int (tupLen d), pyO d]
def leK : D → D → Bool := PySem.W.dataLe false keyK
def sortLn (ds : List D) : List D := ds.mergeSort leK
/-- plain data within a tuple -/
def Atom : PyData → Prop
  | .int _ => True
  | .str _ => True
  | _ => False
/-! ### the rule -/
def rSortLn (K : PySem.W.Frag) (q v : Str) (p p1 p2 p3 p4 p5 : Pos) : List V → List V → Hp → VK → Prop := fun xs zs H Q => ∃ (G : Hp) (a f c' : Addr) (ds : List D) (vs : List V), xs = [.ref a] ∧ zs = [.ref f] ∧ Same G H ∧ SqL K H a vs ∧ RepL K G ds vs ∧ okK ds = true ∧
  H f = some (LamO q v p p1 p2 p3 p4 p5 f c') ∧ H c' = some (LamX.CodeO c' q) ∧ ∀ ws p, RepL K G (sortLn ds) ws → H p = none → Q (.ref p) (upd H p (.lst ws))
section
variable {X : Cx} {q v : Str} {p p1 p2 p3 p4 p5 : Pos}
def sortLnD : List D → Res D
  | [.lst ds] => if okK ds = true then .ok (.lst (sortLn ds)) else .stuck
  | _ => .stuck
variable {c : Ct} {W : WX} {e : Expr} {fs : P (List D)} {pos pn lpos kpos : Pos}
end
end DL
namespace DL
open PySem PySem.Spec PyProof.Rows L2
variable [TheW]
/-! ### defs that make lambdas -/
abbrev lamQ (qual : Str) : Str := qual ++ ".<locals>." ++ "<lambda>"
/-- the def at f writes a table that is known -/
def LamF (K : PySem.W.Frag) (mg : Str → Option Value) (f : Addr) (qual : Str) : Prop := BmF K mg ∧ ∃ c P : Addr, (∀ oc od fd osl, K.lookup f = some ⟨oc, od, .func fd, osl⟩ → fd.code = .ref c) ∧ PySem.W.codeHdIn K c P = true ∧ (P, lamQ qual) ∈ TheW.T ∧ ∀ r ∈ TheW.T, r.1 = P → r.2 = lamQ qual
section
variable {K : PySem.W.Frag} {P : Program} {w : World} {mg : Str → Option Value} {base : Heap} {x qual : Str} {params : Arguments} {body : List Stmt} {scope : Scope} {dvs : List V} {kws : List (Str × V)} {f : Addr} {fd : FuncData}
end
section
variable {P : Program} {w : World} {K : PySem.W.Frag} {mg : Str → Option Value} {base : Heap} {x : Str} {st : Stmt} {N ps : List Str} {k j : Nat}
end
end DL
namespace DL
open PySem PySem.Spec PyProof.Rows L2
/-! ### the law's own call, empty tables of code objects known -/
end DL
namespace DL
open PySem PySem.Spec PyProof.Rows L2
variable [TheW]
/-! ### x['k'] of a dict that is own or shared by now -/
def isOwn (ρ : Rho) (i : Nat) : Bool := match ρ[i]? with
  | some (some (.mut _)) => true
  | _ => false
def pDKE (i : Nat) (k : Str) : P D := fun ρ => if isOwn ρ i = true then pDK i k ρ else pOp ixD (pVarB i) (pC (.str k)) ρ
def pDKBE (i : Nat) (k : Str) : P D := fun ρ => if isOwn ρ i = true then pDKB i k ρ else pOp ixD (pVarB i) (pC (.str k)) ρ
section
variable {c : Ct} {W : WX} {X : Cx} {x : Str} {p pos : Pos} {i : Nat} {k : Str} {kp : Pos} {kk : Tok}
end
end DL
namespace DL
open PySem PySem.Spec PyProof.Rows L2
variable [TheW]
/-! ### xs + ys, a new list of one's own -/
def catD (x y : D) : Res D := match x, y with
  | .lst xs, .lst ys => if xs.length + ys.length ≤ LINE then .ok (.lst (xs ++ ys)) else .stuck
  | _, _ => .stuck
section
variable {c : Ct} {W : WX} {X : Cx} {a b : Expr} {f g : P D} {pos : Pos}
end
end DL
namespace DL
open PySem PySem.Spec PyProof.Rows L2
variable [TheW]
/-! ### for y in xs: y.append('..') over a list of one's own of lists of one's own; y is forgotten -/
def appP (x : Str) : List D → Option (List D)
  | [] => some []
  | .mut (.lst es) :: ds => if es.length < LINE ∧ noMutL es = true then (appP x ds).map fun r => .mut (.lst (es ++ [.str x])) :: r else none
  | _ :: _ => none
def sForApp (i j : Nat) (x : Str) : S := fun ρ => match ρ[i]? with
  | some (some (.mut (.lst ds))) => (match appP x ds with
    | some es => if j < ρ.length then .nx ((ρ.set j none).set i (some (.mut (.lst es)))) else .stuck
    | none => .stuck)
  | _ => .stuck
section
variable {c : Ct} {W : WX} {X : Cx} {p p1 p2 p3 apos cpos epos pos : Pos} {x y s : Str}
end
end DL
namespace DL
open PySem PySem.Spec PyProof.Rows L2
variable [TheW]
/-! ### [a, b] of two new objects of one's own -/
def pLst2X (f g : P D) : P D := fun ρ => match f ρ, g ρ with
  | .ok d, .ok e => .ok (.lst [d, e])
  | _, _ => .stuck
section
variable {c : Ct} {W : WX} {X : Cx} {a b : Expr} {f g : P D} {pos : Pos}
end
end DL
namespace DL
open PySem PySem.Spec PyProof.Rows L2
variable [TheW]
/-! ### x, y = f(..), g(..): the first an object of one's own, the second by an expression that changes owned objects -/
def sParXM (n i j : Nat) (f g : M D) : S := fun ρ => match f ρ with
  | .ok d ρ1 => (match g ρ1 with
    | .ok e ρ2 => if (i < ρ2.length ∧ j < ρ2.length) ∧ (n ≤ i ∨ isMut d = false) then .nx ((ρ2.set i (some d)).set j (some e)) else .stuck
    | _ => .stuck)
  | _ => .stuck
section
variable {c : Ct} {W : WX} {X : Cx} {a b : Expr} {pos : Pos}
end
end DL
namespace DL
open PySem PySem.Spec PyProof.Rows L2
variable [TheW]
/-! ### dict of the empty default of least_cover -/
structure EmpC (K : PySem.W.Frag) : Prop where
  ex : ∃ o n, K.lookup (gx K "()c") = some o ∧ o.cls = .type "tuple" ∧ o.dict = none ∧ o.data = .seq #[] n
def softC : D → D
  | .glo x => if x = "()c" then .tup [] else .glo x
  | d => d
def pSoftC (f : P D) : P D := fun ρ => (f ρ).bind fun d => .ok (softC d)
def dictC0 : List D → Res D
  | [.glo x] => if x = "()c" then .ok (.dict []) else .stuck
  | ds => dictA ds
def rDictEC (K : PySem.W.Frag) : List V → Hp → VK → Prop := fun xs H Q => xs = [.ref (gx K "()c")] ∧ ∀ p, H p = none → Q (.ref p) (upd H p (.dK []))
section
variable {c : Ct} {W : WX} {X : Cx} {e e2 o : Expr} {es : List Expr} {f g : P D} {fs : P (List D)} {pos p p2 pos2 apos cpos : Pos} {C m : Str}
end
def emC (K : PySem.W.Frag) : Bool := match K.lookup (gx K "()c") with
  | some ⟨.type c, none, .seq its _, _⟩ => decide (c = "tuple") && its.isEmpty
  | _ => false
section
variable {K : PySem.W.Frag} {h : Heap} {mg : Str → Option Value}
end
end DL
namespace DL
open PySem PySem.Spec PyProof.Rows L2
variable [TheW]
/-! ### k in d, k not in d, {k: v} with keys that are tuples of any depth -/
def hasN2 (kvs : List (D × D)) (k : D) : Bool := kvs.any fun p => decide (nkD p.1 = nkD k)
def inNd (x y : D) : Res D := match y with
  | .nd kvs => if okN x = true then .ok (.bl (hasN2 kvs x)) else .stuck
  | _ => .stuck
def notInNd (x y : D) : Res D := match y with
  | .nd kvs => if okN x = true then .ok (.bl (!hasN2 kvs x)) else .stuck
  | _ => .stuck
def rInN (X : Cx) (neg : Bool) : R2 := fun x y H Q => ∃ (a b : Addr) (G : Hp) (kvs : List (D × D)) (xs : NE) (k : D) (nk : NestedKey), x = .ref b ∧ y = .ref a ∧ Same G H ∧ H a = some (NdO TheW.w a xs) ∧ RepN X.K G kvs xs.2 ∧ nkD k = some nk ∧ nk.depth ≤ 8 ∧ Rep X.K G k (.ref b) ∧ Q (.bl (if neg = true then !hasN2 kvs k else hasN2 kvs k)) H
section
variable {X : Cx}
def tDispN (K : PySem.W.Frag) (tk tv : TE) : TE := fun σ H Q => ∀ p, H p = none → tk σ (upd H p (NdO TheW.w p (0, []))) fun x H1 => tv σ H1 fun y H2 => H2 p = some (NdO TheW.w p (0, [])) ∧
  ∃ (b : Addr) (G : Hp) (k : D) (nk : NestedKey), x = .ref b ∧ Same G H2 ∧ nkD k = some nk ∧ nk.depth ≤ 8 ∧ Rep K G k (.ref b) ∧ ∀ ep r, RelV y r → Q (.ref p) (upd H2 p (NdO TheW.w p (ep, [(nk, b, r)])))
end
def pDispN (f g : P D) : P D := fun ρ => (f ρ).bind fun k => (g ρ).bind fun d => if okN k = true then .ok (.nd [(k, d)]) else .stuck
section
variable {c : Ct} {W : WX} {X : Cx} {k v : Expr} {f g : P D} {pos : Pos}
end
end DL
namespace DL
open PySem PySem.Spec PyProof.Rows L2
variable [TheW]
/-! ### x[k].append('..'), x[k].clear(): a list within a list of one's own -/
def mLLst (i : Nat) (k : Nat) (as : List D) (g : List D → List D → Option (D × List D)) : M D := fun ρ => match ρ[i]? with
  | some (some (.mut (.lst ds))) => (match ds[k]? with
    | some (.mut (.lst xs)) => (match g xs as with
      | some (d, es) => if noMutL xs = true then .ok d (ρ.set i (some (.mut (.lst (ds.set k (.mut (.lst es))))))) else .stuck
      | none => .stuck)
    | _ => .stuck)
  | _ => .stuck
section
variable {c : Ct} {W : WX} {X : Cx} {p p2 apos cpos : Pos} {x s : Str} {σ : L2.St} {G H : Hp}
end
end DL
namespace DL
open PySem PySem.Spec PyProof.Rows L2
variable [TheW]
/-! ### defs that may let an exception out -/
def PostFX (K : PySem.W.Frag) (c : Ct) (Q : VK) (E : XK) : Out D → Prop
  | .ok d ρ' => ∀ v G' σ' H', c.ar.length ≤ σ'.length → At K c G' (σ' ++ [some v]) H' (ρ' ++ [some d]) → Q v H'
  | .exn x fs ρ' => ∀ cls dd G' σ' H', At K c G' σ' H' ρ' → RepX K G' x fs cls dd → E cls dd H'
  | .stuck => False
def spFX (K : PySem.W.Frag) (n : Nat) (F : Fd) : Sp := fun vs H Q E => ∃ G ds F0, ds.length = n ∧ At K ⟨H, G, F0, vs⟩ G (vs.map some) H (ds.map some) ∧ PostFX K ⟨H, G, F0, vs⟩ Q E (F ds)
/-- what such a def's body wishes of an exception -/
abbrev wE (E : XK) : WX := fun cls d _ H => E cls d H
section
variable {P : Program} {w : World} {K : PySem.W.Frag} {mg : Str → Option Value} {base : Heap} {x qual : Str} {params : Arguments} {body : List Stmt} {scope : Scope} {dvs : List V} {kws : List (Str × V)} {f : Addr} {fd : FuncData}
/-- the context of its body -/
abbrev FXX (P : Program) (w : World) (K : PySem.W.Frag) (mg : Str → Option Value) (base : Heap) (N : List Str) (qual : Str) (scope : Scope) (f : Addr) (cdv : Value) (A : Around) (outer : List Env) (s : Shared) (H : Hp) (E : XK) : Cx := cxOf (L2.CX P w) P w K mg base N qual scope f cdv A outer s H E
end
/-! ### their calls -/
def resF : Out D → Res D
  | .ok d _ => .ok d
  | .exn x fs _ => .exn x fs
  | .stuck => .stuck
def pCallX (n : Nat) (F : Fd) (fs : P (List D)) : P D := fun ρ => (fs ρ).bind fun ds => if ds.length = n then resF (F ds) else .stuck
structure Call1X (P : Program) (w : World) (K : PySem.W.Frag) (mg : Str → Option Value) (base : Heap) (k : Nat) (x : Str) (ps : List Str) (F : Fd) : Prop where
  ex : ∃ fd, FnOk P w K mg base (L2.CX P w) k (He.ga K x) fd ps (spFX K ps.length F) ∧ Binds K fd ps []
  m : mg x = some (.ref (He.ga K x))
  kp : PySem.W.keepIn K (.ref (He.ga K x)) = true
section
variable {P : Program} {w : World} {K : PySem.W.Frag} {mg : Str → Option Value} {base : Heap} {x : Str} {st : Stmt} {N ps : List Str} {k j : Nat} {F : Fd}
end
section
variable {c : Ct} {W : WX} {X : Cx} {k n : Nat} {ps : List Str} {x : Str} {p pos : Pos} {e : Expr} {es : List Expr} {fs : DL.P (List D)} {F : Fd}
end
end DL
namespace DL
open PySem PySem.Spec PyProof.Rows L2
variable [TheW]
/-! ### raise -/
/-- an expression that makes an exception: its class, its fields -/
abbrev PKx := P (Str × List (Str × D))
def DKt (K : PySem.W.Frag) (c : Ct) (g : PKx) : L2.St → Hp → XK → Prop := fun σ H Q => ∃ G ρ, At K c G σ H ρ ∧ match g ρ with
  | .ok r => ∀ cls dd G' H', Grow G H G' H' → RepX K G' r.1 r.2 cls dd → Q cls dd H'
  | _ => False
abbrev DMk (c : Ct) (X : Cx) (e : Expr) (g : PKx) : Prop := PMk X e (DKt X.K c g)
def sRaise (g : PKx) : S := fun ρ => match g ρ with
  | .ok r => .exn r.1 r.2 ρ
  | _ => .stuck
/-- a class without an own __init__ -/
structure ExN (K : PySem.W.Frag) (mg : Str → Option Value) (x : Str) : Prop where
  q : PySem.W.excIn K (He.ga K x) He.veBase "ValueError.__new__" = true
  kp : PySem.W.keepIn K (.ref (He.ga K x)) = true
  sub : PySem.W.subIn K (.ref (He.ga K x)) (.type "BaseException") = some true
  ty : PySem.W.typeIn K (.ref (He.ga K x)) = some (.type "type")
  m : mg x = some (.ref (He.ga K x))
/-- a class whose own __init__ keeps one field -/
structure ExI (K : PySem.W.Frag) (mg : Str → Option Value) (x f qual : Str) (st : Stmt) : Prop where
  T : OexC K (He.ga K x)
  iC : PySem.W.findIn K (.ref (He.ga K x)) "__init__" = some (some (.ref (He.ma K (He.ga K x) "__init__")))
  tI : PySem.W.typeIn K (.ref (He.ma K (He.ga K x) "__init__")) = some (.type "function")
  no : PySem.W.findIn K (.ref (He.ga K x)) f = some none
  fd : ∃ fd, FunD K "__init__" qual (defArgs st) (defBody st) (defScope st) [] [] (He.ma K (He.ga K x) "__init__") fd
  m : mg x = some (.ref (He.ga K x))
/-- the class above, whose __init__ is ValueError's -/
structure ExB (K : PySem.W.Frag) (mg : Str → Option Value) (b : Str) : Prop where
  m : mg b = some (.ref (He.ga K b))
  rd : PySem.W.readsIn K (He.ga K b) (.type "type") = true
  sp : PySem.W.specialIn K (.ref (He.ga K b)) "__getattribute__" = some (some (.builtin "type.__getattribute__"))
  vV : PySem.W.findCls K (.ref (He.ga K b)) (.type "type") "__init__" = some (.val (.builtin "ValueError.__init__"))
section
variable {c : Ct} {W : WX} {X : Cx} {e : Expr} {es : List Expr} {g : PKx} {pos : Pos}
theorem dk_own {x m : Str} {j : Nat} {p p2 : Pos} (N : ExN X.K X.mg x) (hg : Gl X x := by rfl) (hdb : (x == ("__debug__" : Str)) = false := by decide) :
    DMk c X (.Call (.Name x p) [.Constant (.str m) j p2] [] pos) (fun _ => .ok (x, [])) := fun pins s σ H Q I ⟨G, ρ, A, p⟩ =>
  pmk_own PySem.F.excBase_ValueError N.q N.m N.kp (raises_own N.sub N.ty) hg hdb pins s σ H Q I (p _ none G H (.refl A.sub) ⟨rfl, .inl ⟨rfl, rfl⟩⟩)
theorem pe_hinit {b : Str} {ta : TA} {p1 p2 : Pos} {pl : Sem Bool} (B : ExB X.K X.mg b) (hg : Gl X b) (ha : PA X (e :: es) ta) (hdb : (b == ("__debug__" : Str)) = false := by decide)
    (hc : eval (.Call (.Attribute (.Name b p1) "__init__" p2) (e :: es) [] pos) X.env = (do
      let ov ← eval (.Name b p1) X.env
      standAt p2.atName
      let (f, first) ← holding [ov] (getMethod ov "__init__" pl)
      callWith pos f first (backTo pos (starEach (e :: es) X.env)) (backToKw pos (keywordEach [] X.env))) := by rfl)
    (he : starEach (e :: es) X.env = (false, eval e X.env) :: starEach es X.env := by rfl) (hpl : (backTo pos (starEach es X.env)).any (·.1) = false := by rfl) :
    PE X (.Call (.Attribute (.Name b p1) "__init__" p2) (e :: es) [] pos) (tVeI X.K ta) := by
  refine ⟨fun pins s σ H Q I h => ?_⟩
  refine PySem.W.methodCall_KW (ld_glob I hg B.m ?_ hdb) hc
  refine PySem.W.method_cls I.kIn B.sp (PySem.W.cls_value I.kIn B.rd B.vV (by decide +kernel) ?_)
  show wpAny _ _ (callWith pos (Value.builtin "ValueError.__init__") [] (backTo pos (starEach (e :: es) X.env)) []) _ _ _
  refine PyProof.Rows.callWith_method1 (thn (ha.run pos pins _ σ H _ (I.tok _) h) fun us s1 ⟨vs, H1, I1, r1, a, C, ws, ev, hl, T, ea, q⟩ => ?_) he hpl
  subst ev
  cases r1 with
  | @cons _ u0 _ ur ra rw' =>
    obtain rfl : u0 = Value.ref a := ra
    have hlen : ur.length ≤ sizeLine := by
      rw [← Paired.length rw', sizeLine_eq]
      omega
    exact oinit_ok T I1 ea hlen fun s' J => ⟨.non, H1, J, rfl, q⟩
end
/-- such an __init__ -/
def spInit (K : PySem.W.Frag) (f : Str) : Sp := fun vs H Q _ => ∃ (a C : Addr) (v : V), vs = [.ref a, v] ∧ OexC K C ∧ PySem.W.findIn K (.ref C) f = some none ∧ H a = some (exo a C none) ∧
  ∀ dx, H dx = none → dx ≠ a → Q .non (upd (upd H dx (exd dx [(f, v)])) a (exo a C (some dx)))
section
variable {P : Program} {w : World} {K : PySem.W.Frag} {mg : Str → Option Value} {base : Heap} {x f qual b : Str} {st : Stmt} {fI : Addr} {fd : FuncData}
theorem xinit_ok {m : Str} {j : Nat} {p1 p2 p3 p4 p5 p6 p7 p8 p9 p10 : Pos} (FD : FunD K "__init__" qual (defArgs st) (defBody st) (defScope st) [] [] fI fd) (Sc : FnScope ["self", f] ["self", f] (defScope st)) (B : ExB K mg b)
    (hB : defBody st = [.Expr (.Call (.Attribute (.Name b p1) "__init__" p2) [.Name "self" p3, .Constant (.str m) j p4] [] p5) p6, .Assign [.Attribute (.Name "self" p7) f p8] (.Name f p9) p10])
    (hg : (defScope st).names.lookup b = some .globalImplicit) (hv0 : Vis (defScope st) "self") (hv1 : Vis (defScope st) f) (hb : (b == ("__debug__" : Str)) = false) (hd : (f == ("__debug__" : Str)) = false) (hcd : (f == ("__classdict__" : Str)) = false)
    (hc : ∀ env : Env, env.scope = defScope st → ∃ pl : Sem Bool, eval (.Call (.Attribute (.Name b p1) "__init__" p2) [.Name "self" p3, .Constant (.str m) j p4] [] p5) env = (do
      let ov ← eval (.Name b p1) env
      standAt p2.atName
      let (f, first) ← holding [ov] (getMethod ov "__init__" pl)
      callWith p5 f first (backTo p5 (starEach [.Name "self" p3, .Constant (.str m) j p4] env)) (backToKw p5 (keywordEach [] env))))
    (hs1 : ∀ env : Env, swapsWith (.Call (.Attribute (.Name b p1) "__init__" p2) [.Name "self" p3, .Constant (.str m) j p4] [] p5) none p6.line env = pure false)
    (hs2 : ∀ env : Env, swapsWith (.Name f p9) (some (.Attribute (.Name "self" p7) f p8)) p10.line env = pure false) :
    FnOk P w K mg base CX0 1 fI fd ["self", f] (spInit K f) :=
  FD.ok Sc (fun vs H Q E ⟨a, C, v, e, _⟩ => by rw [e]; rfl) fun cdv A outer s H vs Q E hr ⟨a, C, v, e, T, no, ha, q⟩ => by
    subst e
    rw [hB]
    obtain ⟨pl, hc⟩ := hc (envOfC qual (defScope st) s.heap.objs.size fI cdv) rfl
    have s0 : PE (cxOf CX0 P w K mg base ["self", f] qual (defScope st) fI cdv A outer s H E) (.Name "self" p3) (tVar 0) := pe_var rfl hv0 (by decide) (by decide)
    have s1 : PE (cxOf CX0 P w K mg base ["self", f] qual (defScope st) fI cdv A outer s H E) (.Name "self" p7) (tVar 0) := pe_var rfl hv0 (by decide) (by decide)
    have s2 : PE (cxOf CX0 P w K mg base ["self", f] qual (defScope st) fI cdv A outer s H E) (.Name f p9) (tVar 1) := pe_var rfl hv1 hd hcd
    have h1 := pe_hinit (X := cxOf CX0 P w K mg base ["self", f] qual (defScope st) fI cdv A outer s H E) (p1 := p1) (p2 := p2) (pos := p5) B hg (pa_cons s0 (pa_cons (pe_str (x := m) (j := j) (pos := p4)) pa_nil)) hb hc
    refine ⟨_, pss_cons (ps_expr h1 (hs1 _)) (pss_one (ps_ost s1 s2 (hs2 _))), ?_⟩
    exact ⟨.ref a, rfl, a, C, [.str m], rfl, by simp, T, ha, v, rfl, .ref a, rfl, a, C, rfl, T, no, .inl ⟨ha, fun dx n ne => q dx n ne⟩⟩
/-- C(e), C's own __init__ keeping the field f -/
structure ExC (P : Program) (w : World) (K : PySem.W.Frag) (mg : Str → Option Value) (base : Heap) (x f : Str) : Prop where
  T : OexC K (He.ga K x)
  iC : PySem.W.findIn K (.ref (He.ga K x)) "__init__" = some (some (.ref (He.ma K (He.ga K x) "__init__")))
  tI : PySem.W.typeIn K (.ref (He.ma K (He.ga K x) "__init__")) = some (.type "function")
  no : PySem.W.findIn K (.ref (He.ga K x)) f = some none
  m : mg x = some (.ref (He.ga K x))
  ex : ∃ fd, FnOk P w K mg base CX0 1 (He.ma K (He.ga K x) "__init__") fd ["self", f] (spInit K f) ∧ Binds K fd ["self", f] []
theorem exC_of {m : Str} {j : Nat} {p1 p2 p3 p4 p5 p6 p7 p8 p9 p10 : Pos} (I : ExI K mg x f qual st) (Sc : FnScope ["self", f] ["self", f] (defScope st)) (B : ExB K mg b)
    (hbd : ∀ (kV doc pm : Value) (an : Option Addr) (cdv ct : Value) (us : List Value), us.length = (["self", f] : List Str).length → bindArgs (PySem.W.fnOf "__init__" qual (defArgs st) (defBody st) (defScope st) .none kV doc pm an cdv ct) ⟨us, []⟩ = pure ((["self", f] : List Str).zip us))
    (hB : defBody st = [.Expr (.Call (.Attribute (.Name b p1) "__init__" p2) [.Name "self" p3, .Constant (.str m) j p4] [] p5) p6, .Assign [.Attribute (.Name "self" p7) f p8] (.Name f p9) p10] := by rfl)
    (hg : (defScope st).names.lookup b = some .globalImplicit := by rfl) (hv0 : Vis (defScope st) "self" := by exact Or.inl rfl) (hv1 : Vis (defScope st) f := by exact Or.inl rfl) (hb : (b == ("__debug__" : Str)) = false := by decide) (hd : (f == ("__debug__" : Str)) = false := by decide) (hcd : (f == ("__classdict__" : Str)) = false := by decide)
    (hc : ∀ env : Env, env.scope = defScope st → ∃ pl : Sem Bool, eval (.Call (.Attribute (.Name b p1) "__init__" p2) [.Name "self" p3, .Constant (.str m) j p4] [] p5) env = (do
      let ov ← eval (.Name b p1) env
      standAt p2.atName
      let (f, first) ← holding [ov] (getMethod ov "__init__" pl)
      callWith p5 f first (backTo p5 (starEach [.Name "self" p3, .Constant (.str m) j p4] env)) (backToKw p5 (keywordEach [] env))) := by exact fun _ _ => ⟨_, rfl⟩)
    (hs1 : ∀ env : Env, swapsWith (.Call (.Attribute (.Name b p1) "__init__" p2) [.Name "self" p3, .Constant (.str m) j p4] [] p5) none p6.line env = pure false := by exact fun _ => rfl)
    (hs2 : ∀ env : Env, swapsWith (.Name f p9) (some (.Attribute (.Name "self" p7) f p8)) p10.line env = pure false := by exact fun _ => rfl) : ExC P w K mg base x f := by
  obtain ⟨fd, FD⟩ := I.fd
  exact ⟨I.T, I.iC, I.tI, I.no, I.m, fd, xinit_ok FD Sc B hB hg hv0 hv1 hb hd hcd hc hs1 hs2, FD.bindsN hbd⟩
end
section
variable {c : Ct} {X : Cx} {e : Expr} {p pos : Pos} {f : P D}
def pMk1 (x fl : Str) (g : P D) : PKx := fun ρ => match g ρ with
  | .ok d => .ok (x, [(fl, d)])
  | _ => .stuck
theorem dk_one {x fl : Str} (C : ExC X.prog X.w X.K X.mg X.base x fl) (hr : Room 2 X.A) (ha : DP c (fun _ _ _ _ => True) X e f) (hg : Gl X x := by rfl) (hdb : (x == ("__debug__" : Str)) = false := by decide)
    (he : starEach [e] X.env = (false, eval e X.env) :: starEach [] X.env := by rfl) (hpl : (backTo pos (starEach [] X.env)).any (·.1) = false := by rfl) : DMk c X (.Call (.Name x p) [e] [] pos) (pMk1 x fl f) := by
  obtain ⟨fd, h1, h2⟩ := C.ex
  have hp := pmk_oex (p := p) (pos := pos) C.T C.iC C.tI h1 hr h2 (ds := []) (dvs := []) .nil pass0 hg C.m (pa_cons ha pa_nil he) hdb he hpl
  refine fun pins s σ H Q I ⟨G, ρ, A, q⟩ => hp pins s σ H Q I ?_
  refine ⟨G, ρ, A, ?_⟩
  unfold pMk1 at q
  cases o : f ρ with
  | exn y fs => rw [o] at q; exact q.elim
  | stuck => rw [o] at q; exact q.elim
  | ok d =>
    rw [o] at q
    intro v G1 H1 g1 r1
    refine ⟨by simp, fun a na => ⟨a, _, v, rfl, C.T, C.no, upd_same, fun dx nd ne => ⟨rfl, dx, [(fl, v)], upd_same, ?_, ?_, ?_⟩⟩⟩
    · rw [upd_ne ne, upd_same]
    · rw [upd_ne ne] at nd; exact nd
    · have nd1 : H1 dx = none := by rw [upd_ne ne] at nd; exact nd
      have eH : upd (del (upd (upd (upd H1 a (exo a (He.ga X.K x) none)) dx (exd dx [(fl, v)])) a (exo a (He.ga X.K x) (some dx))) a) dx (.xd [(fl, v)]) = upd H1 dx (.xd [(fl, v)]) := by
        funext b
        by_cases hb : b = dx
        · rw [hb, upd_same, upd_same]
        · rw [upd_ne hb, upd_ne hb]
          by_cases hba : b = a
          · rw [hba, del_same, na]
          · rw [del_ne hba, upd_ne hba, upd_ne hb, upd_ne hba]
      rw [eH]
      have gn := g1.s.free nd1
      refine q _ _ (upd G1 dx (.xd [(fl, v)])) _ (g1.trans (Grow.share g1.s nd1)) ⟨rfl, .inr ⟨dx, [(fl, v)], rfl, upd_same, ?_⟩⟩
      exact ⟨v, [], rfl, Rep.mono (Grow.share (o := .xd [(fl, v)]) g1.s nd1).g _ r1, rfl⟩
end
end DL
namespace DL
open PySem PySem.Spec PyProof.Rows L2
variable [TheW]
/-! ### try: body, except x as n: suite; the exception is told of behind it -/
section
variable {X : Cx} {pins : List (Addr × Obj)} {σ : L2.St} {H : Hp} {s : Shared} {a : Addr} {o : HO}
/-- an object that stands is told of -/
theorem inv_told (I : Inv X pins σ H s) (hs0 : X.s_0.heap.get? a = none) (na : H a = none) (hp : ∀ p ∈ X.pn ++ pins, p.1 ≠ a) (nL : X.env.locals ≠ a) (nc : ∀ x c, X.env.cells.lookup x = some c → c ≠ a) (ok : ObjOk X.prog X.w (upd H a o) s.heap a o) : Inv X pins σ (upd H a o) s := by
  have nH : ∀ {b : Addr} {u : HO}, H b = some u → b ≠ a := fun {b u} e z => by rw [z, na] at e; cases e
  refine ⟨I.ok, I.os, I.bare, ⟨I.base.keep, I.base.slot, fun b ob e n hx => ?_, I.base.there, fun b xs e => ?_, fun b ob u e => ?_, fun b ps e => ?_⟩, I.loc, I.cell, ?_, fun x c e => ?_, fun p hp' => ?_, fun b u e => ?_, I.len⟩
  · have : b ≠ a := fun z => by rw [z, hs0] at e; cases e
    rw [upd_ne this]
    exact I.base.free b ob e n hx
  · have z := I.base.tups b xs e
    rw [upd_ne (nH z)]
    exact z
  · have z := I.base.frzs b ob u e
    rw [upd_ne (nH z)]
    exact z
  · obtain ⟨more, z⟩ := I.base.tbls b ps e
    exact ⟨more, by rw [upd_ne (nH z)]; exact z⟩
  · rw [upd_ne nL]
    exact I.free
  · rw [upd_ne (nc x c e)]
    exact I.freeC x c e
  · obtain ⟨z1, z2, z3, z4, z5⟩ := I.pin p hp'
    exact ⟨z1, by rw [upd_ne (hp p hp')]; exact z2, z3, z4, z5⟩
  · by_cases hb : b = a
    · subst hb
      rw [upd_same] at e
      cases e
      exact ok
    · rw [upd_ne hb] at e
      exact (I.hok b u e).stay (fun c v _ q => q) (fun c q => by rw [upd_ne (nH q)]; exact q) fun c xs q => by rw [upd_ne (nH q)]; exact q
theorem xcO_ok {P : Program} {w : World} {H : Hp} {h : Heap} {C : Addr} {d : Option Addr} {oe : Obj} (e : h.get? a = some oe) (z : L2.Zc (.ref C) d oe) (f : ∃ vs, oe.data = .fields vs) : ObjOk P w H h a (XcO a C d) := by
  obtain ⟨vs, f⟩ := f
  exact ⟨⟨oe, vs, e, z, f⟩, ⟨_, e⟩, fun h1 h2 ⟨oe, vs, a1, a2, a3⟩ st => ⟨oe, vs, st _ a1, a2, a3⟩⟩
end
def wHeld (K : PySem.W.Frag) (c : Value) (i : Nat) (ts : Addr → Value → Option Addr → TS) (Wout : WX) (D : Ends) : WX := fun cls d σ H =>
  ∃ b, PySem.W.exmOne K cls c = some b ∧ (b = true → ∃ C, cls = .ref C ∧ ∀ a, H a = none → ts a cls d { nx := fun σ' H' => D.nx (σ'.set i none) (upd H' a (XcO a C d)), rt := fun _ _ => False, bk := fun _ _ => False, ct := fun _ _ => False } (σ.set i (some (.ref a))) H) ∧
    (b = false → Wout cls d σ H)
section
variable {X : Cx} {x n : Str} {c : Value} {i : Nat} {body suite : List Stmt} {b₀ : Stmt} {np pos pos' : Pos} {tb : WX → TS} {ts : Addr → Value → Option Addr → TS} {Wout : WX}
end
end DL
namespace DL
open PySem PySem.Spec PyProof.Rows L2
variable [TheW]
/-! ### a lambda without parameters, handed to a def that calls it -/
section
variable {X : Cx} {pins : List (Addr × Obj)} {σ : L2.St} {G H : Hp} {s : Shared}
abbrev lamO (X : Cx) (params : Arguments) (body : Expr) (scope : Scope) (pm : Value) (c' : Addr) (ctv : Value) : Obj := PySem.W.kla_obj "<lambda>" (X.env.qual ++ "<lambda>") params body scope (cloFrom X.env.cells scope.names []) pm c' ctv
end
end DL
namespace DL
open PySem PySem.Spec PyProof.Rows L2
variable [TheW]
/-! ### a def that calls the lambda that it got -/
section
variable {X : Cx} {pins : List (Addr × Obj)} {σ : L2.St} {H : Hp} {s : Shared}
end
abbrev TLam := (XK → Hp → VK → Prop) → Hp → VK → Prop
/-- the def at g with the body bg calls the lambda that it gets as a; TT: what it makes of it -/
def Gives2 (P : Program) (w : World) (K : PySem.W.Frag) (mg : Str → Option Value) (base : Heap) (k : Nat) (Ng : List Str) (x : Str) (sg : Scope) (g : Addr) (bg : List Stmt) (a : Str) (TT : TLam) : Prop :=
  ∀ (cdg : Value) (q : Str) (A : Around) (outer : List Env) (f c' : Addr) (s : Shared) (H : Hp) (Q : VK) (tl : XK → Hp → VK → Prop), Room k (A.deeper (envOfC x sg s.heap.objs.size g cdg)) →
    (∀ (W : WX) (pn : List (Addr × Obj)) (xe : Value → Shared → Prop) (p1 p2 : Pos), Takes ((cxOf CX0 P w K mg base Ng x sg g cdg A outer s H E0).tr pn xe) W →
      PE ((cxOf CX0 P w K mg base Ng x sg g cdg A outer s H E0).tr pn xe) (.Call (.Name a p1) [] [] p2) (fun σZ HZ Q => ∃ E : XK, (∀ cls d H', E cls d H' → W cls d σZ H') ∧ σZ[0]? = some (some (.ref f)) ∧ HZ c' = some (LamX.CodeO c' q) ∧ tl E HZ Q)) →
    H c' = some (LamX.CodeO c' q) → TT tl H Q →
    ∃ t, PSs (cxOf CX0 P w K mg base Ng x sg g cdg A outer s H E0).nox bg t ∧ t { nx := fun _ H' => Q .non H', rt := Q } (L2.start Ng [.ref f]) H
structure CallL (P : Program) (w : World) (K : PySem.W.Frag) (mg : Str → Option Value) (base : Heap) (k : Nat) (x : Str) (TT : TLam) : Prop where
  ex : ∃ (st : Stmt) (Ng : List Str) (a : Str), FnF K mg x st ∧ FnScope Ng [a] (defScope st) ∧ Ng[0]? = some a ∧ Vis (defScope st) a ∧ (a == ("__debug__" : Str)) = false ∧ (a == ("__classdict__" : Str)) = false ∧
    (∀ (kV doc pm : Value) (an : Option Addr) (cdv ct : Value) (us : List Value), us.length = [a].length → bindArgs (PySem.W.fnOf x x (defArgs st) (defBody st) (defScope st) .none kV doc pm an cdv ct) ⟨us, []⟩ = pure ([a].zip us)) ∧
    Gives2 P w K mg base k Ng x (defScope st) (He.ga K x) (defBody st) a TT
def tLam2 (K : PySem.W.Frag) (c : Ct) (TT : TLam) (t : XK → TE) : TE := fun σ H Q => ∃ G ρ, At K c G σ H ρ ∧ ∀ G1 H1, Grow G H G1 H1 → TT (fun E H' Q' => t E σ H' Q') H1 Q
section
variable {X : Cx} {c : Ct}
end
end DL
namespace DL
open PySem PySem.Spec PyProof.Rows L2
variable [TheW]
/-! ### held = None; try: work() / except C as e: held = e; .. -/
/-- what the def makes of it: R of None or of the exception -/
def PC (K : PySem.W.Frag) (G H : Hp) (Q : VK) : Res D → Prop
  | .ok d => ∀ v G' H', Grow G H G' H' → rx K H d v G' H' → Q v H'
  | _ => False
def TTc (K : PySem.W.Frag) (hc : Str) (R : D → Res D) : TLam := fun tl H Q => ∃ G, Same G H ∧ Tabs G H ∧ NTG G ∧
  ∀ (E : XK) (Q' : VK), (∀ cls d G2 H2 C fs, Grow G H G2 H2 → RepX K G2 C fs cls d → PySem.W.exmOne K cls (.ref (He.ga K hc)) = some true → PC K G H Q (R (.exc C fs)) → E cls d H2) → (∀ v G2 H2, Grow G H G2 H2 → PC K G H Q (R .non) → Q' v H2) → tl E H Q'
/-- the rest of the def's body, of None or of the exception -/
def runC (n j : Nat) (st : S) : D → Res D := fun d => match st ((List.replicate n none).set j (some d)) with
  | .nx _ => .ok .non
  | .ret d _ => .ok d
  | _ => .stuck
theorem repX_exc {K : PySem.W.Frag} {G : Hp} {C : Str} {fs : List (Str × D)} {cls : Value} {dd : Option Addr} {a C' : Addr} (e : cls = .ref C') (r : RepX K G C fs cls dd) (na : G a = none) : Rep K (upd G a (XcO a C' dd)) (.exc C fs) (.ref a) := by
  obtain ⟨h1, h2⟩ := r
  rw [h1] at e
  cases e
  have gg : Same G (upd G a (XcO a (He.ga K C) dd)) := fun b o e => by rw [upd_ne (ne_of_none e na)]; exact e
  refine ⟨a, dd, rfl, upd_same, ?_⟩
  rcases h2 with h2 | ⟨b, fv, z1, z2, z3⟩
  · exact .inl h2
  · exact .inr ⟨b, fv, z1, gg _ _ z2, RepF.mono gg _ z3⟩
section
variable {P : Program} {w : World} {K : PySem.W.Frag} {mg : Str → Option Value} {base : Heap} {k i j : Nat} {Ng : List Str} {x a held n hc : Str} {sg : Scope} {g : Addr} {rest : List Stmt} {st : S} {p0 p1 p2 p3 p4 p5 p6 p7 p8 p9 p10 p11 : Pos}
end
end DL
namespace DL
open PySem PySem.Spec PyProof.Rows L2
variable [TheW]
/-! ### what an exception is; its fields -/
/-- an own exception class, asked by isinstance and for its fields -/
structure XiC (K : PySem.W.Frag) (C : Addr) : Prop where
  cl : (PySem.W.clsIn K C).isSome = true
  ga : PySem.W.findIn K (.ref C) "__getattribute__" = some (some (.builtin "BaseException.__getattribute__"))
  gg : PySem.W.findIn K (.ref C) "__getattr__" = some none
  exC : PySem.W.subIn K (.ref C) (.type "BaseException") = some true
  hdC : PySem.W.hasDictIn K C = true
  ha : PySem.W.findIn K (.ref C) "__class__" = some (some (.builtin "object.__class__"))
  hn : PySem.W.specialIn K (.builtin "object.__class__") "__get__" = some (some (.builtin "getset_descriptor.__get__"))
  ht : PySem.W.takesIn K (.builtin "object.__class__") = some true
  hm : PySem.W.mroIn K C (.type "object") = some true
def xiB (K : PySem.W.Frag) (C : Addr) : Bool := (PySem.W.clsIn K C).isSome && (xfB K C && (decide (PySem.W.findIn K (.ref C) "__class__" = some (some (.builtin "object.__class__"))) && (decide (PySem.W.specialIn K (.builtin "object.__class__") "__get__" = some (some (.builtin "getset_descriptor.__get__"))) && (decide (PySem.W.takesIn K (.builtin "object.__class__") = some true) && decide (PySem.W.mroIn K C (.type "object") = some true)))))
theorem xiB_ok {K : PySem.W.Frag} {C : Addr} (h : xiB K C = true) : XiC K C := by
  obtain ⟨h1, h⟩ := Bool.and_eq_true_iff.mp h
  obtain ⟨h2, h⟩ := Bool.and_eq_true_iff.mp h
  obtain ⟨h3, h⟩ := Bool.and_eq_true_iff.mp h
  obtain ⟨h4, h⟩ := Bool.and_eq_true_iff.mp h
  obtain ⟨h5, h6⟩ := Bool.and_eq_true_iff.mp h
  have f := xfB_ok h2
  exact ⟨h1, f.ga, f.gg, f.exC, f.hdC, of_decide_eq_true h3, of_decide_eq_true h4, of_decide_eq_true h5, of_decide_eq_true h6⟩
/-- the object is there, and its dict -/
theorem xc_inst {X : Cx} {pins : List (Addr × Obj)} {σ : L2.St} {H : Hp} {s : Shared} {a C : Addr} {d : Option Addr} (I : Inv X pins σ H s) (ha : H a = some (XcO a C d)) (hd : d = none ∨ ∃ dd fv, d = some dd ∧ H dd = some (.xd fv)) :
    ∃ oe od, PySem.W.InstAt s.heap a oe C od ∧ ∀ dd fv, d = some dd → H dd = some (.xd fv) → ∃ (o : Obj) (mA : Str → Option Value), od = some o ∧ (∀ n, PySem.W.lookIn n o = some (mA n)) ∧ ∀ n, RelO (fv.lookup n) (mA n) := by
  have hx : ObjOk X.prog X.w H s.heap a (XcO a C d) := I.hok a _ ha
  obtain ⟨⟨oe, vs, e, z, f⟩, _⟩ := hx
  have no : PySem.W.notCls oe = true := by unfold PySem.W.notCls; rw [f] <;> rfl
  rcases hd with rfl | ⟨dd, fv, rfl, hd⟩
  · exact ⟨oe, none, ⟨e, z.1, no, by rw [z.2]; trivial⟩, fun dd fv z => by cases z⟩
  · have hx : ObjOk X.prog X.w H s.heap dd (.xd fv) := I.hok dd _ hd
    obtain ⟨mA, hns, hr⟩ := hx
    obtain ⟨od, ho, hl⟩ := lookIn_ns hns
    refine ⟨oe, some od, ⟨e, z.1, no, by rw [z.2]; exact ho⟩, fun dd' fv' e1 e2 => ?_⟩
    cases e1
    rw [hd] at e2
    cases e2
    exact ⟨od, mA, rfl, fun n => hl n, hr⟩
def rIsX (K : PySem.W.Frag) : List V → Hp → VK → Prop := fun xs H Q => ∃ (a C : Addr) (d : Option Addr) (c : V) (cv : Value) (b : Bool), xs = [.ref a, c] ∧ (∀ u, RelV c u → u = cv) ∧ H a = some (XcO a C d) ∧ (d = none ∨ ∃ dd fv, d = some dd ∧ H dd = some (.xd fv)) ∧ XiC K C ∧ PySem.W.kitOne K (.ref C) cv = some b ∧ Q (.bl b) H
theorem call_isX {X : Cx} : CallR X (.builtin "isinstance") (rIsX X.K) := by
  intro pins s σ H xs us Q I r h
  obtain ⟨a, C, d, c, cv, b, rfl, hcv, ha, hd, F, e, q⟩ := h
  obtain ⟨u1, u2, rfl, r1, r2⟩ := vals2 r
  obtain rfl : u1 = Value.ref a := r1
  have ec := hcv _ r2
  subst ec
  obtain ⟨oe, od, J, _⟩ := xc_inst I ha hd
  exact PySem.W.kia_one (PySem.W.kitx_exc F.cl F.ga F.gg F.exC F.ha F.hn F.ht F.hm) I.kIn J e (fun z => nomatch z) fun tk => ⟨.bl b, H, I.tok tk, rfl, q⟩
/-- of which classes the exception may be, and what isinstance says of each -/
structure IsXT (K : PySem.W.Frag) (cv : Value) (tab : List (Str × Bool)) : Prop where
  f : ∀ p ∈ tab, XiC K (He.ga K p.1)
  k : ∀ p ∈ tab, PySem.W.kitOne K (.ref (He.ga K p.1)) cv = some p.2
def isXB (K : PySem.W.Frag) (cv : Value) (tab : List (Str × Bool)) : Bool := tab.all fun p => xiB K (He.ga K p.1) && decide (PySem.W.kitOne K (.ref (He.ga K p.1)) cv = some p.2)
theorem isXB_ok {K : PySem.W.Frag} {cv : Value} {tab : List (Str × Bool)} (h : isXB K cv tab = true) : IsXT K cv tab :=
  ⟨fun p hp => xiB_ok (Bool.and_eq_true_iff.mp (List.all_eq_true.mp h p hp)).1, fun p hp => of_decide_eq_true (Bool.and_eq_true_iff.mp (List.all_eq_true.mp h p hp)).2⟩
def tabX (tab : List (Str × Bool)) (C : Str) : Option Bool := match tab with
  | [] => none
  | (x, b) :: r => if C = x then some b else tabX r C
theorem tabX_mem {tab : List (Str × Bool)} {C : Str} {b : Bool} (h : tabX tab C = some b) : (C, b) ∈ tab := by
  induction tab with
  | nil => cases h
  | cons p r ih =>
    obtain ⟨x, b'⟩ := p
    unfold tabX at h
    split at h
    · rename_i e
      cases h
      rw [e]
      exact List.mem_cons_self
    · exact List.mem_cons_of_mem _ (ih h)
def isXD (tab : List (Str × Bool)) (d : D) : Res D := match d with
  | .exc C _ => (match tabX tab C with
    | some b => .ok (.bl b)
    | none => .stuck)
  | _ => .stuck
def fldXD (cs : List Str) (n : Str) (d : D) : Res D := match d with
  | .exc C fs => if C ∈ cs then (match fldL fs n with
    | some x => .ok x
    | none => .stuck) else .stuck
  | _ => .stuck
structure FdXT (K : PySem.W.Frag) (n : Str) (cs : List Str) : Prop where
  f : ∀ C ∈ cs, XiC K (He.ga K C)
  no : ∀ C ∈ cs, PySem.W.findIn K (.ref (He.ga K C)) n = some none
def fdXB (K : PySem.W.Frag) (n : Str) (cs : List Str) : Bool := cs.all fun C => xiB K (He.ga K C) && decide (PySem.W.findIn K (.ref (He.ga K C)) n = some none)
theorem fdXB_ok {K : PySem.W.Frag} {n : Str} {cs : List Str} (h : fdXB K n cs = true) : FdXT K n cs :=
  ⟨fun p hp => xiB_ok (Bool.and_eq_true_iff.mp (List.all_eq_true.mp h p hp)).1, fun p hp => of_decide_eq_true (Bool.and_eq_true_iff.mp (List.all_eq_true.mp h p hp)).2⟩
theorem exc_dict {K : PySem.W.Frag} {G H : Hp} (s : Same G H) {fs : List (Str × D)} {d : Option Addr} (h : (fs = [] ∧ d = none) ∨ ∃ b fv, d = some b ∧ G b = some (.xd fv) ∧ RepF K G fs fv) : d = none ∨ ∃ dd fv, d = some dd ∧ H dd = some (.xd fv) := by
  rcases h with ⟨_, h⟩ | ⟨b, fv, h1, h2, _⟩
  · exact .inl h
  · exact .inr ⟨b, fv, h1, s _ _ h2⟩
section
variable {c : Ct} {W : WX} {X : Cx} {a e : Expr} {f g : P D} {p pos : Pos}
theorem isX_post {σ : L2.St} {H : Hp} {Q : VK} {tab : List (Str × Bool)} {cv : Value} {cc : V} {G1 H1 : Hp} {dx : D} {x : V} (T : IsXT X.K cv tab) (hcv : ∀ u, RelV cc u → u = cv) (s : Same G1 H1) (r1 : RdO X.K G1 H1 dx x) (p1 : PostP X.K W σ G1 H1 (fun _ => rv X.K H) Q (isXD tab dx)) : rIsX X.K [x, cc] H1 Q := by
  unfold isXD at p1
  cases dx with
  | exc C fs =>
    dsimp only at p1
    cases o : tabX tab C with
    | none => rw [o] at p1; exact p1.elim
    | some b =>
      rw [o] at p1
      have hm := tabX_mem o
      obtain ⟨a, d, rfl, h2, h3⟩ := r1
      exact ⟨a, _, d, cc, cv, b, rfl, hcv, s _ _ h2, exc_dict s h3, T.f _ hm, T.k _ hm, p1 _ G1 H1 (.refl s) rfl⟩
  | _ => exact p1.elim
theorem dp_isX {q1 : Pos} {y : Str} {tab : List (Str × Bool)} (ha : DB c W X a f) (T : IsXT X.K (.ref (He.ga X.K y)) tab) (hm : X.mg "isinstance" = none) (hmy : X.mg y = some (.ref (He.ga X.K y))) (hg : Gl X "isinstance" := by rfl) (hgy : Gl X y := by rfl) (hdy : (y == ("__debug__" : Str)) = false := by decide)
    (h1 : starEach (a :: [.Name y q1]) X.env = (false, eval a X.env) :: starEach [.Name y q1] X.env := by rfl) (h2 : starEach [.Name y q1] X.env = (false, eval (.Name y q1) X.env) :: starEach [] X.env := by rfl) (hpl : (backTo pos (starEach [.Name y q1] X.env)).any (·.1) = false := by rfl) :
    DP c W X (.Call (.Name "isinstance" p) [a, .Name y q1] [] pos) (pUn (isXD tab) f) := by
  have hy : PE X (.Name y q1) (tC (.ref (He.ga X.K y))) := ⟨fun pins s σ H Q I h => ld_glob I hgy hmy ⟨.ref (He.ga X.K y), H, I, rfl, h⟩ hdy⟩
  exact PE.imp (pe_callB call_isX hg hm (by decide +kernel) (pa_cons ha (pa_cons hy pa_nil h2) h1) (by decide) (by decide) h1 hpl) fun σ H Q ⟨G, ρ, A, p⟩ => ⟨G, ρ, A, (PostP.bind p).imp fun x H1 ⟨dx, G1, g1, r1, p1⟩ => isX_post T (fun u r => r) g1.s r1 p1⟩
theorem dp_isXb {q1 : Pos} {y : Str} {T' : String} {tab : List (Str × Bool)} (ha : DB c W X a f) (T : IsXT X.K (.type T') tab) (hm : X.mg "isinstance" = none) (hmT : X.mg y = none) (hvT : bootBuiltins y = some (.type T')) (hg : Gl X "isinstance" := by rfl) (hgT : Gl X y := by rfl)
    (hnT : y ≠ "__name__" := by decide) (hdT : (y == ("__debug__" : Str)) = false := by decide)
    (h1 : starEach (a :: [.Name y q1]) X.env = (false, eval a X.env) :: starEach [.Name y q1] X.env := by rfl) (h2 : starEach [.Name y q1] X.env = (false, eval (.Name y q1) X.env) :: starEach [] X.env := by rfl) (hpl : (backTo pos (starEach [.Name y q1] X.env)).any (·.1) = false := by rfl) :
    DP c W X (.Call (.Name "isinstance" p) [a, .Name y q1] [] pos) (pUn (isXD tab) f) :=
  PE.imp (pe_callB call_isX hg hm (by decide +kernel) (pa_cons ha (pa_cons (pe_bltn (v := .ty T') hgT hmT hvT rfl hnT hdT) pa_nil h2) h1) (by decide) (by decide) h1 hpl) fun σ H Q ⟨G, ρ, A, p⟩ => ⟨G, ρ, A, (PostP.bind p).imp fun x H1 ⟨dx, G1, g1, r1, p1⟩ => isX_post T (fun u r => r) g1.s r1 p1⟩
theorem dp_fldX {n : Str} {cs : List Str} (T : FdXT X.K n cs) (he : DP c W X e g) (hb : attributeBase e n X.env (eval e X.env) = eval e X.env := by rfl) : DP c W X (.Attribute e n pos) (pUn (fldXD cs n) g) := by
  refine ⟨fun pins s σ H Q I h => ?_⟩
  obtain ⟨G, ρ, A, p⟩ := h
  refine attr_of hb (thn (he.run pins s σ H _ I ⟨G, ρ, A, PostP.bind p⟩) fun u s1 ⟨x, H1, I1, rx, dx, G1, g1, r1, p1⟩ => ?_)
  unfold fldXD at p1
  cases dx with
  | exc C fs =>
    dsimp only at p1
    split at p1
    case isFalse => exact p1.elim
    rename_i hC
    cases o : fldL fs n with
    | none => rw [o] at p1; exact p1.elim
    | some d =>
      rw [o] at p1
      obtain ⟨a, dd, rfl, h2, h3⟩ := r1
      obtain rfl : u = Value.ref a := rx
      rcases h3 with ⟨h3, _⟩ | ⟨b, fv, rfl, h4, h5⟩
      · subst h3; cases o
      · have l := repF_lookup (f := n) h5
        rw [o] at l
        obtain ⟨v, l1, l2⟩ := l
        obtain ⟨oe, od, J, hod⟩ := xc_inst I1 (g1.s _ _ h2) (.inr ⟨b, fv, rfl, g1.s _ _ h4⟩)
        obtain ⟨oo, mA, rfl, hl, hr⟩ := hod b fv rfl (g1.s _ _ h4)
        have F := T.f C hC
        obtain ⟨u, hu, ru⟩ := RelO.some_of (v := v) (o := mA n) (by rw [← l1]; exact hr n)
        exact HandSPX.exc_get I1.kIn J F.ga F.gg F.exC (PySem.W.findObj_own F.hdC (T.no C hC) rfl (by rw [hl, hu])) (handed_of ru) ⟨v, H1, I1.tok _, ru, p1 v G1 H1 (.refl g1.s) l2⟩
  | _ => exact p1.elim
end
end DL
namespace DL
open PySem PySem.Spec PyProof.Rows L2
variable [TheW]
/-! ### a def that may raise, called where it does not -/
def noX (F : Fd) : Fd := fun ds => match F ds with
  | .ok d ρ => .ok d ρ
  | _ => .stuck
section
variable {P : Program} {w : World} {K : PySem.W.Frag} {mg : Str → Option Value} {base : Heap} {k n : Nat} {F : Fd} {f : Addr} {fd : FuncData} {ps : List Str}
end
/-! ### the def that catches -/
section
variable {P : Program} {w : World} {K : PySem.W.Frag} {mg : Str → Option Value} {base : Heap} {k i j : Nat} {Ng : List Str} {x a held n hc : Str} {stm : Stmt} {rest : List Stmt} {s : S} {p0 p1 p2 p3 p4 p5 p6 p7 p8 p9 p10 p11 : Pos}
end
/-- caught(lambda: e): R of None, or of the exception -/
def pCaught (cs : List Str) (R : D → Res D) (f : DL.P D) : DL.P D := fun ρ => match f ρ with
  | .ok _ => R .non
  | .exn C fs => if C ∈ cs then R (.exc C fs) else .stuck
  | .stuck => .stuck
section
variable {c : Ct} {W : WX} {X : Cx} {k : Nat}
end
end DL
namespace DL
open PySem PySem.Spec PyProof.Rows L2
/-! ### what the head asks of exception classes -/
def oexB (K : PySem.W.Frag) (C : Addr) : Bool := (match K.lookup C with
  | some ⟨.type "type", _, .cls cd, sl⟩ => (match cd.mro, sl.toList with
    | .ref C' :: bm, [_, _, _, _, some (.builtin n), _] => decide (C' = C) && (decide (n = "ValueError.__new__") && (cd.hasDict && (!cd.hasDel && PySem.HandSPX.refsVE bm)))
    | _, _ => false)
  | _ => false) && (decide (PySem.W.findIn K (.ref C) "__setattr__" = some (some (.builtin "object.__setattr__"))) && (decide (PySem.W.subIn K (.ref C) (.type "BaseException") = some true) && (decide (PySem.W.typeIn K (.ref C) = some (.type "type")) && PySem.W.keepIn K (.ref C))))
theorem oexB_ok {K : PySem.W.Frag} {C : Addr} (h : oexB K C = true) : OexC K C := by
  obtain ⟨h1, h⟩ := Bool.and_eq_true_iff.mp h
  obtain ⟨h2, h⟩ := Bool.and_eq_true_iff.mp h
  obtain ⟨h3, h⟩ := Bool.and_eq_true_iff.mp h
  obtain ⟨h4, h5⟩ := Bool.and_eq_true_iff.mp h
  refine ⟨?_, of_decide_eq_true h2, of_decide_eq_true h3, of_decide_eq_true h4, h5⟩
  split at h1
  case h_2 => cases h1
  rename_i dd cd sl ho
  split at h1
  case h_2 => cases h1
  rename_i C' bm k0 k1 k2 k3 n k5 hm hs
  obtain ⟨e1, h1⟩ := Bool.and_eq_true_iff.mp h1
  obtain ⟨e2, h1⟩ := Bool.and_eq_true_iff.mp h1
  obtain ⟨e3, h1⟩ := Bool.and_eq_true_iff.mp h1
  obtain ⟨e4, e5⟩ := Bool.and_eq_true_iff.mp h1
  have e1 := of_decide_eq_true e1
  have e2 := of_decide_eq_true e2
  subst e1 e2
  obtain ⟨nm, bs, mro, ns, qn, hd, sn, sub, ab, col, del⟩ := cd
  dsimp only at hm e3 e4
  have e4 : del = false := by simpa using e4
  subst hm e3 e4
  have hsl : sl = #[k0, k1, k2, k3, some (.builtin "ValueError.__new__"), k5] := by
    obtain ⟨l⟩ := sl
    simp only at hs
    rw [hs]
  subst hsl
  exact ⟨nm, qn, ns, bs, bm, sn, sub, ab, col, dd, k0, k1, k2, k3, k5, ho, e5⟩
def exIB (K : PySem.W.Frag) (x f : Str) : Bool := oexB K (He.ga K x) && (decide (PySem.W.findIn K (.ref (He.ga K x)) "__init__" = some (some (.ref (He.ma K (He.ga K x) "__init__")))) && (decide (PySem.W.typeIn K (.ref (He.ma K (He.ga K x) "__init__")) = some (.type "function")) && decide (PySem.W.findIn K (.ref (He.ga K x)) f = some none)))
theorem exIB_ok [TheW] {K : PySem.W.Frag} {mg : Str → Option Value} {x f qual : Str} {st : Stmt} (h : exIB K x f = true) (fd : ∃ fd, FunD K "__init__" qual (defArgs st) (defBody st) (defScope st) [] [] (He.ma K (He.ga K x) "__init__") fd) (m : mg x = some (.ref (He.ga K x))) : ExI K mg x f qual st := by
  obtain ⟨h1, h⟩ := Bool.and_eq_true_iff.mp h
  obtain ⟨h2, h⟩ := Bool.and_eq_true_iff.mp h
  obtain ⟨h3, h4⟩ := Bool.and_eq_true_iff.mp h
  exact ⟨oexB_ok h1, of_decide_eq_true h2, of_decide_eq_true h3, of_decide_eq_true h4, fd, m⟩
/-- findCls's answer, as a Bool -/
def fcB (K : PySem.W.Frag) (c mc : Value) (name : Str) (u : Value) : Bool := match PySem.W.findCls K c mc name with
  | some (.val v) => decide (v = u)
  | _ => false
theorem fcB_ok {K : PySem.W.Frag} {c mc : Value} {name : Str} {u : Value} (h : fcB K c mc name u = true) : PySem.W.findCls K c mc name = some (.val u) := by
  unfold fcB at h
  split at h
  · rename_i v e
    rw [e, of_decide_eq_true h]
  · cases h
def exB2 (K : PySem.W.Frag) (b : Str) : Bool := PySem.W.readsIn K (He.ga K b) (.type "type") && (decide (PySem.W.specialIn K (.ref (He.ga K b)) "__getattribute__" = some (some (.builtin "type.__getattribute__"))) && fcB K (.ref (He.ga K b)) (.type "type") "__init__" (.builtin "ValueError.__init__"))
theorem exB2_ok [TheW] {K : PySem.W.Frag} {mg : Str → Option Value} {b : Str} (h : exB2 K b = true) (m : mg b = some (.ref (He.ga K b))) : ExB K mg b := by
  obtain ⟨h1, h⟩ := Bool.and_eq_true_iff.mp h
  obtain ⟨h2, h3⟩ := Bool.and_eq_true_iff.mp h
  exact ⟨m, h1, of_decide_eq_true h2, fcB_ok h3⟩
theorem exN_ok [TheW] {K : PySem.W.Frag} {mg : Str → Option Value} {x : Str} (c : (He.Fa.exc x).ok K = true) (m : mg x = some (.ref (He.ga K x))) : ExN K mg x := by
  obtain ⟨h1, h2, h3, h4⟩ := He.exc_ok c
  exact ⟨h1, h2, h3, h4, m⟩
/-- which classes the clause catches -/
structure EmT (K : PySem.W.Frag) (hc : Str) (cs : List Str) : Prop where
  e : ∀ C ∈ cs, PySem.W.exmOne K (.ref (He.ga K C)) (.ref (He.ga K hc)) = some true
def emTB (K : PySem.W.Frag) (hc : Str) (cs : List Str) : Bool := cs.all fun C => decide (PySem.W.exmOne K (.ref (He.ga K C)) (.ref (He.ga K hc)) = some true)
variable [TheW]
/-! ### xs.insert(i, y) -/
def gIns : List D → List D → Option (D × List D)
  | ds, [.int k, d] => if 0 ≤ k ∧ k < 2 ^ 63 ∧ ds.length < LINE ∧ noMutL ds = true then some (.non, ds.take k.toNat ++ [d] ++ ds.drop k.toNat) else none
  | _, _ => none
def rIns : V → List V → Hp → VK → Prop := fun x vs H Q => ∃ (l : Addr) (xs : List V) (i : Int) (y : V), x = .ref l ∧ vs = [.int i, y] ∧ H l = some (.lst xs) ∧ xs.length < sizeLine ∧ 0 ≤ i ∧ i < 2 ^ 63 ∧ Q .non (upd H l (.lst (xs.take i.toNat ++ [y] ++ xs.drop i.toNat)))
section
variable {K : PySem.W.Frag}
end
end DL
namespace DL
open PySem PySem.Spec PyProof.Rows L2
variable [TheW]
/-! ### keyword calls of defs that may raise -/
def tCallNS (n m : Nat) (sp : Sp) (gV : List V → List V → List V) (E : L2.St → XK) (t tk : TA) : TE := fun σ H Q => t σ H fun vs H1 => tk σ H1 fun zs H2 => vs.length = n ∧ zs.length = m ∧ sp (gV vs zs) H2 Q (E σ)
section
variable {X : Cx} {CX : CXT} {k n : Nat} {f : Addr} {fd : FuncData} {ps ks : List Str} {sp : Sp} {E : L2.St → XK} {x : Str} {p pos : Pos} {e : Expr} {es : List Expr} {kws : List Keyword} {t tk : TA} {g : List Value → List Value → List Value} {gV : List V → List V → List V}
end
structure CallKX (P : Program) (w : World) (K : PySem.W.Frag) (mg : Str → Option Value) (base : Heap) (k : Nat) (x : Str) (ps : List Str) (F : Fd) (n : Nat) (ks : List Str) (gD : List D → List D → List D) : Prop where
  ex : ∃ fd g gV, FnOk P w K mg base (L2.CX P w) k (He.ga K x) fd ps (spFX K ps.length F) ∧ KBn K fd ps n ks g gV ∧ ∀ (G : Hp) (ds es : List D) (vs zs : List V), ds.length = n → es.length = ks.length → RepL K G ds vs → RepL K G es zs → RepL K G (gD ds es) (gV vs zs)
  m : mg x = some (.ref (He.ga K x))
  kp : PySem.W.keepIn K (.ref (He.ga K x)) = true
structure FnOX (P : Program) (w : World) (K : PySem.W.Frag) (mg : Str → Option Value) (base : Heap) (k : Nat) (x : Str) (st : Stmt) (ps : List Str) (F : Fd) (kws : List (Str × D)) : Prop where
  ex : ∃ fd kv, FunD K x x (defArgs st) (defBody st) (defScope st) [] kv (He.ga K x) fd ∧ kv.map (·.1) = kws.map (·.1) ∧ (∀ G, RepL K G (kws.map (·.2)) (kv.map (·.2))) ∧ FnOk P w K mg base (L2.CX P w) k (He.ga K x) fd ps (spFX K ps.length F)
  m : mg x = some (.ref (He.ga K x))
def pCallKX (F : Fd) (n m : Nat) (N : Nat) (gD : List D → List D → List D) (fs ks : DL.P (List D)) : DL.P D := fun ρ => (fs ρ).bind fun ds => (ks ρ).bind fun es => if ds.length = n ∧ es.length = m ∧ (gD ds es).length = N then resF (F (gD ds es)) else .stuck
section
variable {P : Program} {w : World} {K : PySem.W.Frag} {mg : Str → Option Value} {base : Heap} {x : Str} {st : Stmt} {N ps : List Str} {k j : Nat} {F : Fd} {kws : List (Str × D)}
end
section
variable {c : Ct} {W : WX} {X : Cx} {e : Expr} {es : List Expr} {kws : List Keyword} {f : DL.P D} {fs kf : DL.P (List D)} {pos p kpos : Pos} {x : Str} {k n m N : Nat} {ps ks : List Str} {F : Fd} {gD : List D → List D → List D}
end
end DL
namespace DL
open PySem PySem.Spec PyProof.Rows L2
variable [TheW]
/-! ### 'x' * n -/
def timesS (x : Str) (k : Int) : Str := ⟨(List.replicate k.toNat x.cps).foldl (· ++ ·) #[]⟩
def mulS : D → D → Res D
  | .str x, .int k => if 2 ≤ k ∧ k ≤ 1000 ∧ 0 < x.length ∧ x.length ≤ 1000 then .ok (.str (timesS x k)) else .stuck
  | _, _ => .stuck
def rMulS : R2 := fun x y H Q => ∃ (a : Str) (k : Int), x = .str a ∧ y = .int k ∧ 2 ≤ k ∧ k ≤ 1000 ∧ 0 < a.length ∧ a.length ≤ 1000 ∧ Q (.str (timesS a k)) H
end DL
namespace DL
open PySem PySem.Spec PyProof.Rows L2
variable [TheW]
/-! ### x, y = a, g(..) by way of the tuple, the first an object of one's own -/
section
variable {c : Ct} {W : WX} {X : Cx} {a b : Expr} {pos : Pos}
end
end DL
namespace DL
open PySem PySem.Spec PyProof.Rows L2
variable [TheW]
/-! ### repr([name, e]) of an own object, read in place -/
def pReprL2 (i : Nat) (g : P D) : P D := fun ρ => match ρ[i]? with
  | some (some (.mut d)) => (g ρ).bind fun e => reprD [.lst [thawO d, e]]
  | _ => .stuck
section
variable {c : Ct} {W : WX} {X : Cx} {x : Str} {b : Expr} {p p2 p3 pos : Pos} {i : Nat} {g : P D}
end
end DL
namespace DL
open PySem PySem.Spec PyProof.Rows L2
variable [TheW]
/-! ### catchers that use repr: they run where no repr is under way -/
/-- the def at g with the body bg calls the lambda that it gets as a; TT: what it makes of it -/
def Gives2Q (P : Program) (w : World) (K : PySem.W.Frag) (mg : Str → Option Value) (base : Heap) (k : Nat) (Ng : List Str) (x : Str) (sg : Scope) (g : Addr) (bg : List Stmt) (a : Str) (TT : TLam) : Prop :=
  ∀ (cdg : Value) (q : Str) (A : Around) (outer : List Env) (f c' : Addr) (s : Shared) (H : Hp) (Q : VK) (tl : XK → Hp → VK → Prop), Room k (A.deeper (envOfC x sg s.heap.objs.size g cdg)) → A.guards = some [] →
    (∀ (W : WX) (pn : List (Addr × Obj)) (xe : Value → Shared → Prop) (p1 p2 : Pos), Takes ((cxOf CX0 P w K mg base Ng x sg g cdg A outer s H E0).tr pn xe) W →
      PE ((cxOf CX0 P w K mg base Ng x sg g cdg A outer s H E0).tr pn xe) (.Call (.Name a p1) [] [] p2) (fun σZ HZ Q => ∃ E : XK, (∀ cls d H', E cls d H' → W cls d σZ H') ∧ σZ[0]? = some (some (.ref f)) ∧ HZ c' = some (LamX.CodeO c' q) ∧ tl E HZ Q)) →
    H c' = some (LamX.CodeO c' q) → TT tl H Q →
    ∃ t, PSs (cxOf CX0 P w K mg base Ng x sg g cdg A outer s H E0).nox bg t ∧ t { nx := fun _ H' => Q .non H', rt := Q } (L2.start Ng [.ref f]) H
structure CallLQ (P : Program) (w : World) (K : PySem.W.Frag) (mg : Str → Option Value) (base : Heap) (k : Nat) (x : Str) (TT : TLam) : Prop where
  ex : ∃ (st : Stmt) (Ng : List Str) (a : Str), FnF K mg x st ∧ FnScope Ng [a] (defScope st) ∧ Ng[0]? = some a ∧ Vis (defScope st) a ∧ (a == ("__debug__" : Str)) = false ∧ (a == ("__classdict__" : Str)) = false ∧
    (∀ (kV doc pm : Value) (an : Option Addr) (cdv ct : Value) (us : List Value), us.length = [a].length → bindArgs (PySem.W.fnOf x x (defArgs st) (defBody st) (defScope st) .none kV doc pm an cdv ct) ⟨us, []⟩ = pure ([a].zip us)) ∧
    Gives2Q P w K mg base k Ng x (defScope st) (He.ga K x) (defBody st) a TT
def tLam2Q (K : PySem.W.Frag) (c : Ct) (TT : TLam) (t : XK → TE) : TE := fun σ H Q => ∃ G ρ, At K c G σ H ρ ∧ ∀ G1 H1, Grow G H G1 H1 → TT (fun E H' Q' => t E σ H' Q') H1 Q
section
variable {X : Cx} {c : Ct}
end
section
variable {P : Program} {w : World} {K : PySem.W.Frag} {mg : Str → Option Value} {base : Heap} {k i j : Nat} {Ng : List Str} {x a held n hc : Str} {sg : Scope} {g : Addr} {rest : List Stmt} {st : S} {p0 p1 p2 p3 p4 p5 p6 p7 p8 p9 p10 p11 : Pos}
end
section
variable {P : Program} {w : World} {K : PySem.W.Frag} {mg : Str → Option Value} {base : Heap} {k i j : Nat} {Ng : List Str} {x a held n hc : Str} {stm : Stmt} {rest : List Stmt} {s : S} {p0 p1 p2 p3 p4 p5 p6 p7 p8 p9 p10 p11 : Pos}
end
section
variable {c : Ct} {W : WX} {X : Cx} {k : Nat}
end
end DL
namespace DL
open PySem PySem.Spec PyProof.Rows L2
variable [TheW]
/-! DL134: own tuples of own lists: [[..] for ..] with own items, tuple(..) of it, ([], [], []), x[k].append(v) at a name's index, repr(name) of an object of one's own or a shared one. -/
section
variable {K : PySem.W.Frag} {G H G' H' : Hp}
end
/-! ### comprehensions whose items are own -/
def pCompO (vs : List Nat) (t : Tgt) (src : P (List D)) (tt : P Bool) (te : P D) : P D := fun ρ => (src ρ).bind fun ds => (compL (item vs t tt te ρ) ds).bind fun r => mkLst (r.map D.mut)
section
variable {c : Ct} {W : WX} {K : PySem.W.Frag} {G H G1 H1 : Hp} {σ : L2.St} {ρ : Rho} {Q : VK} {vs : List Nat} {t : Tgt} {tt : P Bool} {te : P D} {ds : List D} {J : It}
structure LcO (K : PySem.W.Frag) (G1 H1 : Hp) (Dd : Addr) (g : D → Res (Option D)) (ds res : List D) (i : Nat) (Hc : Hp) : Prop where
  ex : ∃ Gc vs acc rest f, Grow G1 H1 Gc Hc ∧ Hc Dd = some (.lst vs) ∧ Gc Dd = none ∧ OwnL K Gc Hc (acc.map D.mut) vs f ∧ (∀ a ∈ f, Gc a = none ∧ H1 a = none) ∧ Dd ∉ f ∧ compL g (ds.drop i) = .ok rest ∧ acc ++ rest = res
end
section
variable {c : Ct} {W : WX} {X : Cx} {elt tg iter e : Expr} {es ifs : List Expr} {scope : Scope} {own : List (Str × Nat)} {pos p p2 : Pos} {t : Tgt} {src : P (List D)} {tt : P Bool} {te f : P D} {fs : P (List D)}
/-! ### tuple(e) of an own list: an own tuple -/
def tupOf : D → Res D
  | .lst ds => .ok (.tup ds)
  | _ => .stuck
def pTupO (f : P D) : P D := fun ρ => (f ρ).bind tupOf
/-! ### displays of own parts -/
def rox (K : PySem.W.Frag) : RR (List D) (List V) := fun H0 ds vs G H => ∃ fp, OwnL K G H ds vs fp ∧ ∀ a ∈ fp, G a = none ∧ H0 a = none
abbrev DXA (c : Ct) (W : WX) (X : Cx) (es : List Expr) (f : P (List D)) : Prop := PA X es (tP X.K c W (rox X.K) f)
def pConsX (f : P D) (g : P (List D)) : P (List D) := fun ρ => (f ρ).bind fun d => (g ρ).bind fun ds => .ok (d :: ds)
def pTupX (fs : P (List D)) : P D := fun ρ => (fs ρ).bind mkTup
end
/-! ### x[k].append(v) -/
def mTLstG (i : Nat) (kf af : P D) : M D := fun ρ => match kf ρ, af ρ, ρ[i]? with
  | .ok (.int n), .ok d, some (some (.mut (.tup ds))) => (match ds[n.toNat]? with
    | some (.mut (.lst xs)) => if 0 ≤ n ∧ noMutL xs = true ∧ xs.length < LINE then .ok .non (ρ.set i (some (.mut (.tup (ds.set n.toNat (.mut (.lst (xs ++ [d])))))))) else .stuck
    | _ => .stuck)
  | _, _, _ => .stuck
section
variable {c : Ct} {W : WX} {X : Cx} {p p2 apos cpos : Pos} {x : Str} {ke ve : Expr} {kf af : P D} {σ : L2.St} {G H : Hp}
end
/-! ### repr(name) -/
def pReprE (i : Nat) : P D := fun ρ => match ρ[i]? with
  | some (some (.mut d)) => reprD [thawO d]
  | some (some d) => reprD [d]
  | _ => .stuck
section
variable {c : Ct} {W : WX} {X : Cx} {x : Str} {p p2 pos : Pos} {i : Nat}
end
end DL
namespace DL
open PySem PySem.Spec PyProof.Rows L2
variable [TheW]
/-! DL135: repr(x) where x may be the empty dict. -/
def reprD0 : List D → Res D
  | [.dict []] => .ok (.str (PyData.dict []).shown)
  | xs => reprD xs
def rReprD0 (K : PySem.W.Frag) : List V → Hp → VK → Prop := fun xs H Q => (∃ a, xs = [.ref a] ∧ Rd H a (.dK []) ∧ Q (.str (PyData.dict []).shown) H) ∨ rReprD K xs H Q
section
variable {X : Cx}
variable {c : Ct} {W : WX} {e : Expr} {es : List Expr} {p pos : Pos}
end
end DL
namespace DL
open PySem PySem.Spec PyProof.Rows L2
variable [TheW]
/-! DL136: defs as values: f (a def's name) in a display, x(..) where x holds a def. -/
section
variable {c : Ct} {W : WX} {X : Cx} {x : Str} {pos : Pos}
end
section
variable {X : Cx} {CX : CXT} {k n i : Nat} {ks : List Str} {ps : List Str} {E : L2.St → XK} {x : Str} {p pos : Pos} {e : Expr} {es : List Expr} {kws : List Keyword} {t tk : TA}
/-- the def that the variable holds, called -/
def tCallV (X : Cx) (CX : CXT) (k n i : Nat) (ps ks : List Str) (E : L2.St → XK) (t tk : TA) : TE := fun σ H Q => ∃ (f : Addr) (fd : FuncData) (sp : Sp) (g : List Value → List Value → List Value) (gV : List V → List V → List V), σ[i]? = some (some (.ref f)) ∧ FnOk X.prog X.w X.K X.mg X.base CX k f fd ps sp ∧ PySem.W.keepIn X.K (.ref f) = true ∧ KBn X.K fd ps n ks g gV ∧
  t σ H fun vs H1 => tk σ H1 fun zs H2 => vs.length = n ∧ zs.length = ks.length ∧ sp (gV vs zs) H2 Q (E σ)
end
abbrev FTab := List (Str × Fd × (List D → List D → List D))
def pCallKV (i : Nat) (tb : FTab) (n m N : Nat) (fs ks : DL.P (List D)) : DL.P D := fun ρ => match ρ[i]? with
  | some (some (.glo f)) => (match tb.lookup f with
    | some F => pCallKX F.1 n m N F.2 fs ks ρ
    | none => .stuck)
  | _ => .stuck
section
variable {c : Ct} {W : WX} {X : Cx} {e : Expr} {es : List Expr} {kws : List Keyword} {fs kf : DL.P (List D)} {pos p : Pos} {x : Str} {i k n m N : Nat} {ps ks : List Str} {tb : FTab}
/-- what is known of the defs of a table -/
def TabOk (P : Program) (w : World) (K : PySem.W.Frag) (mg : Str → Option Value) (base : Heap) (k : Nat) (ps : List Str) (n : Nat) (ks : List Str) (tb : FTab) : Prop := ∀ q ∈ tb, CallKX P w K mg base k q.1 ps q.2.1 n ks q.2.2 ∧ gx K q.1 = He.ga K q.1
end
end DL
/-! DL137: exceptions made as values: C(..), C(f = ..). -/
namespace PySem
namespace HandSPX
open PySem.W PySem.Calls PyProof.Rows
section
variable {M : Model} {A : Around} {E : Value → Shared → Prop} {h : Heap} {g : Array GenState} {d : Drawn} {t : Nat} {os : OsState}
variable {nm q : Str} {C N : Addr} {bs bm bmB : List Value} {hdct : Bool} {sn : List Str} {sub : List Value} {ab : Bool} {col : Option Bool} {dd : Option Addr} {k0 k1 k2 k3 k5 : Option Value} {B newId initId : String}
theorem check_new_kw (F : ExcBaseFacts B newId initId bmB) (hT : ∀ X : String, bm.contains (.type X) = bmB.contains (.type X)) {rest : List Value} {kw : List (Str × Value)} {Q : Unit → Shared → Prop}
    (hC : h.get? C = some (excClassObj nm q C N bs bm hdct sn sub ab col dd k0 k1 k2 k3 k5 newId)) (hq : Q () ⟨h, g, d, t, os⟩) : wpAny M A (checkBuiltinCall newId ⟨.ref C :: rest, kw⟩) Q E ⟨h, g, d, t, os⟩ := by
  have hcont : (Value.ref C :: bm).contains (.type B) = true := by rw [List.contains_cons, hT, F.hasB, Bool.or_true]
  have hstar := F.noStar
  simp only [checkBuiltinCall, F.newKind, F.newSplit, F.newRow]
  repeat (first | refine wpAny_loadPart_at hC ?_ | (refine wpAny_isSubtype_exc hC ?_; rw [hcont]) | refine wpAny_staticBase_exc hC ?_ | refine wpAny_madeBy_exc hC ?_ | simp only [bne_self_eq_false, Bool.false_eq_true, if_false] | wp_step)
  exact hq
end
section
variable {prog : Program} {w : World} {A : Around} {E : Value → Shared → Prop} {R : Result → Shared → Prop} {h : Heap} {g : Array GenState} {d : Drawn} {t : Nat} {os : OsState}
variable {nm q : Str} {C N : Addr} {bs bm bmB : List Value} {hdct : Bool} {sn : List Str} {sub : List Value} {ab : Bool} {col : Option Bool} {dd : Option Addr} {k0 k1 k2 k3 k5 : Option Value} {B newId initId : String}
theorem new_kw (F : ExcBaseFacts B newId initId bmB) (hT : ∀ X : String, bm.contains (.type X) = bmB.contains (.type X)) {rest : List Value} {kw : List (Str × Value)}
    (hC : h.get? C = some (excClassObj nm q C N bs bm hdct sn sub ab col dd k0 k1 k2 k3 k5 newId))
    (hq : R (.ok (.ret (.ref (h.objs.size + 1)))) ⟨(h.push { cls := .type "tuple", data := .seq rest.toArray }).push
      { cls := .ref C, data := .fields #[.ref h.objs.size, .none, .none, .none, .bool false, .none] }, g, d, t, os⟩) (hrest : rest.length ≤ sizeLine) :
    codeAny (model prog w) A (.builtin newId ⟨.ref C :: rest, kw⟩) R ⟨h, g, d, t, os⟩ := by
  have hends := F.ends
  have hcB : (Value.ref C :: bm).contains (.type B) = true := by rw [List.contains_cons, hT, F.hasB, Bool.or_true]
  have hcA : (Value.ref C :: bm).contains (.type "AttributeError") = false := by rw [List.contains_cons, hT, F.noAttr]; rfl
  have hcN : (Value.ref C :: bm).contains (.type "NameError") = false := by rw [List.contains_cons, hT, F.noName]; rfl
  refine codeAny_builtinAt F.entry ?_
  unfold Builtin.«BaseException.__new__»
  refine wpAt_bind ?_
  show wpAt _ _ _ (stack >>= _) _ _ _
  refine wpAt_bind (wpAt_stack fun p below => wpAt_of_wpAny ?_)
  wp_walk
  refine wpAt_of_wpAny ?_
  rw [F.owner]
  repeat (first | with_reducible refine wpAny_madeHere_exc F.canon hC ?_ | with_reducible refine wpAny_loadPart_at hC ?_ | (with_reducible refine wpAny_isSubtype_exc hC ?_; first | rw [hcB] | rw [hcA] | rw [hcN]) | wp_step)
  show R _ _
  rw [Heap.size_push]
  exact hq
theorem type_call_kw (F : ExcBaseFacts B newId initId bmB) (hT : ∀ X : String, bm.contains (.type X) = bmB.contains (.type X)) {rest : List Value} {kw : List (Str × Value)} {fI : Addr} {Q : Fin → Shared → Prop}
    (hC : h.get? C = some (excClassObj nm q C N bs bm hdct sn sub ab col dd k0 k1 k2 k3 k5 newId))
    (hi : W.Looks (model prog w) h (typeLookup (.ref C) "__init__") (some (.ref fI))) (hb : ∀ self, W.Looks (model prog w) h (bindSpecial (.ref fI) self) (.ref fI, [self])) (hrest : rest.length ≤ sizeLine)
    (hq : codeAny (model prog w) A (.call (.ref fI) ⟨.ref (h.objs.size + 1) :: rest, kw⟩)
      (fun r s' => match r with | .ok (.ret v) => v = .none ∧ Q (.done (.ret (.ref (h.objs.size + 1)))) s' | .ok _ => False | .error e => E e s')
      ⟨(h.push (W.kdv_tup rest)).push (excO C h.objs.size), g, d, t, os⟩) :
    wpAny (model prog w) A (Builtin.«type.__call__» ⟨.ref C :: rest, kw⟩) Q E ⟨h, g, d, t, os⟩ := by
  repeat (first | with_reducible refine wpAny_loadPart_at hC ?_ | with_reducible refine wpAny_madeBy_exc hC ?_ | wp_step)
  refine codeAny_call_builtin_code (Code.quiet_builtin _ F.quiet) (check_new_kw F hT hC ?_)
  refine new_kw F hT hC ?_ hrest
  show wpAny _ _ _ _ _ _
  have k : ∀ b o, h.get? b = some o → ((h.push (W.kdv_tup rest)).push (excO C h.objs.size)).get? b = some o := fun b o e => Heap.get?_push_of_some _ (Heap.get?_push_of_some _ e)
  have hC₁ := k _ _ hC
  have hget : ((h.push (W.kdv_tup rest)).push (excO C h.objs.size)).get? (h.objs.size + 1) = some (excO C h.objs.size) := by heap_get
  have hcC : (Value.ref C :: bm).contains (.ref C) = true := by simp
  have i1 := hi.keeps k
  have b1 := (hb (.ref (h.objs.size + 1))).keeps k
  unfold isInstance
  repeat (first | with_reducible refine wpAny_loadPart_at hget ?_ | (with_reducible refine wpAny_isSubtype_exc hC₁ ?_; rw [hcC]) | wp_step)
  show wpAny _ _ (typeLookup (.ref C) _) _ _ _
  refine i1.at ?_
  refine wpAny_holding (wpAny_bind (b1.at ?_))
  refine wpAny_bind (wpAny_call (codeAny_mono hq fun r s' z => ?_))
  rcases r with e | (v | _ | _ | _) <;> first | exact z | exact z.elim | skip
  obtain ⟨rfl, z⟩ := z
  first
    | exact wpAny_pure (wpAny_pure z)
    | (wp_walk; exact z)
theorem call_kw (F : ExcBaseFacts B newId initId bmB) (hT : ∀ X : String, bm.contains (.type X) = bmB.contains (.type X)) {rest : List Value} {kw : List (Str × Value)} {fI : Addr}
    (hC : h.get? C = some (excClassObj nm q C N bs bm hdct sn sub ab col dd k0 k1 k2 k3 k5 newId))
    (hi : W.Looks (model prog w) h (typeLookup (.ref C) "__init__") (some (.ref fI))) (hb : ∀ self, W.Looks (model prog w) h (bindSpecial (.ref fI) self) (.ref fI, [self])) (hrest : rest.length ≤ sizeLine)
    (hq : codeAny (model prog w) (A.under (.builtin "type.__call__" ⟨.ref C :: rest, kw⟩)) (.call (.ref fI) ⟨.ref (h.objs.size + 1) :: rest, kw⟩) (W.InitBack (h.objs.size + 1) R)
      ⟨(h.push (W.kdv_tup rest)).push (excO C h.objs.size), g, d, t, os⟩) :
    codeAny (model prog w) A (.call (.ref C) ⟨rest, kw⟩) R ⟨h, g, d, t, os⟩ := by
  have f1 := tc_lookup
  have f2 := tc_bind (.ref C)
  have hTy : (⟨h, g, d, t, os⟩ : Shared).TypeIs (.ref C) "type" := ⟨_, hC, rfl⟩
  refine codeAny_of_tree ?_
  show wpAny _ _ (callAny (.ref C) _) _ _ _
  repeat (any_goals (first | assumption | with_reducible refine wpAny_loadPart_at hC ?_ | wp_step))
  refine ⟨rfl, ?_⟩
  refine codeAny_call_builtin_at (Code.quiet_builtin _ (by decide +kernel)) entry_typeCall (wpAny_check_type_call_sub hC (type_call_kw F hT hC hi hb hrest ?_))
  refine codeAny_mono hq fun r s' z => ?_
  rcases r with e | (v | _ | _ | _) <;> exact z
end
end HandSPX
end PySem
namespace DL
open PySem PySem.Spec PyProof.Rows L2
variable [TheW]
section
variable {X : Cx} {e : Expr} {es : List Expr} {kws : List Keyword} {p pos : Pos} {x : Str}
/-- C(f = ..), C's own __init__ keeping sp -/
def tMkK (C : Addr) (sp : Sp) (n : Nat) (tk : TA) : L2.St → Hp → XK → Prop := fun σ H Q => tk σ H fun zs H1 => zs.length = n ∧ ∀ a, H1 a = none → sp (.ref a :: zs) (upd H1 a (exo a C none))
  (fun v H2 => v = .non ∧ ∃ (d : Addr) (fs : List (Str × V)), H2 a = some (exo a C (some d)) ∧ H2 d = some (exd d fs) ∧ H1 d = none ∧ Q (.ref C) (some d) (upd (del H2 a) d (.xd fs))) (fun _ _ _ => False)
theorem pmk_oexK {CX : CXT} {C fI : Addr} {k : Nat} {fd : FuncData} {ps ks : List Str} {sp : Sp} {tk : TA} (T : OexC X.K C) (iC : PySem.W.findIn X.K (.ref C) "__init__" = some (some (.ref fI))) (tI : PySem.W.typeIn X.K (.ref fI) = some (.type "function"))
    (F1 : FnOk X.prog X.w X.K X.mg X.base CX k fI fd ps sp) (hr : Room (k + 1) X.A) (hb : KBn X.K fd ps 1 ks (fun us ws => us ++ ws) (fun vs zs => vs ++ zs)) (hx : Passes CX X (fun _ _ _ => False)) (hg : Gl X x) (hm : X.mg x = some (.ref C)) (hkw : PK X kws tk)
    (hall : (backToKw pos (keywordEach kws X.env)).all (·.1.isSome) = true) (hks : (backToKw pos (keywordEach kws X.env)).filterMap (·.1) = ks) (hps : ps.length = 1 + ks.length)
    (hdb : (x == ("__debug__" : Str)) = false) (hpl : ((backTo pos (starEach [] X.env)).any (·.1) || (backToKw pos (keywordEach kws X.env)).any (·.1.isNone)) = false) :
    PMk X (.Call (.Name x p) [] kws pos) (tMkK C sp ks.length tk) := by
  intro pins s σ H Q I h
  obtain ⟨nm, q, N, bs, bm, sn, sub, ab, col, dd, k0, k1, k2, k3, k5, hC, hbm⟩ := T.cls
  refine wpAny_Call_Name_kw (ld_glob I hg hm ?_ hdb)
  refine PySem.W.callWith_KW0 (h₀ := X.base) I.ok.mod.kin T.kC hall (thn (hkw.run pos pins s σ H _ I h) fun ws s1 ⟨zs, H1, I1, rz, lz, q1⟩ => ⟨I1.kIn, ?_⟩) hpl
  rw [hks]
  show wpAny _ _ (call (.ref C) [] (ks.zip ws)) _ _ _
  obtain ⟨hp, g, dr, tok, os⟩ := s1
  have hsz : hp.objs.size ≤ hp.objs.size + 1 := Nat.le_succ _
  have hn : H1 (hp.objs.size + 1) = none := I1.hok.fresh hsz
  have hq := q1 (hp.objs.size + 1) hn
  have kk : ∀ b o, hp.get? b = some o → ((hp.push (PySem.W.kdv_tup [])).push (PySem.HandSPX.excO C hp.objs.size)).get? b = some o := fun b o e => Heap.get?_push_of_some _ (Heap.get?_push_of_some _ e)
  have hget : ((hp.push (PySem.W.kdv_tup [])).push (PySem.HandSPX.excO C hp.objs.size)).get? (hp.objs.size + 1) = some (PySem.HandSPX.excO C hp.objs.size) := by heap_get
  have I2 : Inv X pins σ (upd H1 (hp.objs.size + 1) (exo (hp.objs.size + 1) C none)) ⟨(hp.push (PySem.W.kdv_tup [])).push (PySem.HandSPX.excO C hp.objs.size), g, dr, tok, os⟩ :=
    I1.laid (t' := tok) (a := hp.objs.size + 1) (o := exo (hp.objs.size + 1) C none) (h' := (hp.push (PySem.W.kdv_tup [])).push (PySem.HandSPX.excO C hp.objs.size)) kk hsz (exo_ok hget)
  have r1 : Vals [V.ref (hp.objs.size + 1)] [Value.ref (hp.objs.size + 1)] := .cons rfl .nil
  have r2 := hb.rel r1 rz
  have bt := hb.to _ [Value.ref (hp.objs.size + 1)] ws I2.kIn rfl (rz.length.symm.trans lz)
  refine wpAny_call (PySem.HandSPX.call_kw F.excBase_ValueError (fun Y => PySem.HandSPX.refsVE_contains Y bm hbm) (I1.kIn _ _ hC) (PySem.W.looks_findIn I1.kIn iC) (fun self => PySem.W.bind_fn I1.kIn self tI) (Nat.zero_le _)
    (codeAny_mono (F1.run _ X.stack _ _ ⟨[Value.ref (hp.objs.size + 1)], ks.zip ws⟩ ([Value.ref (hp.objs.size + 1)] ++ ws) _ _ (fun _ _ _ => False) (hr.make C [] (ks.zip ws)) (I2.env0.make C [] (ks.zip ws)) bt r2 hq) fun r s' hq' => ?_))
  cases r with
  | error er => exact hx pins σ _ _ er s' I2 hq'
  | ok fl =>
    cases fl with
    | ret u =>
      obtain ⟨v, H2, os2, bare2, un2, hok2, rv, ev, d, fs, ea, ed, hd1, q2⟩ := hq'
      subst ev
      obtain ⟨h2, g2, d2, t2, os'⟩ := s'
      exact ⟨rv, mk_end (raises_own T.exC T.tyC) I1 hsz kk un2 hok2 os2 bare2 ea ed hd1 q2⟩
    | next => exact False.elim hq'
    | brk => exact False.elim hq'
    | cont => exact False.elim hq'
/-- an exception that is made stands as a value -/
theorem pe_made {t : L2.St → Hp → XK → Prop} (h : PMk X e t) (hex : X.ex = []) : PE X e (fun σ H Q => t σ H fun cls d H' => ∃ C, cls = .ref C ∧ ∀ a, H' a = none → Q (.ref a) (upd H' a (XcO a C d))) := by
  refine ⟨fun pins s σ H Q I q => wpAny_mono (h pins s σ H _ I q) (fun u s1 hu => ?_) fun _ _ x => x⟩
  obtain ⟨a, oe, vs, sI, H', cls, d, rfl, J, k, hne, ha, hz, hd, h1, na, os, ag, r, C, rfl, q⟩ := hu
  have J1 : Inv X pins σ H' s1 := J.landed (B := sI.heap) (fun b o e _ => e) k (Heap.UpToSlots.of_keeps k) os ag
  refine ⟨.ref a, _, inv_told (o := XcO a C d) J1 ?_ na (fun p hp z => ?_) (fun z => ?_) (fun y cc e z => ?_) (xcO_ok ha hz ⟨vs, hd⟩), rfl, q a na⟩
  · cases q0 : X.s_0.heap.get? a with
    | none => rfl
    | some o =>
      obtain ⟨o', e'⟩ := J.base.there a o q0 (by rw [hex]; simp)
      rw [hne] at e'
      cases e'
  · have := (J.pin p hp).1
    rw [z, hne] at this
    cases this
  · obtain ⟨m, hn, _⟩ := id J.loc
    obtain ⟨oL, _, _, hoL, _⟩ := id hn
    rw [z, hne] at hoL
    cases hoL
  · obtain ⟨v, ob, e1, e2⟩ := J.cell y cc e
    rw [z, hne] at e1
    cases e1
end
section
variable {c : Ct} {W : WX} {X : Cx} {e : Expr} {kws : List Keyword} {g : PKx} {p pos : Pos} {x fl : Str} {kf : P (List D)}
/-- the exception as a value -/
def pMakeX (g : PKx) : P D := fun ρ => match g ρ with
  | .ok r => .ok (.exc r.1 r.2)
  | _ => .stuck
theorem dp_made (h : DMk c X e g) (hex : X.ex = [] := by rfl) : DP c W X e (pMakeX g) :=
  PE.imp (pe_made h hex) fun σ H Q ⟨G, ρ, A, q⟩ => by
    refine ⟨G, ρ, A, ?_⟩
    unfold pMakeX at q
    cases o : g ρ with
    | exn y fs => rw [o] at q; exact q.elim
    | stuck => rw [o] at q; exact q.elim
    | ok r =>
      rw [o] at q
      intro cls dd G' H' gr rx
      obtain ⟨ec, _⟩ := id rx
      refine ⟨_, ec, fun a na => ?_⟩
      have nG : G' a = none := gr.s.free na
      exact q (.ref a) (upd G' a (XcO a (He.ga X.K r.1) dd)) _ (gr.trans (Grow.share gr.s na rfl)) (repX_exc ec rx nG)
/-- C(f = e) -/
structure ExK (P : Program) (w : World) (K : PySem.W.Frag) (mg : Str → Option Value) (base : Heap) (x f : Str) : Prop where
  c : ExC P w K mg base x f
  ex : ∃ fd, FnOk P w K mg base CX0 1 (He.ma K (He.ga K x) "__init__") fd ["self", f] (spInit K f) ∧ KBn K fd ["self", f] 1 [f] (fun us ws => us ++ ws) (fun vs zs => vs ++ zs)
def pMkK (x fl : Str) (kf : P (List D)) : PKx := fun ρ => match kf ρ with
  | .ok [d] => .ok (x, [(fl, d)])
  | _ => .stuck
theorem dk_oneK (C : ExK X.prog X.w X.K X.mg X.base x fl) (hr : Room 2 X.A) (hkw : DKw c (fun _ _ _ _ => True) X kws kf) (hg : Gl X x := by rfl) (hdb : (x == ("__debug__" : Str)) = false := by decide)
    (hall : (backToKw pos (keywordEach kws X.env)).all (·.1.isSome) = true := by rfl) (hks : (backToKw pos (keywordEach kws X.env)).filterMap (·.1) = [fl] := by rfl)
    (hpl : ((backTo pos (starEach [] X.env)).any (·.1) || (backToKw pos (keywordEach kws X.env)).any (·.1.isNone)) = false := by rfl) : DMk c X (.Call (.Name x p) [] kws pos) (pMkK x fl kf) := by
  obtain ⟨fd, h1, h2⟩ := C.ex
  have hp := pmk_oexK (p := p) (pos := pos) C.c.T C.c.iC C.c.tI h1 hr h2 pass0 hg C.c.m hkw hall hks rfl hdb hpl
  refine fun pins s σ H Q I ⟨G, ρ, A, q⟩ => hp pins s σ H Q I ?_
  refine ⟨G, ρ, A, ?_⟩
  unfold pMkK at q
  cases o : kf ρ with
  | exn y fs => rw [o] at q; exact q.elim
  | stuck => rw [o] at q; exact q.elim
  | ok ds =>
    rw [o] at q
    match ds, q with
    | [d], q =>
      intro zs G1 H1 g1 r1
      have r1 : RepL X.K G1 [d] zs := r1
      obtain ⟨v, rfl, rv⟩ : ∃ v, zs = [v] ∧ Rep X.K G1 d v := by
        obtain ⟨v, vs, rfl, a, b⟩ := r1
        cases vs with
        | nil => exact ⟨v, rfl, a⟩
        | cons _ _ => cases b
      refine ⟨rfl, fun a na => ⟨a, _, v, rfl, C.c.T, C.c.no, upd_same, fun dx nd ne => ⟨rfl, dx, [(fl, v)], upd_same, ?_, ?_, ?_⟩⟩⟩
      · rw [upd_ne ne, upd_same]
      · rw [upd_ne ne] at nd; exact nd
      · have nd1 : H1 dx = none := by rw [upd_ne ne] at nd; exact nd
        have eH : upd (del (upd (upd (upd H1 a (exo a (He.ga X.K x) none)) dx (exd dx [(fl, v)])) a (exo a (He.ga X.K x) (some dx))) a) dx (.xd [(fl, v)]) = upd H1 dx (.xd [(fl, v)]) := by
          funext b
          by_cases hb : b = dx
          · rw [hb, upd_same, upd_same]
          · rw [upd_ne hb, upd_ne hb]
            by_cases hba : b = a
            · rw [hba, del_same, na]
            · rw [del_ne hba, upd_ne hba, upd_ne hb, upd_ne hba]
        rw [eH]
        have gn := g1.s.free nd1
        refine q _ _ (upd G1 dx (.xd [(fl, v)])) _ (g1.trans (Grow.share g1.s nd1)) ⟨rfl, .inr ⟨dx, [(fl, v)], rfl, upd_same, ?_⟩⟩
        exact ⟨v, [], rfl, Rep.mono (Grow.share (o := .xd [(fl, v)]) g1.s nd1).g _ rv, rfl⟩
end
section
variable {P : Program} {w : World} {K : PySem.W.Frag} {mg : Str → Option Value} {base : Heap} {x f qual b : Str} {st : Stmt}
theorem exK_of {m : Str} {j : Nat} {p1 p2 p3 p4 p5 p6 p7 p8 p9 p10 : Pos} (I : ExI K mg x f qual st) (Sc : FnScope ["self", f] ["self", f] (defScope st)) (B : ExB K mg b)
    (hbd : ∀ (kV doc pm : Value) (an : Option Addr) (cdv ct : Value) (us : List Value), us.length = (["self", f] : List Str).length → bindArgs (PySem.W.fnOf "__init__" qual (defArgs st) (defBody st) (defScope st) .none kV doc pm an cdv ct) ⟨us, []⟩ = pure ((["self", f] : List Str).zip us))
    (hbk : ∀ (kV doc pm : Value) (an : Option Addr) (cdv ct : Value) (us ws : List Value), us.length = 1 → ws.length = 1 → bindArgs (PySem.W.fnOf "__init__" qual (defArgs st) (defBody st) (defScope st) .none kV doc pm an cdv ct) ⟨us, [f].zip ws⟩ = pure ((["self", f] : List Str).zip (us ++ ws)))
    (hB : defBody st = [.Expr (.Call (.Attribute (.Name b p1) "__init__" p2) [.Name "self" p3, .Constant (.str m) j p4] [] p5) p6, .Assign [.Attribute (.Name "self" p7) f p8] (.Name f p9) p10] := by rfl)
    (hg : (defScope st).names.lookup b = some .globalImplicit := by rfl) (hv0 : Vis (defScope st) "self" := by exact Or.inl rfl) (hv1 : Vis (defScope st) f := by exact Or.inl rfl) (hb : (b == ("__debug__" : Str)) = false := by decide) (hd : (f == ("__debug__" : Str)) = false := by decide) (hcd : (f == ("__classdict__" : Str)) = false := by decide)
    (hc : ∀ env : Env, env.scope = defScope st → ∃ pl : Sem Bool, eval (.Call (.Attribute (.Name b p1) "__init__" p2) [.Name "self" p3, .Constant (.str m) j p4] [] p5) env = (do
      let ov ← eval (.Name b p1) env
      standAt p2.atName
      let (f, first) ← holding [ov] (getMethod ov "__init__" pl)
      callWith p5 f first (backTo p5 (starEach [.Name "self" p3, .Constant (.str m) j p4] env)) (backToKw p5 (keywordEach [] env))) := by exact fun _ _ => ⟨_, rfl⟩)
    (hs1 : ∀ env : Env, swapsWith (.Call (.Attribute (.Name b p1) "__init__" p2) [.Name "self" p3, .Constant (.str m) j p4] [] p5) none p6.line env = pure false := by exact fun _ => rfl)
    (hs2 : ∀ env : Env, swapsWith (.Name f p9) (some (.Attribute (.Name "self" p7) f p8)) p10.line env = pure false := by exact fun _ => rfl) : ExK P w K mg base x f := by
  refine ⟨exC_of I Sc B hbd hB hg hv0 hv1 hb hd hcd hc hs1 hs2, ?_⟩
  obtain ⟨fd, FD⟩ := I.fd
  have FO := xinit_ok (P := P) (w := w) (base := base) FD Sc B hB hg hv0 hv1 hb hd hcd hc hs1 hs2
  obtain ⟨oc, od, dV, kV, doc, pm, an, cdv, ct, osl, e1, lk, hcd, hD, hK⟩ := FD.ex
  rcases hD with ⟨_, e2⟩ | ⟨e2, _⟩
  · subst e1 e2
    exact ⟨_, FO, ⟨fun s us ws X l1 l2 => .of_eq (hbk kV doc pm an cdv ct us ws l1 l2), fun a b => a.append b⟩⟩
  · exact absurd rfl e2
end
end DL
namespace DL
open PySem PySem.Spec PyProof.Rows L2
variable [TheW]
/-! DL138: repr(x) where x may be a dict of one text and an int. -/
def okDict1 (k : Str) (i : Int) : Bool := (PyData.dict [(.str k, .int i)]).showable && decide ((PyData.dict [(.str k, .int i)]).shown.length ≤ LINE)
def reprD1 : List D → Res D
  | [.dict [(.str k, .int i)]] => if okDict1 k i = true then .ok (.str (PyData.dict [(.str k, .int i)]).shown) else .stuck
  | xs => reprD xs
theorem reprD1_quiet : QuietL reprD1 := fun x z fs h => by
  unfold reprD1 at h
  split at h
  · split at h <;> cases h
  · exact reprD_quiet x z fs h
def rReprD1 (K : PySem.W.Frag) : List V → Hp → VK → Prop := fun xs H Q => (∃ a k i, xs = [.ref a] ∧ Rd H a (.dK [(.inr k, .int i)]) ∧ okDict1 k i = true ∧ Q (.str (PyData.dict [(.str k, .int i)]).shown) H) ∨ rReprD K xs H Q
section
variable {X : Cx}
theorem call_repr1 (hg : X.A.guards = some []) (hu : X.A.units + 64 < cLine) : CallR X (.builtin "repr") (rReprD1 X.K) := by
  intro pins s σ H xs us Q I r h
  rcases h with ⟨a, k, i, rfl, rd, ok, q⟩ | h
  · obtain ⟨u, rfl, ru⟩ := vals1 r
    cases ru
    obtain ⟨o1, o2⟩ := Bool.and_eq_true_iff.mp ok
    obtain ⟨_, sm, vs, kv, o, es, ep, ho, ex, hd, _, pr, _⟩ := dk_rd I.hok rd
    obtain ⟨qk, qv, e0, e1, t, e2⟩ : ∃ qk qv, vs = [(qk, qv)] ∧ (Sum.inr k : Key) = qk ∧ RelV (.int i) qv := by
      cases kv with
      | cons p1 p2 => cases p2; exact ⟨_, _, rfl, p1.1, p1.2⟩
    subst e0 e1 e2
    generalize hel : es.toList = el at pr
    cases pr with
    | cons hk hv pr =>
      rename_i en es'
      cases pr
      obtain ⟨x, t2, z1, z2⟩ : ∃ x t, (Sum.inr k : Key) = Sum.inr x ∧ en.key = Value.str x t := by
        have hk : keyIs (.inr k) en.key = true := hk
        rcases keyIs_shape hk with ⟨i, t, z, _⟩ | z
        · cases z
        · exact z
      cases z1
      have hv : en.val = Value.int i t := hv
      have rr : Reads s.heap (.ref a) (.dict [(.str k, .int i)]) ([a] ++ ([] ++ []) ++ ([] ++ [])) := .dict ho ex.1 hd (by
          rw [hel]
          show ReadsAll s.heap [en.key] [.str k] _
          rw [z2]
          exact .cons (.str k t2) .nil) (by
          rw [hel]
          show ReadsAll s.heap [en.val] [.int i] _
          rw [hv]
          exact .cons (.int i t) .nil)
      refine repr_of_reads' rr o1 (fun _ z => ?_) hg (by
        have : (PyData.dict [(.str k, .int i)]).depth ≤ 10 := by simp [PyData.depth, PyData.depthAll, PyData.depthKv]
        omega) (fun _ _ e => e) (fun h' t tk hk => ⟨.str _, H, I.kept (t' := tk) hk, ⟨t, rfl⟩, q⟩) (of_decide_eq_true o2)
      have z : sysModules = a := by simpa using z
      rw [← z] at sm
      simp at sm
  · exact call_reprA hg hu pins s σ H xs us Q I r h
theorem cd_repr1 {K : PySem.W.Frag} : CallD K (rv K) (rReprD1 K) reprD1 := by
  intro G H vs ds Q s r q
  unfold reprD1 at q
  split at q
  · rename_i k i
    split at q
    case isFalse => exact q.elim
    rename_i ok
    obtain ⟨v, rfl, a, kv, rfl, rd, rk⟩ := paired1 r
    obtain ⟨j, v, r', rfl, ej, rv, rr⟩ := rk
    have rr : r' = [] := rr
    have rv : v = .int i := rv
    have ej : some (Sum.inr k) = some j := ej
    cases ej
    subst rr rv
    exact .inl ⟨a, k, i, rfl, rd, ok, q _ G H (.refl s) rfl⟩
  · exact .inr (cd_repr G H vs ds Q s r q)
variable {c : Ct} {W : WX} {e : Expr} {es : List Expr} {p pos : Pos}
theorem dp_repr1 {fs : P (List D)} (hG : X.A.guards = some []) (hu : X.A.units + 64 < cLine) (ha : DAB c W X (e :: es) fs) (hm : X.mg "repr" = none)
    (hg : Gl X "repr" := by rfl) (he : starEach (e :: es) X.env = (false, eval e X.env) :: starEach es X.env := by rfl) (hpl : (backTo pos (starEach es X.env)).any (·.1) = false := by rfl) :
    DP c W X (.Call (.Name "repr" p) (e :: es) [] pos) (pCallL reprD1 fs) :=
  PE_callB (call_repr1 hG hu) cd_repr1 steady_rv reprD1_quiet hm (by decide +kernel) ha hg (by decide) (by decide) he hpl
end
end DL
namespace DL
open PySem PySem.Spec PyProof.Rows L2
/-! ### the head's look in parts: each part runs the top anew and is let go -/
theorem map3 {σ α β γ : Type} {x : Option σ} {f1 : σ → α} {f2 : σ → β} {f3 : σ → γ} {a : α} {b : β} {c : γ} (h1 : x.map f1 = some a) (h2 : x.map f2 = some b) (h3 : x.map f3 = some c) : x.map (fun s => (f1 s, f2 s, f3 s)) = some (a, b, c) := by
  cases x with
  | none => cases h1
  | some s =>
    injection h1 with h1
    injection h2 with h2
    injection h3 with h3
    subst h1 h2 h3
    rfl
/-! ### the Hook over addresses that are given -/
def obsLA (as : List Addr) (fa : List He.Fa) (ex : PySem.W.Frag → Bool) (fn : List Df) (g : Addr → Option Obj) : AlL := obsL fa ex fn (He.frG g as)
def hookA (as : List Addr) (fa : List He.Fa) (ex : PySem.W.Frag → Bool) (fn : List Df) : PySem.W.Hook where
  α := AlL
  obs := fun s => obsLA as fa ex fn s.heap.get?
  val := fun _ => valL fn
  says := fun _ h => ∃ K : PySem.W.Frag, K.In h ∧ SaysL fa ex fn K
  of := fun _ _ e => ⟨_, He.frG_in, e⟩
  keeps := fun _ _ _ ⟨K, hK, c⟩ k => ⟨K, PySem.W.Frag.In.keeps hK k, c⟩
theorem obsLA_eq {as : List Addr} {fa : List He.Fa} {ex : PySem.W.Frag → Bool} {fn : List Df} {g : Addr → Option Obj} {s : Shared} (h : ∀ a, g a = s.heap.get? a) : obsLA as fa ex fn g = (hookA as fa ex fn).obs s := by
  have e : g = s.heap.get? := funext h
  rw [e]
  rfl
end DL
namespace DL
open PySem PySem.Spec PyProof.Rows L2
noncomputable section
def S__law_begun : S := (sSeq (sSet 1 1 (lift (pMut (pComp [2] (.name 2) (pIter (pVar 0)) (pTest (pOp geR (pVarB 2) (pOp powD (pC (.int 10)) (pC (.int 18))))) (pOp subD (pVarB 2) (pOp powD (pC (.int 10)) (pC (.int 18)))))))) (sSeq (sRetD4 1 1 "great" "cells" "rest" "turn" (pTh (pMut (pCallL listA (pCons (pVarB 0) pNil)))) (pC (.int 0)) (pC (.int 0))) sNext))
def F__law_begun : Fd := runF 3 S__law_begun
def S__law_mixed : S := (sSeq (sSet 1 1 (lift (pOp addD (pDKB 0 "turn") (pC (.int 1))))) (sSeq (sDPutD 0 (pC (.str "turn")) (lift (pVar 1))) (sSeq (sSet 1 2 (lift (pC (.int 0)))) (sSeq (sFor (lift (pIter (pTh (pMut (pLst (pCons (pC (.int 2147483629)) (pCons (pC (.int 2147483587)) (pCons (pC (.int 2147483579)) (pCons (pC (.int 2147483563)) (pCons (pC (.int 2147483549)) (pCons (pC (.int 2147483543)) pNil))))))))))) (.name 3) (sSeq (sSet 1 4 (lift (pOp addD (pOp mulD (pC (.int 130363)) (pVarB 1)) (pOp fdivD (pVarB 3) (pC (.int 13)))))) (sSeq (sFor (lift (pIter (pDK 0 "cells"))) (.name 5) (sSeq (sSet 1 4 (lift (pOp modD (pOp addD (pOp mulD (pVarB 4) (pC (.int 48271))) (pVarB 5)) (pVarB 3)))) sNext)) (sSeq (sSet 1 2 (lift (pOp addD (pOp mulD (pVarB 2) (pC (.int 2147483647))) (pOp modD (pOp powD (pVarB 4) (pC (.int 5))) (pVarB 3))))) sNext)))) (sSeq (sRet (lift (pVar 2))) sNext)))))
def F__law_mixed : Fd := runF 6 S__law_mixed
def S__law_take : S := (sSeq (sIf (lift (pAnd (pTest (pOp eqR (pDKB 0 "rest") (pC (.int 0)))) (pTest (pOp neR (pDKB 0 "great") (pTh (pMut (pLst pNil))))))) (sSeq (sDPutD 0 (pC (.str "rest")) (mDLst 0 "great" [.int 0] gPopAt)) sNext) (sSeq (sIf (lift (pTest (pOp eqR (pDKB 0 "rest") (pC (.int 0))))) (sSeq (sDPutD 0 (pC (.str "rest")) (mTh (mCall F__law_mixed 1 (mSlot 0 mNil)))) sNext) sNext) sNext)) (sSeq (sSet 2 2 (lift (pOp modD (pDKB 0 "rest") (pVarB 1)))) (sSeq (sDPutD 0 (pC (.str "rest")) (lift (pOp fdivD (pDKB 0 "rest") (pVarB 1)))) (sSeq (sRet (lift (pVar 2))) sNext))))
def F__law_take : Fd := runF 3 S__law_take
def S__law_pick : S := (sSeq (sRet (mIxV 1 (mTh (mCall F__law_take 2 (mSlot 0 (mVal (lift (pCallL lenD (pCons (pVarB 1) pNil))) mNil)))))) sNext)
def F__law_pick : Fd := runF 2 S__law_pick
def S__law_kinds : S := (sSeq (sSet 1 1 (lift (pMut (pLst pNil)))) (sSeq (sExpr (mLst 1 (lift (pCons (pTup (pCons (pC (.str "NoShop")) (pCons (pUn (isXD [("Found", false), ("HabitError", false), ("NoComparer", false), ("NoComparison", false), ("NoFinding", false), ("NoLog", false), ("NoName", false), ("NoNumber", false), ("NoOperation", false), ("NoOption", false), ("NoOwner", false), ("NoPair", false), ("NoShop", true), ("NoText", false), ("NoTool", false), ("NoTree", false), ("NoWorld", false), ("TooMany", false), ("Unsafe", false)]) (pVar 0)) pNil))) pNil)) gApp)) (sSeq (sExpr (mLst 1 (lift (pCons (pTup (pCons (pC (.str "NoName")) (pCons (pUn (isXD [("Found", false), ("HabitError", false), ("NoComparer", false), ("NoComparison", false), ("NoFinding", false), ("NoLog", false), ("NoName", true), ("NoNumber", false), ("NoOperation", false), ("NoOption", false), ("NoOwner", false), ("NoPair", false), ("NoShop", false), ("NoText", false), ("NoTool", false), ("NoTree", false), ("NoWorld", false), ("TooMany", false), ("Unsafe", false)]) (pVar 0)) pNil))) pNil)) gApp)) (sSeq (sExpr (mLst 1 (lift (pCons (pTup (pCons (pC (.str "NoTool")) (pCons (pUn (isXD [("Found", false), ("HabitError", false), ("NoComparer", false), ("NoComparison", false), ("NoFinding", false), ("NoLog", false), ("NoName", false), ("NoNumber", false), ("NoOperation", false), ("NoOption", false), ("NoOwner", false), ("NoPair", false), ("NoShop", false), ("NoText", false), ("NoTool", true), ("NoTree", false), ("NoWorld", false), ("TooMany", false), ("Unsafe", false)]) (pVar 0)) pNil))) pNil)) gApp)) (sSeq (sExpr (mLst 1 (lift (pCons (pTup (pCons (pC (.str "NoComparer")) (pCons (pUn (isXD [("Found", false), ("HabitError", false), ("NoComparer", true), ("NoComparison", false), ("NoFinding", false), ("NoLog", false), ("NoName", false), ("NoNumber", false), ("NoOperation", false), ("NoOption", false), ("NoOwner", false), ("NoPair", false), ("NoShop", false), ("NoText", false), ("NoTool", false), ("NoTree", false), ("NoWorld", false), ("TooMany", false), ("Unsafe", false)]) (pVar 0)) pNil))) pNil)) gApp)) (sSeq (sExpr (mLst 1 (lift (pCons (pTup (pCons (pC (.str "NoPair")) (pCons (pUn (isXD [("Found", false), ("HabitError", false), ("NoComparer", false), ("NoComparison", false), ("NoFinding", false), ("NoLog", false), ("NoName", false), ("NoNumber", false), ("NoOperation", false), ("NoOption", false), ("NoOwner", false), ("NoPair", true), ("NoShop", false), ("NoText", false), ("NoTool", false), ("NoTree", false), ("NoWorld", false), ("TooMany", false), ("Unsafe", false)]) (pVar 0)) pNil))) pNil)) gApp)) (sSeq (sExpr (mLst 1 (lift (pCons (pTup (pCons (pC (.str "NoWorld")) (pCons (pUn (isXD [("Found", false), ("HabitError", false), ("NoComparer", false), ("NoComparison", false), ("NoFinding", false), ("NoLog", false), ("NoName", false), ("NoNumber", false), ("NoOperation", false), ("NoOption", false), ("NoOwner", false), ("NoPair", false), ("NoShop", false), ("NoText", false), ("NoTool", false), ("NoTree", false), ("NoWorld", true), ("TooMany", false), ("Unsafe", false)]) (pVar 0)) pNil))) pNil)) gApp)) (sSeq (sExpr (mLst 1 (lift (pCons (pTup (pCons (pC (.str "NoComparison")) (pCons (pUn (isXD [("Found", false), ("HabitError", false), ("NoComparer", false), ("NoComparison", true), ("NoFinding", false), ("NoLog", false), ("NoName", false), ("NoNumber", false), ("NoOperation", false), ("NoOption", false), ("NoOwner", false), ("NoPair", false), ("NoShop", false), ("NoText", false), ("NoTool", false), ("NoTree", false), ("NoWorld", false), ("TooMany", false), ("Unsafe", false)]) (pVar 0)) pNil))) pNil)) gApp)) (sSeq (sExpr (mLst 1 (lift (pCons (pTup (pCons (pC (.str "NoFinding")) (pCons (pUn (isXD [("Found", false), ("HabitError", false), ("NoComparer", false), ("NoComparison", false), ("NoFinding", true), ("NoLog", false), ("NoName", false), ("NoNumber", false), ("NoOperation", false), ("NoOption", false), ("NoOwner", false), ("NoPair", false), ("NoShop", false), ("NoText", false), ("NoTool", false), ("NoTree", false), ("NoWorld", false), ("TooMany", false), ("Unsafe", false)]) (pVar 0)) pNil))) pNil)) gApp)) (sSeq (sExpr (mLst 1 (lift (pCons (pTup (pCons (pC (.str "NoTree")) (pCons (pUn (isXD [("Found", false), ("HabitError", false), ("NoComparer", false), ("NoComparison", false), ("NoFinding", false), ("NoLog", false), ("NoName", false), ("NoNumber", false), ("NoOperation", false), ("NoOption", false), ("NoOwner", false), ("NoPair", false), ("NoShop", false), ("NoText", false), ("NoTool", false), ("NoTree", true), ("NoWorld", false), ("TooMany", false), ("Unsafe", false)]) (pVar 0)) pNil))) pNil)) gApp)) (sSeq (sExpr (mLst 1 (lift (pCons (pTup (pCons (pC (.str "NoNumber")) (pCons (pUn (isXD [("Found", false), ("HabitError", false), ("NoComparer", false), ("NoComparison", false), ("NoFinding", false), ("NoLog", false), ("NoName", false), ("NoNumber", true), ("NoOperation", false), ("NoOption", false), ("NoOwner", false), ("NoPair", false), ("NoShop", false), ("NoText", false), ("NoTool", false), ("NoTree", false), ("NoWorld", false), ("TooMany", false), ("Unsafe", false)]) (pVar 0)) pNil))) pNil)) gApp)) (sSeq (sExpr (mLst 1 (lift (pCons (pTup (pCons (pC (.str "NoOption")) (pCons (pUn (isXD [("Found", false), ("HabitError", false), ("NoComparer", false), ("NoComparison", false), ("NoFinding", false), ("NoLog", false), ("NoName", false), ("NoNumber", false), ("NoOperation", false), ("NoOption", true), ("NoOwner", false), ("NoPair", false), ("NoShop", false), ("NoText", false), ("NoTool", false), ("NoTree", false), ("NoWorld", false), ("TooMany", false), ("Unsafe", false)]) (pVar 0)) pNil))) pNil)) gApp)) (sSeq (sExpr (mLst 1 (lift (pCons (pTup (pCons (pC (.str "NoOwner")) (pCons (pUn (isXD [("Found", false), ("HabitError", false), ("NoComparer", false), ("NoComparison", false), ("NoFinding", false), ("NoLog", false), ("NoName", false), ("NoNumber", false), ("NoOperation", false), ("NoOption", false), ("NoOwner", true), ("NoPair", false), ("NoShop", false), ("NoText", false), ("NoTool", false), ("NoTree", false), ("NoWorld", false), ("TooMany", false), ("Unsafe", false)]) (pVar 0)) pNil))) pNil)) gApp)) (sSeq (sExpr (mLst 1 (lift (pCons (pTup (pCons (pC (.str "Found")) (pCons (pUn (isXD [("Found", true), ("HabitError", false), ("NoComparer", false), ("NoComparison", false), ("NoFinding", false), ("NoLog", false), ("NoName", false), ("NoNumber", false), ("NoOperation", false), ("NoOption", false), ("NoOwner", false), ("NoPair", false), ("NoShop", false), ("NoText", false), ("NoTool", false), ("NoTree", false), ("NoWorld", false), ("TooMany", false), ("Unsafe", false)]) (pVar 0)) pNil))) pNil)) gApp)) (sSeq (sExpr (mLst 1 (lift (pCons (pTup (pCons (pC (.str "NoOperation")) (pCons (pUn (isXD [("Found", false), ("HabitError", false), ("NoComparer", false), ("NoComparison", false), ("NoFinding", false), ("NoLog", false), ("NoName", false), ("NoNumber", false), ("NoOperation", true), ("NoOption", false), ("NoOwner", false), ("NoPair", false), ("NoShop", false), ("NoText", false), ("NoTool", false), ("NoTree", false), ("NoWorld", false), ("TooMany", false), ("Unsafe", false)]) (pVar 0)) pNil))) pNil)) gApp)) (sSeq (sExpr (mLst 1 (lift (pCons (pTup (pCons (pC (.str "TooMany")) (pCons (pUn (isXD [("Found", false), ("HabitError", false), ("NoComparer", false), ("NoComparison", false), ("NoFinding", false), ("NoLog", false), ("NoName", false), ("NoNumber", false), ("NoOperation", false), ("NoOption", false), ("NoOwner", false), ("NoPair", false), ("NoShop", false), ("NoText", false), ("NoTool", false), ("NoTree", false), ("NoWorld", false), ("TooMany", true), ("Unsafe", false)]) (pVar 0)) pNil))) pNil)) gApp)) (sSeq (sExpr (mLst 1 (lift (pCons (pTup (pCons (pC (.str "Unsafe")) (pCons (pUn (isXD [("Found", false), ("HabitError", false), ("NoComparer", false), ("NoComparison", false), ("NoFinding", false), ("NoLog", false), ("NoName", false), ("NoNumber", false), ("NoOperation", false), ("NoOption", false), ("NoOwner", false), ("NoPair", false), ("NoShop", false), ("NoText", false), ("NoTool", false), ("NoTree", false), ("NoWorld", false), ("TooMany", false), ("Unsafe", true)]) (pVar 0)) pNil))) pNil)) gApp)) (sSeq (sExpr (mLst 1 (lift (pCons (pTup (pCons (pC (.str "NoLog")) (pCons (pUn (isXD [("Found", false), ("HabitError", false), ("NoComparer", false), ("NoComparison", false), ("NoFinding", false), ("NoLog", true), ("NoName", false), ("NoNumber", false), ("NoOperation", false), ("NoOption", false), ("NoOwner", false), ("NoPair", false), ("NoShop", false), ("NoText", false), ("NoTool", false), ("NoTree", false), ("NoWorld", false), ("TooMany", false), ("Unsafe", false)]) (pVar 0)) pNil))) pNil)) gApp)) (sSeq (sExpr (mLst 1 (lift (pCons (pTup (pCons (pC (.str "NoText")) (pCons (pUn (isXD [("Found", false), ("HabitError", false), ("NoComparer", false), ("NoComparison", false), ("NoFinding", false), ("NoLog", false), ("NoName", false), ("NoNumber", false), ("NoOperation", false), ("NoOption", false), ("NoOwner", false), ("NoPair", false), ("NoShop", false), ("NoText", true), ("NoTool", false), ("NoTree", false), ("NoWorld", false), ("TooMany", false), ("Unsafe", false)]) (pVar 0)) pNil))) pNil)) gApp)) (sSeq (sRet (lift (pMut (pComp [2, 3] (.tup [(.name 2), (.name 3)]) (pIterB (pVarB 1)) (pTest (pVar 3)) (pVar 2))))) sNext))))))))))))))))))))
def F__law_kinds : Fd := runF 4 S__law_kinds
def S__law_made : S := (sSeq (sSet 1 1 (lift (pMut (pLst pNil)))) (sSeq (sExpr (mLst 1 (lift (pCons (pTup (pCons (pC (.str "NoShop")) (pCons (pMakeX (fun _ => .ok ("NoShop", []))) (pCons (pC .non) pNil)))) pNil)) gApp)) (sSeq (sExpr (mLst 1 (lift (pCons (pTup (pCons (pC (.str "NoName")) (pCons (pMakeX (pMkK "NoName" "name" (pCons (pVar 0) pNil))) (pCons (pVar 0) pNil)))) pNil)) gApp)) (sSeq (sExpr (mLst 1 (lift (pCons (pTup (pCons (pC (.str "NoTool")) (pCons (pMakeX (fun _ => .ok ("NoTool", []))) (pCons (pC .non) pNil)))) pNil)) gApp)) (sSeq (sExpr (mLst 1 (lift (pCons (pTup (pCons (pC (.str "NoComparer")) (pCons (pMakeX (fun _ => .ok ("NoComparer", []))) (pCons (pC .non) pNil)))) pNil)) gApp)) (sSeq (sExpr (mLst 1 (lift (pCons (pTup (pCons (pC (.str "NoPair")) (pCons (pMakeX (fun _ => .ok ("NoPair", []))) (pCons (pC .non) pNil)))) pNil)) gApp)) (sSeq (sExpr (mLst 1 (lift (pCons (pTup (pCons (pC (.str "NoWorld")) (pCons (pMakeX (fun _ => .ok ("NoWorld", []))) (pCons (pC .non) pNil)))) pNil)) gApp)) (sSeq (sExpr (mLst 1 (lift (pCons (pTup (pCons (pC (.str "NoComparison")) (pCons (pMakeX (pMkK "NoComparison" "index" (pCons (pVar 0) pNil))) (pCons (pVar 0) pNil)))) pNil)) gApp)) (sSeq (sExpr (mLst 1 (lift (pCons (pTup (pCons (pC (.str "NoFinding")) (pCons (pMakeX (pMkK "NoFinding" "index" (pCons (pVar 0) pNil))) (pCons (pVar 0) pNil)))) pNil)) gApp)) (sSeq (sExpr (mLst 1 (lift (pCons (pTup (pCons (pC (.str "NoTree")) (pCons (pMakeX (fun _ => .ok ("NoTree", []))) (pCons (pC .non) pNil)))) pNil)) gApp)) (sSeq (sExpr (mLst 1 (lift (pCons (pTup (pCons (pC (.str "NoNumber")) (pCons (pMakeX (fun _ => .ok ("NoNumber", []))) (pCons (pC .non) pNil)))) pNil)) gApp)) (sSeq (sExpr (mLst 1 (lift (pCons (pTup (pCons (pC (.str "NoOption")) (pCons (pMakeX (fun _ => .ok ("NoOption", []))) (pCons (pC .non) pNil)))) pNil)) gApp)) (sSeq (sExpr (mLst 1 (lift (pCons (pTup (pCons (pC (.str "NoOwner")) (pCons (pMakeX (pMkK "NoOwner" "owner" (pCons (pVar 0) pNil))) (pCons (pVar 0) pNil)))) pNil)) gApp)) (sSeq (sExpr (mLst 1 (lift (pCons (pTup (pCons (pC (.str "Found")) (pCons (pMakeX (pMkK "Found" "owner" (pCons (pVar 0) pNil))) (pCons (pVar 0) pNil)))) pNil)) gApp)) (sSeq (sExpr (mLst 1 (lift (pCons (pTup (pCons (pC (.str "NoOperation")) (pCons (pMakeX (fun _ => .ok ("NoOperation", []))) (pCons (pC .non) pNil)))) pNil)) gApp)) (sSeq (sExpr (mLst 1 (lift (pCons (pTup (pCons (pC (.str "TooMany")) (pCons (pMakeX (pMkK "TooMany" "limit" (pCons (pVar 0) pNil))) (pCons (pVar 0) pNil)))) pNil)) gApp)) (sSeq (sExpr (mLst 1 (lift (pCons (pTup (pCons (pC (.str "Unsafe")) (pCons (pMakeX (pMkK "Unsafe" "tool" (pCons (pVar 0) pNil))) (pCons (pVar 0) pNil)))) pNil)) gApp)) (sSeq (sExpr (mLst 1 (lift (pCons (pTup (pCons (pC (.str "NoLog")) (pCons (pMakeX (pMkK "NoLog" "index" (pCons (pVar 0) pNil))) (pCons (pVar 0) pNil)))) pNil)) gApp)) (sSeq (sExpr (mLst 1 (lift (pCons (pTup (pCons (pC (.str "NoText")) (pCons (pMakeX (pMkK "NoText" "row" (pCons (pVar 0) pNil))) (pCons (pVar 0) pNil)))) pNil)) gApp)) (sSeq (sRetV 1 1) sNext))))))))))))))))))))
def F__law_made : Fd := runF 2 S__law_made
def S__law_field : S := (sSeq (sIf (lift (pTest (pOp eqR (pVarB 0) (pC (.str "NoName"))))) (sSeq (sRet (lift (pUn (fldXD ["NoName"] "name") (pVar 1)))) sNext) sNext) (sSeq (sIf (lift (pTest (pOp eqR (pVarB 0) (pC (.str "NoComparison"))))) (sSeq (sRet (lift (pUn (fldXD ["NoComparison", "NoFinding", "NoLog"] "index") (pVar 1)))) sNext) sNext) (sSeq (sIf (lift (pTest (pOp eqR (pVarB 0) (pC (.str "NoFinding"))))) (sSeq (sRet (lift (pUn (fldXD ["NoComparison", "NoFinding", "NoLog"] "index") (pVar 1)))) sNext) sNext) (sSeq (sIf (lift (pTest (pOp eqR (pVarB 0) (pC (.str "NoOwner"))))) (sSeq (sRet (lift (pUn (fldXD ["Found", "NoOwner"] "owner") (pVar 1)))) sNext) sNext) (sSeq (sIf (lift (pTest (pOp eqR (pVarB 0) (pC (.str "Found"))))) (sSeq (sRet (lift (pUn (fldXD ["Found", "NoOwner"] "owner") (pVar 1)))) sNext) sNext) (sSeq (sIf (lift (pTest (pOp eqR (pVarB 0) (pC (.str "TooMany"))))) (sSeq (sRet (lift (pUn (fldXD ["TooMany"] "limit") (pVar 1)))) sNext) sNext) (sSeq (sIf (lift (pTest (pOp eqR (pVarB 0) (pC (.str "Unsafe"))))) (sSeq (sRet (lift (pUn (fldXD ["Unsafe"] "tool") (pVar 1)))) sNext) sNext) (sSeq (sIf (lift (pTest (pOp eqR (pVarB 0) (pC (.str "NoLog"))))) (sSeq (sRet (lift (pUn (fldXD ["NoComparison", "NoFinding", "NoLog"] "index") (pVar 1)))) sNext) sNext) (sSeq (sIf (lift (pTest (pOp eqR (pVarB 0) (pC (.str "NoText"))))) (sSeq (sRet (lift (pUn (fldXD ["NoText"] "row") (pVar 1)))) sNext) sNext) (sSeq (sRet (lift (pC .non))) sNext))))))))))
def F__law_field : Fd := runF 2 S__law_field
def S__law_by_position : S := (sSeq (sSet 1 1 (lift (pTh (pMut (pLst (pCons (pTup (pCons (pC (.str "NoName")) (pCons (pMakeX (pMk1 "NoName" "name" (pVar 0))) pNil))) (pCons (pTup (pCons (pC (.str "NoComparison")) (pCons (pMakeX (pMk1 "NoComparison" "index" (pVar 0))) pNil))) (pCons (pTup (pCons (pC (.str "NoFinding")) (pCons (pMakeX (pMk1 "NoFinding" "index" (pVar 0))) pNil))) pNil)))))))) (sSeq (sSet 1 1 (lift (pOp addD (pVarB 1) (pTh (pMut (pLst (pCons (pTup (pCons (pC (.str "NoOwner")) (pCons (pMakeX (pMk1 "NoOwner" "owner" (pVar 0))) pNil))) (pCons (pTup (pCons (pC (.str "Found")) (pCons (pMakeX (pMk1 "Found" "owner" (pVar 0))) pNil))) (pCons (pTup (pCons (pC (.str "TooMany")) (pCons (pMakeX (pMk1 "TooMany" "limit" (pVar 0))) pNil))) pNil))))))))) (sSeq (sRet (lift (pOp addD (pVarB 1) (pTh (pMut (pLst (pCons (pTup (pCons (pC (.str "Unsafe")) (pCons (pMakeX (pMk1 "Unsafe" "tool" (pVar 0))) pNil))) (pCons (pTup (pCons (pC (.str "NoLog")) (pCons (pMakeX (pMk1 "NoLog" "index" (pVar 0))) pNil))) (pCons (pTup (pCons (pC (.str "NoText")) (pCons (pMakeX (pMk1 "NoText" "row" (pVar 0))) pNil))) pNil))))))))) sNext)))
def F__law_by_position : Fd := runF 2 S__law_by_position
def S_law : S := (sSeq (sSet 1 1 (lift (pCallF 1 F__law_begun (pCons (pVar 0) pNil)))) (sSeq (sFor (lift (pRange1 (pCons (pC (.int 2)) pNil))) (.name 2) (sSeq (sSet 1 4 (mTh (mLstE (mCons (lift (pC (.int 0))) (mCons (lift (pC (.int 7))) (mCons (lift (pUn negD (pC (.int 1)))) (mCons (lift (pOp powD (pC (.int 10)) (pC (.int 20)))) (mCons (lift (pC (.str "a"))) (mCons (lift (pC (.str ""))) (mCons (lift (pC .non)) (mCons (lift (pC (.bl true))) (mCons (lift (pTup (pCons (pC (.int 0)) (pCons (pTup (pCons (pC (.str "lib")) pNil)) pNil)))) (mCons (lift (pTh (pMut (pLst (pCons (pC (.int 1)) (pCons (pC (.int 2)) pNil)))))) (mCons (lift (pTh (pMut (pDisp [((pC (.str "a")), (pC (.int 1)))])))) (mCons (mTh (mCall F__law_take 2 (mSlot 1 (mVal (lift (pC (.int 1000))) mNil)))) (fun ρ => .ok [] ρ)))))))))))))))) (sSeq (sSet 1 5 (mTh (mCall F__law_pick 2 (mSlot 1 (mSlot 4 mNil))))) (sSeq (sFor (lift (pIter (pTh (pCallF 1 F__law_made (pCons (pVar 5) pNil))))) (.tup [(.name 6), (.name 7), (.name 8)]) (sSeq (sIf (lift (pOr (pNot (pTest (pUn (isXD [("Found", true), ("HabitError", true), ("NoComparer", true), ("NoComparison", true), ("NoFinding", true), ("NoLog", true), ("NoName", true), ("NoNumber", true), ("NoOperation", true), ("NoOption", true), ("NoOwner", true), ("NoPair", true), ("NoShop", true), ("NoText", true), ("NoTool", true), ("NoTree", true), ("NoWorld", true), ("TooMany", true), ("Unsafe", true)]) (pVar 7)))) (pNot (pTest (pUn (isXD [("Found", true), ("HabitError", true), ("NoComparer", true), ("NoComparison", true), ("NoFinding", true), ("NoLog", true), ("NoName", true), ("NoNumber", true), ("NoOperation", true), ("NoOption", true), ("NoOwner", true), ("NoPair", true), ("NoShop", true), ("NoText", true), ("NoTool", true), ("NoTree", true), ("NoWorld", true), ("TooMany", true), ("Unsafe", true)]) (pVar 7)))))) (sSeq (sRet (lift (pC (.bl false)))) sNext) sNext) (sSeq (sIf (lift (pOr (pTest (pOp neR (pTh (pCallF 1 F__law_kinds (pCons (pVar 7) pNil))) (pTh (pMut (pLst (pCons (pVar 6) pNil)))))) (pTest (pOp neR (pCallL reprD1 (pCons (pTh (pCallF 2 F__law_field (pCons (pVar 6) (pCons (pVar 7) pNil)))) pNil)) (pCallL reprD1 (pCons (pVarB 8) pNil)))))) (sSeq (sRet (lift (pC (.bl false)))) sNext) sNext) sNext))) (sSeq (sFor (lift (pIter (pTh (pCallF 1 F__law_by_position (pCons (pVar 5) pNil))))) (.tup [(.name 6), (.name 7)]) (sSeq (sIf (lift (pTest (pOp neR (pCallL reprD1 (pCons (pTh (pCallF 2 F__law_field (pCons (pVar 6) (pCons (pVar 7) pNil)))) pNil)) (pCallL reprD1 (pCons (pVarB 5) pNil))))) (sSeq (sRet (lift (pC (.bl false)))) sNext) sNext) sNext)) sNext))))) (sSeq (sSet 1 3 (lift (pMakeX (fun _ => .ok ("HabitError", []))))) (sSeq (sRet (lift (pAndT (pUn (isXD [("Found", true), ("HabitError", true), ("NoComparer", true), ("NoComparison", true), ("NoFinding", true), ("NoLog", true), ("NoName", true), ("NoNumber", true), ("NoOperation", true), ("NoOption", true), ("NoOwner", true), ("NoPair", true), ("NoShop", true), ("NoText", true), ("NoTool", true), ("NoTree", true), ("NoWorld", true), ("TooMany", true), ("Unsafe", true)]) (pVar 3)) (pOp eqR (pTh (pCallF 1 F__law_kinds (pCons (pVar 3) pNil))) (pTh (pMut (pLst pNil))))))) sNext))))
def F_law : Fd := runF 9 S_law
end
end DL
set_option maxHeartbeats 0
namespace DL
open PySem PySem.Spec PyProof.Rows L2
def top (i : Nat) : Stmt := PySem.Challenge.pw_passhabit_k24_errors_apart.main.body.getD i (.Pass ⟨0, 0, 0, 0⟩)
def hfa : List He.Fa := [.glo "_law_begun",
  .glo "_law_mixed",
  .glo "_law_take",
  .glo "_law_pick",
  .glo "_law_kinds",
  .glo "_law_made",
  .glo "_law_field",
  .glo "_law_by_position",
  .glo "law",
  .glo "Found",
  .glo "NoComparison",
  .glo "NoFinding",
  .glo "NoLog",
  .glo "NoName",
  .glo "NoOwner",
  .glo "NoText",
  .glo "TooMany",
  .glo "Unsafe",
  .exc "HabitError",
  .glo "HabitError",
  .exc "NoComparer",
  .glo "NoComparer",
  .exc "NoNumber",
  .glo "NoNumber",
  .exc "NoOperation",
  .glo "NoOperation",
  .exc "NoOption",
  .glo "NoOption",
  .exc "NoPair",
  .glo "NoPair",
  .exc "NoShop",
  .glo "NoShop",
  .exc "NoTool",
  .glo "NoTool",
  .exc "NoTree",
  .glo "NoTree",
  .exc "NoWorld",
  .glo "NoWorld",
  .free "ValueError",
  .free "isinstance",
  .free "len",
  .free "list",
  .free "range",
  .free "repr"]
def hfn : List Df := [{ at_ := fun K => He.ga K "_law_begun", name := "_law_begun", qual := "_law_begun", st := (top 21) },
  { at_ := fun K => He.ga K "_law_mixed", name := "_law_mixed", qual := "_law_mixed", st := (top 22) },
  { at_ := fun K => He.ga K "_law_take", name := "_law_take", qual := "_law_take", st := (top 23) },
  { at_ := fun K => He.ga K "_law_pick", name := "_law_pick", qual := "_law_pick", st := (top 24) },
  { at_ := fun K => He.ga K "_law_kinds", name := "_law_kinds", qual := "_law_kinds", st := (top 25) },
  { at_ := fun K => He.ga K "_law_made", name := "_law_made", qual := "_law_made", st := (top 26) },
  { at_ := fun K => He.ga K "_law_field", name := "_law_field", qual := "_law_field", st := (top 27) },
  { at_ := fun K => He.ga K "_law_by_position", name := "_law_by_position", qual := "_law_by_position", st := (top 28) },
  { at_ := fun K => He.ga K "law", name := "law", qual := "law", st := (top 29) },
  { at_ := fun K => He.ma K (He.ga K "Found") "__init__", name := "__init__", qual := "Found.__init__", st := (inClass (top 14) 0) },
  { at_ := fun K => He.ma K (He.ga K "NoComparison") "__init__", name := "__init__", qual := "NoComparison.__init__", st := (inClass (top 8) 0) },
  { at_ := fun K => He.ma K (He.ga K "NoFinding") "__init__", name := "__init__", qual := "NoFinding.__init__", st := (inClass (top 9) 0) },
  { at_ := fun K => He.ma K (He.ga K "NoLog") "__init__", name := "__init__", qual := "NoLog.__init__", st := (inClass (top 18) 0) },
  { at_ := fun K => He.ma K (He.ga K "NoName") "__init__", name := "__init__", qual := "NoName.__init__", st := (inClass (top 3) 0) },
  { at_ := fun K => He.ma K (He.ga K "NoOwner") "__init__", name := "__init__", qual := "NoOwner.__init__", st := (inClass (top 13) 0) },
  { at_ := fun K => He.ma K (He.ga K "NoText") "__init__", name := "__init__", qual := "NoText.__init__", st := (inClass (top 19) 0) },
  { at_ := fun K => He.ma K (He.ga K "TooMany") "__init__", name := "__init__", qual := "TooMany.__init__", st := (inClass (top 16) 0) },
  { at_ := fun K => He.ma K (He.ga K "Unsafe") "__init__", name := "__init__", qual := "Unsafe.__init__", st := (inClass (top 17) 0) }]
def hexl (K : PySem.W.Frag) : List Bool := [exIB K "Found" "owner",
  exIB K "NoComparison" "index",
  exIB K "NoFinding" "index",
  exIB K "NoLog" "index",
  exIB K "NoName" "name",
  exIB K "NoOwner" "owner",
  exIB K "NoText" "row",
  exIB K "TooMany" "limit",
  exIB K "Unsafe" "tool",
  fdXB K "index" ["NoComparison", "NoFinding", "NoLog"],
  fdXB K "limit" ["TooMany"],
  fdXB K "name" ["NoName"],
  fdXB K "owner" ["Found", "NoOwner"],
  fdXB K "row" ["NoText"],
  fdXB K "tool" ["Unsafe"],
  isXB K (.ref (He.ga K "Found")) [("Found", true), ("HabitError", false), ("NoComparer", false), ("NoComparison", false), ("NoFinding", false), ("NoLog", false), ("NoName", false), ("NoNumber", false), ("NoOperation", false), ("NoOption", false), ("NoOwner", false), ("NoPair", false), ("NoShop", false), ("NoText", false), ("NoTool", false), ("NoTree", false), ("NoWorld", false), ("TooMany", false), ("Unsafe", false)],
  isXB K (.ref (He.ga K "HabitError")) [("Found", true), ("HabitError", true), ("NoComparer", true), ("NoComparison", true), ("NoFinding", true), ("NoLog", true), ("NoName", true), ("NoNumber", true), ("NoOperation", true), ("NoOption", true), ("NoOwner", true), ("NoPair", true), ("NoShop", true), ("NoText", true), ("NoTool", true), ("NoTree", true), ("NoWorld", true), ("TooMany", true), ("Unsafe", true)],
  isXB K (.ref (He.ga K "NoComparer")) [("Found", false), ("HabitError", false), ("NoComparer", true), ("NoComparison", false), ("NoFinding", false), ("NoLog", false), ("NoName", false), ("NoNumber", false), ("NoOperation", false), ("NoOption", false), ("NoOwner", false), ("NoPair", false), ("NoShop", false), ("NoText", false), ("NoTool", false), ("NoTree", false), ("NoWorld", false), ("TooMany", false), ("Unsafe", false)],
  isXB K (.ref (He.ga K "NoComparison")) [("Found", false), ("HabitError", false), ("NoComparer", false), ("NoComparison", true), ("NoFinding", false), ("NoLog", false), ("NoName", false), ("NoNumber", false), ("NoOperation", false), ("NoOption", false), ("NoOwner", false), ("NoPair", false), ("NoShop", false), ("NoText", false), ("NoTool", false), ("NoTree", false), ("NoWorld", false), ("TooMany", false), ("Unsafe", false)],
  isXB K (.ref (He.ga K "NoFinding")) [("Found", false), ("HabitError", false), ("NoComparer", false), ("NoComparison", false), ("NoFinding", true), ("NoLog", false), ("NoName", false), ("NoNumber", false), ("NoOperation", false), ("NoOption", false), ("NoOwner", false), ("NoPair", false), ("NoShop", false), ("NoText", false), ("NoTool", false), ("NoTree", false), ("NoWorld", false), ("TooMany", false), ("Unsafe", false)],
  isXB K (.ref (He.ga K "NoLog")) [("Found", false), ("HabitError", false), ("NoComparer", false), ("NoComparison", false), ("NoFinding", false), ("NoLog", true), ("NoName", false), ("NoNumber", false), ("NoOperation", false), ("NoOption", false), ("NoOwner", false), ("NoPair", false), ("NoShop", false), ("NoText", false), ("NoTool", false), ("NoTree", false), ("NoWorld", false), ("TooMany", false), ("Unsafe", false)],
  isXB K (.ref (He.ga K "NoName")) [("Found", false), ("HabitError", false), ("NoComparer", false), ("NoComparison", false), ("NoFinding", false), ("NoLog", false), ("NoName", true), ("NoNumber", false), ("NoOperation", false), ("NoOption", false), ("NoOwner", false), ("NoPair", false), ("NoShop", false), ("NoText", false), ("NoTool", false), ("NoTree", false), ("NoWorld", false), ("TooMany", false), ("Unsafe", false)],
  isXB K (.ref (He.ga K "NoNumber")) [("Found", false), ("HabitError", false), ("NoComparer", false), ("NoComparison", false), ("NoFinding", false), ("NoLog", false), ("NoName", false), ("NoNumber", true), ("NoOperation", false), ("NoOption", false), ("NoOwner", false), ("NoPair", false), ("NoShop", false), ("NoText", false), ("NoTool", false), ("NoTree", false), ("NoWorld", false), ("TooMany", false), ("Unsafe", false)],
  isXB K (.ref (He.ga K "NoOperation")) [("Found", false), ("HabitError", false), ("NoComparer", false), ("NoComparison", false), ("NoFinding", false), ("NoLog", false), ("NoName", false), ("NoNumber", false), ("NoOperation", true), ("NoOption", false), ("NoOwner", false), ("NoPair", false), ("NoShop", false), ("NoText", false), ("NoTool", false), ("NoTree", false), ("NoWorld", false), ("TooMany", false), ("Unsafe", false)],
  isXB K (.ref (He.ga K "NoOption")) [("Found", false), ("HabitError", false), ("NoComparer", false), ("NoComparison", false), ("NoFinding", false), ("NoLog", false), ("NoName", false), ("NoNumber", false), ("NoOperation", false), ("NoOption", true), ("NoOwner", false), ("NoPair", false), ("NoShop", false), ("NoText", false), ("NoTool", false), ("NoTree", false), ("NoWorld", false), ("TooMany", false), ("Unsafe", false)],
  isXB K (.ref (He.ga K "NoOwner")) [("Found", false), ("HabitError", false), ("NoComparer", false), ("NoComparison", false), ("NoFinding", false), ("NoLog", false), ("NoName", false), ("NoNumber", false), ("NoOperation", false), ("NoOption", false), ("NoOwner", true), ("NoPair", false), ("NoShop", false), ("NoText", false), ("NoTool", false), ("NoTree", false), ("NoWorld", false), ("TooMany", false), ("Unsafe", false)],
  isXB K (.ref (He.ga K "NoPair")) [("Found", false), ("HabitError", false), ("NoComparer", false), ("NoComparison", false), ("NoFinding", false), ("NoLog", false), ("NoName", false), ("NoNumber", false), ("NoOperation", false), ("NoOption", false), ("NoOwner", false), ("NoPair", true), ("NoShop", false), ("NoText", false), ("NoTool", false), ("NoTree", false), ("NoWorld", false), ("TooMany", false), ("Unsafe", false)],
  isXB K (.ref (He.ga K "NoShop")) [("Found", false), ("HabitError", false), ("NoComparer", false), ("NoComparison", false), ("NoFinding", false), ("NoLog", false), ("NoName", false), ("NoNumber", false), ("NoOperation", false), ("NoOption", false), ("NoOwner", false), ("NoPair", false), ("NoShop", true), ("NoText", false), ("NoTool", false), ("NoTree", false), ("NoWorld", false), ("TooMany", false), ("Unsafe", false)],
  isXB K (.ref (He.ga K "NoText")) [("Found", false), ("HabitError", false), ("NoComparer", false), ("NoComparison", false), ("NoFinding", false), ("NoLog", false), ("NoName", false), ("NoNumber", false), ("NoOperation", false), ("NoOption", false), ("NoOwner", false), ("NoPair", false), ("NoShop", false), ("NoText", true), ("NoTool", false), ("NoTree", false), ("NoWorld", false), ("TooMany", false), ("Unsafe", false)],
  isXB K (.ref (He.ga K "NoTool")) [("Found", false), ("HabitError", false), ("NoComparer", false), ("NoComparison", false), ("NoFinding", false), ("NoLog", false), ("NoName", false), ("NoNumber", false), ("NoOperation", false), ("NoOption", false), ("NoOwner", false), ("NoPair", false), ("NoShop", false), ("NoText", false), ("NoTool", true), ("NoTree", false), ("NoWorld", false), ("TooMany", false), ("Unsafe", false)],
  isXB K (.ref (He.ga K "NoTree")) [("Found", false), ("HabitError", false), ("NoComparer", false), ("NoComparison", false), ("NoFinding", false), ("NoLog", false), ("NoName", false), ("NoNumber", false), ("NoOperation", false), ("NoOption", false), ("NoOwner", false), ("NoPair", false), ("NoShop", false), ("NoText", false), ("NoTool", false), ("NoTree", true), ("NoWorld", false), ("TooMany", false), ("Unsafe", false)],
  isXB K (.ref (He.ga K "NoWorld")) [("Found", false), ("HabitError", false), ("NoComparer", false), ("NoComparison", false), ("NoFinding", false), ("NoLog", false), ("NoName", false), ("NoNumber", false), ("NoOperation", false), ("NoOption", false), ("NoOwner", false), ("NoPair", false), ("NoShop", false), ("NoText", false), ("NoTool", false), ("NoTree", false), ("NoWorld", true), ("TooMany", false), ("Unsafe", false)],
  isXB K (.ref (He.ga K "TooMany")) [("Found", false), ("HabitError", false), ("NoComparer", false), ("NoComparison", false), ("NoFinding", false), ("NoLog", false), ("NoName", false), ("NoNumber", false), ("NoOperation", false), ("NoOption", false), ("NoOwner", false), ("NoPair", false), ("NoShop", false), ("NoText", false), ("NoTool", false), ("NoTree", false), ("NoWorld", false), ("TooMany", true), ("Unsafe", false)],
  isXB K (.ref (He.ga K "Unsafe")) [("Found", false), ("HabitError", false), ("NoComparer", false), ("NoComparison", false), ("NoFinding", false), ("NoLog", false), ("NoName", false), ("NoNumber", false), ("NoOperation", false), ("NoOption", false), ("NoOwner", false), ("NoPair", false), ("NoShop", false), ("NoText", false), ("NoTool", false), ("NoTree", false), ("NoWorld", false), ("TooMany", false), ("Unsafe", true)],
  isXB K (.type "ValueError") [("Found", true), ("HabitError", true), ("NoComparer", true), ("NoComparison", true), ("NoFinding", true), ("NoLog", true), ("NoName", true), ("NoNumber", true), ("NoOperation", true), ("NoOption", true), ("NoOwner", true), ("NoPair", true), ("NoShop", true), ("NoText", true), ("NoTool", true), ("NoTree", true), ("NoWorld", true), ("TooMany", true), ("Unsafe", true)],
  exB2 K "HabitError"]
def hex (K : PySem.W.Frag) : Bool := (hexl K).all id
def nm0 : List PySem.Str := ["HabitError", "NoShop", "NoName", "NoTool", "NoComparer", "NoPair", "NoWorld", "NoComparison", "NoFinding", "NoTree", "NoNumber", "NoOption", "NoOwner", "Found", "NoOperation", "TooMany", "Unsafe", "NoLog", "NoText", "_law_begun", "_law_mixed", "_law_take", "_law_pick", "_law_kinds", "_law_made", "_law_field", "_law_by_position"]
def nms : List PySem.Str := nm0
abbrev hR : PySem.W.OpenRow := PySem.W.OpenLaw.row PySem.Challenge.rw_passhabit_k24_errors_apart
def has : List Addr := cStatics :: [3, 6, 4, 24, 37, 56, 68, 80, 92, 104, 123, 142, 154, 166, 178, 197, 216, 228, 247, 266, 285, 304, 311, 318, 325, 332, 337, 344, 351, 358, 365, 0, 23, 36, 55, 67, 79, 91, 103, 122, 141, 153, 165, 177, 196, 215, 227, 246, 265, 284, 303, 310, 317, 324, 331, 336, 343, 350, 357, 364, 22, 25, 35, 53, 54, 66, 78, 90, 102, 120, 121, 139, 140, 152, 164, 176, 194, 195, 213, 214, 226, 244, 245, 263, 264, 282, 283, 301, 302, 307, 308, 309, 312, 313, 314, 315, 316, 319, 320, 321, 322, 323, 326, 327, 328, 329, 330, 333, 334, 335, 338, 339, 340, 341, 342, 345, 346, 347, 348, 349, 352, 353, 354, 355, 356, 359, 360, 361, 362, 363, 52, 119, 138, 193, 212, 243, 262, 281, 300, 47, 48, 49, 50, 51, 114, 115, 116, 117, 118, 133, 134, 135, 136, 137, 188, 189, 190, 191, 192, 207, 208, 209, 210, 211, 238, 239, 240, 241, 242, 257, 258, 259, 260, 261, 276, 277, 278, 279, 280, 295, 296, 297, 298, 299]
abbrev hk : PySem.W.Hook := hookA has hfa hex hfn
def hob (s : PySem.W.SharedT) : AlL := obsLA has hfa hex hfn (HandSHeadRun.getT s)
theorem hob_eq (s : PySem.W.SharedT) : hob s = hk.obs s.abs := obsLA_eq (HandSHeadRun.getT_eq s)
open PySem PySem.W PySem.Calls PyProof.Rows HandSHeadRun in
theorem hrun1 (w : World) (os : OsState) : (endF (stepQ (denQ tabQ) hR.prog w) 20000 hR.prog w os).map (fun s => looksF hR.prog (boot_heap w.params) s.abs) = some true := by
  kernel_rfl
open PySem PySem.W PySem.Calls PyProof.Rows HandSHeadRun in
theorem hrun2 (w : World) (os : OsState) : (endF (stepQ (denQ tabQ) hR.prog w) 20000 hR.prog w os).map (fun s => seenQ (view hR.prog [29]) nms (importedModules hR.prog.main.body) (fun s => xlAt (view hR.prog [29]) [] s && recOk hR.toRowW.records s) s.abs) = some (openGood (view hR.prog [29]) nms) := by
  kernel_rfl
open PySem PySem.W PySem.Calls PyProof.Rows HandSHeadRun in
theorem hrun3 (w : World) (os : OsState) : (endF (stepQ (denQ tabQ) hR.prog w) 20000 hR.prog w os).map hob = some (hk.val w) := by
  kernel_rfl
theorem hrun (w : World) : HandSHeadRun.RunEq hR (PySem.W.view hR.prog [29]) hk hob 20000 nms w := by
  intro os
  exact map3 (hrun1 w os) (hrun2 w os) (hrun3 w os)
end DL
set_option maxHeartbeats 4000000
namespace DL
open PySem PySem.Spec PyProof.Rows L2
variable [TheW]
structure Fx (K : PySem.W.Frag) (mg : Str → Option Value) : Prop where
  f__law_begun : FnF K mg "_law_begun" (top 21)
  f__law_mixed : FnF K mg "_law_mixed" (top 22)
  f__law_take : FnF K mg "_law_take" (top 23)
  f__law_pick : FnF K mg "_law_pick" (top 24)
  f__law_kinds : FnF K mg "_law_kinds" (top 25)
  f__law_made : FnF K mg "_law_made" (top 26)
  f__law_field : FnF K mg "_law_field" (top 27)
  f__law_by_position : FnF K mg "_law_by_position" (top 28)
  f_law : FnF K mg "law" (top 29)
  ei_Found : ExI K mg "Found" "owner" "Found.__init__" (inClass (top 14) 0)
  ei_NoComparison : ExI K mg "NoComparison" "index" "NoComparison.__init__" (inClass (top 8) 0)
  ei_NoFinding : ExI K mg "NoFinding" "index" "NoFinding.__init__" (inClass (top 9) 0)
  ei_NoLog : ExI K mg "NoLog" "index" "NoLog.__init__" (inClass (top 18) 0)
  ei_NoName : ExI K mg "NoName" "name" "NoName.__init__" (inClass (top 3) 0)
  ei_NoOwner : ExI K mg "NoOwner" "owner" "NoOwner.__init__" (inClass (top 13) 0)
  ei_NoText : ExI K mg "NoText" "row" "NoText.__init__" (inClass (top 19) 0)
  ei_TooMany : ExI K mg "TooMany" "limit" "TooMany.__init__" (inClass (top 16) 0)
  ei_Unsafe : ExI K mg "Unsafe" "tool" "Unsafe.__init__" (inClass (top 17) 0)
  en_HabitError : ExN K mg "HabitError"
  en_NoComparer : ExN K mg "NoComparer"
  en_NoNumber : ExN K mg "NoNumber"
  en_NoOperation : ExN K mg "NoOperation"
  en_NoOption : ExN K mg "NoOption"
  en_NoPair : ExN K mg "NoPair"
  en_NoShop : ExN K mg "NoShop"
  en_NoTool : ExN K mg "NoTool"
  en_NoTree : ExN K mg "NoTree"
  en_NoWorld : ExN K mg "NoWorld"
  fdx_index : FdXT K "index" ["NoComparison", "NoFinding", "NoLog"]
  fdx_limit : FdXT K "limit" ["TooMany"]
  fdx_name : FdXT K "name" ["NoName"]
  fdx_owner : FdXT K "owner" ["Found", "NoOwner"]
  fdx_row : FdXT K "row" ["NoText"]
  fdx_tool : FdXT K "tool" ["Unsafe"]
  x_ValueError : mg "ValueError" = none
  x_isinstance : mg "isinstance" = none
  x_len : mg "len" = none
  x_list : mg "list" = none
  x_range : mg "range" = none
  x_repr : mg "repr" = none
  gl_Found : mg "Found" = some (.ref (He.ga K "Found"))
  gl_HabitError : mg "HabitError" = some (.ref (He.ga K "HabitError"))
  gl_NoComparer : mg "NoComparer" = some (.ref (He.ga K "NoComparer"))
  gl_NoComparison : mg "NoComparison" = some (.ref (He.ga K "NoComparison"))
  gl_NoFinding : mg "NoFinding" = some (.ref (He.ga K "NoFinding"))
  gl_NoLog : mg "NoLog" = some (.ref (He.ga K "NoLog"))
  gl_NoName : mg "NoName" = some (.ref (He.ga K "NoName"))
  gl_NoNumber : mg "NoNumber" = some (.ref (He.ga K "NoNumber"))
  gl_NoOperation : mg "NoOperation" = some (.ref (He.ga K "NoOperation"))
  gl_NoOption : mg "NoOption" = some (.ref (He.ga K "NoOption"))
  gl_NoOwner : mg "NoOwner" = some (.ref (He.ga K "NoOwner"))
  gl_NoPair : mg "NoPair" = some (.ref (He.ga K "NoPair"))
  gl_NoShop : mg "NoShop" = some (.ref (He.ga K "NoShop"))
  gl_NoText : mg "NoText" = some (.ref (He.ga K "NoText"))
  gl_NoTool : mg "NoTool" = some (.ref (He.ga K "NoTool"))
  gl_NoTree : mg "NoTree" = some (.ref (He.ga K "NoTree"))
  gl_NoWorld : mg "NoWorld" = some (.ref (He.ga K "NoWorld"))
  gl_TooMany : mg "TooMany" = some (.ref (He.ga K "TooMany"))
  gl_Unsafe : mg "Unsafe" = some (.ref (He.ga K "Unsafe"))
  ix_Found : IsXT K (.ref (He.ga K "Found")) [("Found", true), ("HabitError", false), ("NoComparer", false), ("NoComparison", false), ("NoFinding", false), ("NoLog", false), ("NoName", false), ("NoNumber", false), ("NoOperation", false), ("NoOption", false), ("NoOwner", false), ("NoPair", false), ("NoShop", false), ("NoText", false), ("NoTool", false), ("NoTree", false), ("NoWorld", false), ("TooMany", false), ("Unsafe", false)]
  ix_HabitError : IsXT K (.ref (He.ga K "HabitError")) [("Found", true), ("HabitError", true), ("NoComparer", true), ("NoComparison", true), ("NoFinding", true), ("NoLog", true), ("NoName", true), ("NoNumber", true), ("NoOperation", true), ("NoOption", true), ("NoOwner", true), ("NoPair", true), ("NoShop", true), ("NoText", true), ("NoTool", true), ("NoTree", true), ("NoWorld", true), ("TooMany", true), ("Unsafe", true)]
  ix_NoComparer : IsXT K (.ref (He.ga K "NoComparer")) [("Found", false), ("HabitError", false), ("NoComparer", true), ("NoComparison", false), ("NoFinding", false), ("NoLog", false), ("NoName", false), ("NoNumber", false), ("NoOperation", false), ("NoOption", false), ("NoOwner", false), ("NoPair", false), ("NoShop", false), ("NoText", false), ("NoTool", false), ("NoTree", false), ("NoWorld", false), ("TooMany", false), ("Unsafe", false)]
  ix_NoComparison : IsXT K (.ref (He.ga K "NoComparison")) [("Found", false), ("HabitError", false), ("NoComparer", false), ("NoComparison", true), ("NoFinding", false), ("NoLog", false), ("NoName", false), ("NoNumber", false), ("NoOperation", false), ("NoOption", false), ("NoOwner", false), ("NoPair", false), ("NoShop", false), ("NoText", false), ("NoTool", false), ("NoTree", false), ("NoWorld", false), ("TooMany", false), ("Unsafe", false)]
  ix_NoFinding : IsXT K (.ref (He.ga K "NoFinding")) [("Found", false), ("HabitError", false), ("NoComparer", false), ("NoComparison", false), ("NoFinding", true), ("NoLog", false), ("NoName", false), ("NoNumber", false), ("NoOperation", false), ("NoOption", false), ("NoOwner", false), ("NoPair", false), ("NoShop", false), ("NoText", false), ("NoTool", false), ("NoTree", false), ("NoWorld", false), ("TooMany", false), ("Unsafe", false)]
  ix_NoLog : IsXT K (.ref (He.ga K "NoLog")) [("Found", false), ("HabitError", false), ("NoComparer", false), ("NoComparison", false), ("NoFinding", false), ("NoLog", true), ("NoName", false), ("NoNumber", false), ("NoOperation", false), ("NoOption", false), ("NoOwner", false), ("NoPair", false), ("NoShop", false), ("NoText", false), ("NoTool", false), ("NoTree", false), ("NoWorld", false), ("TooMany", false), ("Unsafe", false)]
  ix_NoName : IsXT K (.ref (He.ga K "NoName")) [("Found", false), ("HabitError", false), ("NoComparer", false), ("NoComparison", false), ("NoFinding", false), ("NoLog", false), ("NoName", true), ("NoNumber", false), ("NoOperation", false), ("NoOption", false), ("NoOwner", false), ("NoPair", false), ("NoShop", false), ("NoText", false), ("NoTool", false), ("NoTree", false), ("NoWorld", false), ("TooMany", false), ("Unsafe", false)]
  ix_NoNumber : IsXT K (.ref (He.ga K "NoNumber")) [("Found", false), ("HabitError", false), ("NoComparer", false), ("NoComparison", false), ("NoFinding", false), ("NoLog", false), ("NoName", false), ("NoNumber", true), ("NoOperation", false), ("NoOption", false), ("NoOwner", false), ("NoPair", false), ("NoShop", false), ("NoText", false), ("NoTool", false), ("NoTree", false), ("NoWorld", false), ("TooMany", false), ("Unsafe", false)]
  ix_NoOperation : IsXT K (.ref (He.ga K "NoOperation")) [("Found", false), ("HabitError", false), ("NoComparer", false), ("NoComparison", false), ("NoFinding", false), ("NoLog", false), ("NoName", false), ("NoNumber", false), ("NoOperation", true), ("NoOption", false), ("NoOwner", false), ("NoPair", false), ("NoShop", false), ("NoText", false), ("NoTool", false), ("NoTree", false), ("NoWorld", false), ("TooMany", false), ("Unsafe", false)]
  ix_NoOption : IsXT K (.ref (He.ga K "NoOption")) [("Found", false), ("HabitError", false), ("NoComparer", false), ("NoComparison", false), ("NoFinding", false), ("NoLog", false), ("NoName", false), ("NoNumber", false), ("NoOperation", false), ("NoOption", true), ("NoOwner", false), ("NoPair", false), ("NoShop", false), ("NoText", false), ("NoTool", false), ("NoTree", false), ("NoWorld", false), ("TooMany", false), ("Unsafe", false)]
  ix_NoOwner : IsXT K (.ref (He.ga K "NoOwner")) [("Found", false), ("HabitError", false), ("NoComparer", false), ("NoComparison", false), ("NoFinding", false), ("NoLog", false), ("NoName", false), ("NoNumber", false), ("NoOperation", false), ("NoOption", false), ("NoOwner", true), ("NoPair", false), ("NoShop", false), ("NoText", false), ("NoTool", false), ("NoTree", false), ("NoWorld", false), ("TooMany", false), ("Unsafe", false)]
  ix_NoPair : IsXT K (.ref (He.ga K "NoPair")) [("Found", false), ("HabitError", false), ("NoComparer", false), ("NoComparison", false), ("NoFinding", false), ("NoLog", false), ("NoName", false), ("NoNumber", false), ("NoOperation", false), ("NoOption", false), ("NoOwner", false), ("NoPair", true), ("NoShop", false), ("NoText", false), ("NoTool", false), ("NoTree", false), ("NoWorld", false), ("TooMany", false), ("Unsafe", false)]
  ix_NoShop : IsXT K (.ref (He.ga K "NoShop")) [("Found", false), ("HabitError", false), ("NoComparer", false), ("NoComparison", false), ("NoFinding", false), ("NoLog", false), ("NoName", false), ("NoNumber", false), ("NoOperation", false), ("NoOption", false), ("NoOwner", false), ("NoPair", false), ("NoShop", true), ("NoText", false), ("NoTool", false), ("NoTree", false), ("NoWorld", false), ("TooMany", false), ("Unsafe", false)]
  ix_NoText : IsXT K (.ref (He.ga K "NoText")) [("Found", false), ("HabitError", false), ("NoComparer", false), ("NoComparison", false), ("NoFinding", false), ("NoLog", false), ("NoName", false), ("NoNumber", false), ("NoOperation", false), ("NoOption", false), ("NoOwner", false), ("NoPair", false), ("NoShop", false), ("NoText", true), ("NoTool", false), ("NoTree", false), ("NoWorld", false), ("TooMany", false), ("Unsafe", false)]
  ix_NoTool : IsXT K (.ref (He.ga K "NoTool")) [("Found", false), ("HabitError", false), ("NoComparer", false), ("NoComparison", false), ("NoFinding", false), ("NoLog", false), ("NoName", false), ("NoNumber", false), ("NoOperation", false), ("NoOption", false), ("NoOwner", false), ("NoPair", false), ("NoShop", false), ("NoText", false), ("NoTool", true), ("NoTree", false), ("NoWorld", false), ("TooMany", false), ("Unsafe", false)]
  ix_NoTree : IsXT K (.ref (He.ga K "NoTree")) [("Found", false), ("HabitError", false), ("NoComparer", false), ("NoComparison", false), ("NoFinding", false), ("NoLog", false), ("NoName", false), ("NoNumber", false), ("NoOperation", false), ("NoOption", false), ("NoOwner", false), ("NoPair", false), ("NoShop", false), ("NoText", false), ("NoTool", false), ("NoTree", true), ("NoWorld", false), ("TooMany", false), ("Unsafe", false)]
  ix_NoWorld : IsXT K (.ref (He.ga K "NoWorld")) [("Found", false), ("HabitError", false), ("NoComparer", false), ("NoComparison", false), ("NoFinding", false), ("NoLog", false), ("NoName", false), ("NoNumber", false), ("NoOperation", false), ("NoOption", false), ("NoOwner", false), ("NoPair", false), ("NoShop", false), ("NoText", false), ("NoTool", false), ("NoTree", false), ("NoWorld", true), ("TooMany", false), ("Unsafe", false)]
  ix_TooMany : IsXT K (.ref (He.ga K "TooMany")) [("Found", false), ("HabitError", false), ("NoComparer", false), ("NoComparison", false), ("NoFinding", false), ("NoLog", false), ("NoName", false), ("NoNumber", false), ("NoOperation", false), ("NoOption", false), ("NoOwner", false), ("NoPair", false), ("NoShop", false), ("NoText", false), ("NoTool", false), ("NoTree", false), ("NoWorld", false), ("TooMany", true), ("Unsafe", false)]
  ix_Unsafe : IsXT K (.ref (He.ga K "Unsafe")) [("Found", false), ("HabitError", false), ("NoComparer", false), ("NoComparison", false), ("NoFinding", false), ("NoLog", false), ("NoName", false), ("NoNumber", false), ("NoOperation", false), ("NoOption", false), ("NoOwner", false), ("NoPair", false), ("NoShop", false), ("NoText", false), ("NoTool", false), ("NoTree", false), ("NoWorld", false), ("TooMany", false), ("Unsafe", true)]
  ix_ValueError : IsXT K (.type "ValueError") [("Found", true), ("HabitError", true), ("NoComparer", true), ("NoComparison", true), ("NoFinding", true), ("NoLog", true), ("NoName", true), ("NoNumber", true), ("NoOperation", true), ("NoOption", true), ("NoOwner", true), ("NoPair", true), ("NoShop", true), ("NoText", true), ("NoTool", true), ("NoTree", true), ("NoWorld", true), ("TooMany", true), ("Unsafe", true)]
  eb_HabitError : ExB K mg "HabitError"
noncomputable section
variable {P : Program} {K : PySem.W.Frag} {mg : Str → Option Value} {base : Heap}
/-! ### _law_begun -/
def N__law_begun : List Str := ["_law_script", "_law_wide", "_law_cell"]
theorem sc__law_begun : FnScope N__law_begun ["_law_script"] (defScope (top 21)) := ⟨rfl, rfl, rfl, by decide +kernel, rfl, by decide +kernel, by decide +kernel⟩
theorem c__law_begun (fx : Fx K mg) : Call1 P TheW.w K mg base 1 "_law_begun" ["_law_script"] F__law_begun :=
  call1 (k := 0) fx.f__law_begun sc__law_begun (fun _ _ _ _ _ _ us hl => match us, hl with | [_], _ => rfl) fun c f cdv A outer s0 H E hc hr => by
    have nd := (sc__law_begun).nd
    exact (dss_cons (ds_setLc hc (own := [("_law_cell", 2)]) rfl nd (di_b (di_any (dp_var 0))) (blkOk_by rfl) (fun s H C cl fp => (dg_name 2 nd)) (fun s H C cl fp => (dts_one (dt_cmp op_geO opd_ord ordD_quiet (db_var 2) (dp_b (PE_op op_pow opd_pow steady_rv powD_quiet (dp_b dp_int) (dp_b dp_int)))))) (fun s H C cl fp => (PE_op op_sub opd_sub steady_rv subD_quiet (db_var 2) (dp_b (PE_op op_pow opd_pow steady_rv powD_quiet (dp_b dp_int) (dp_b dp_int)))))) (dss_cons (ds_retD4 hc nm (dp_thN (dn_listA rfl (dab_cons (db_var 0) dab_nil) fx.x_list)) dp_int dp_int) dss_nil))
/-! ### _law_mixed -/
def N__law_mixed : List Str := ["_law_state", "_law_turn", "_law_found", "_law_prime", "_law_blend", "_law_cell"]
theorem sc__law_mixed : FnScope N__law_mixed ["_law_state"] (defScope (top 22)) := ⟨rfl, rfl, rfl, by decide +kernel, rfl, by decide +kernel, by decide +kernel⟩
theorem c__law_mixed (fx : Fx K mg) : Call1 P TheW.w K mg base 1 "_law_mixed" ["_law_state"] F__law_mixed :=
  call1 (k := 0) fx.f__law_mixed sc__law_mixed (fun _ _ _ _ _ _ us hl => match us, hl with | [_], _ => rfl) fun c f cdv A outer s0 H E hc hr => by
    have nd := (sc__law_mixed).nd
    exact (dss_cons (ds_set hc nd (ex_m (em_p (PE_op op_addD opd_add steady_rv addD_quiet (db_dk (hu_of hr) nm) (dp_b dp_int))))) (dss_cons (ds_dput (hu_of hr) nm dp_str (em_p (dp_var 1))) (dss_cons (ds_set hc nd (ex_m (em_p dp_int))) (dss_cons (ds_for PassesOwn.never rfl (ei_i (di_any (dp_thN (dn_lst (da_cons dp_int (da_cons dp_int (da_cons dp_int (da_cons dp_int (da_cons dp_int (da_cons dp_int da_nil)))))))))) (dg_name 3 nd) (dss_cons (ds_set hc nd (ex_m (em_p (PE_op op_addD opd_add steady_rv addD_quiet (dp_b (PE_op op_mulD opd_mul steady_rv mulD_quiet (dp_b dp_int) (db_var 1))) (dp_b (PE_op op_fdiv opd_fdiv steady_rv fdivD_quiet (db_var 3) (dp_b dp_int))))))) (dss_cons (ds_for PassesOwn.never rfl (ei_i (di_any (dp_dk (hu_of hr) nm))) (dg_name 5 nd) (dss_cons (ds_set hc nd (ex_m (em_p (PE_op op_mod opd_mod steady_rv modD_quiet (dp_b (PE_op op_addD opd_add steady_rv addD_quiet (dp_b (PE_op op_mulD opd_mul steady_rv mulD_quiet (db_var 4) (dp_b dp_int))) (db_var 5))) (db_var 3))))) dss_nil)) (dss_cons (ds_set hc nd (ex_m (em_p (PE_op op_addD opd_add steady_rv addD_quiet (dp_b (PE_op op_mulD opd_mul steady_rv mulD_quiet (db_var 2) (dp_b dp_int))) (dp_b (PE_op op_mod opd_mod steady_rv modD_quiet (dp_b (PE_op op_pow opd_pow steady_rv powD_quiet (db_var 4) (dp_b dp_int))) (db_var 3))))))) dss_nil)))) (dss_cons (ds_ret (ex_x (dx_p (dp_var 2)))) dss_nil)))))
/-! ### _law_take -/
def N__law_take : List Str := ["_law_state", "_law_size", "_law_found"]
theorem sc__law_take : FnScope N__law_take ["_law_state", "_law_size"] (defScope (top 23)) := ⟨rfl, rfl, rfl, by decide +kernel, rfl, by decide +kernel, by decide +kernel⟩
theorem c__law_take (fx : Fx K mg) : Call1 P TheW.w K mg base 2 "_law_take" ["_law_state", "_law_size"] F__law_take :=
  call1 (k := 1) fx.f__law_take sc__law_take (fun _ _ _ _ _ _ us hl => match us, hl with | [_, _], _ => rfl) fun c f cdv A outer s0 H E hc hr => by
    have nd := (sc__law_take).nd
    exact (dss_cons (ds_if (et_p (dt_w (dw_and (dt_cmp (op_eqX hr.units) opd_eq eqR_quiet (db_dk (hu_of hr) nm) (dp_b dp_int)) (dw_and1 (dt_cmp (op_neX hr.units) opd_ne neR_quiet (db_dk (hu_of hr) nm) (dp_b (dp_thN (dn_lst da_nil)))))))) (dss_cons (ds_dput (hu_of hr) nm dp_str (em_dpop (hu_of hr) nm)) dss_nil) (dss_cons (ds_if (et_p (dt_cmp (op_eqX hr.units) opd_eq eqR_quiet (db_dk (hu_of hr) nm) (dp_b dp_int))) (dss_cons (ds_dput (hu_of hr) nm dp_str (em_th (ex_c (c__law_mixed fx).mono hr (ear_slot 0 ear_nil)))) dss_nil) dss_nil) dss_nil)) (dss_cons (ds_set hc nd (ex_m (em_p (PE_op op_mod opd_mod steady_rv modD_quiet (db_dk (hu_of hr) nm) (db_var 1))))) (dss_cons (ds_dput (hu_of hr) nm dp_str (em_p (PE_op op_fdiv opd_fdiv steady_rv fdivD_quiet (db_dk (hu_of hr) nm) (db_var 1)))) (dss_cons (ds_ret (ex_x (dx_p (dp_var 2)))) dss_nil))))
/-! ### _law_pick -/
def N__law_pick : List Str := ["_law_state", "_law_some"]
theorem sc__law_pick : FnScope N__law_pick ["_law_state", "_law_some"] (defScope (top 24)) := ⟨rfl, rfl, rfl, by decide +kernel, rfl, by decide +kernel, by decide +kernel⟩
theorem c__law_pick (fx : Fx K mg) : Call1 P TheW.w K mg base 3 "_law_pick" ["_law_state", "_law_some"] F__law_pick :=
  call1 (k := 2) fx.f__law_pick sc__law_pick (fun _ _ _ _ _ _ us hl => match us, hl with | [_, _], _ => rfl) fun c f cdv A outer s0 H E hc hr => by
    have nd := (sc__law_pick).nd
    exact (dss_cons (ds_ret (ex_m (em_ixV (hu_of hr) nm (em_th (ex_c (c__law_take fx).mono hr (ear_slot 0 (ear_val (em_p (PE_callB call_lenA cd_len steady_rv lenD_quiet fx.x_len (by decide +kernel) (dab_cons (db_var 1) dab_nil))) ear_nil))))))) dss_nil)
/-! ### _law_kinds -/
def N__law_kinds : List Str := ["_law_error", "_law_found", "_law_word", "_law_is_so"]
theorem sc__law_kinds : FnScope N__law_kinds ["_law_error"] (defScope (top 25)) := ⟨rfl, rfl, rfl, by decide +kernel, rfl, by decide +kernel, by decide +kernel⟩
theorem c__law_kinds (fx : Fx K mg) : Call1 P TheW.w K mg base 1 "_law_kinds" ["_law_error"] F__law_kinds :=
  call1 (k := 0) fx.f__law_kinds sc__law_kinds (fun _ _ _ _ _ _ us hl => match us, hl with | [_], _ => rfl) fun c f cdv A outer s0 H E hc hr => by
    have nd := (sc__law_kinds).nd
    exact (dss_cons (ds_set hc nd (ex_x (dx_n (dn_lst da_nil)))) (dss_cons (ds_expr (em_lst PySem.F.slot_list_append PySem.F.type_list_append mt_append ld_app nm (ea_p (da_cons (dp_tup (da_cons dp_str (da_cons (dp_isX (dp_b (dp_var 0)) fx.ix_NoShop fx.x_isinstance fx.gl_NoShop) da_nil))) da_nil)))) (dss_cons (ds_expr (em_lst PySem.F.slot_list_append PySem.F.type_list_append mt_append ld_app nm (ea_p (da_cons (dp_tup (da_cons dp_str (da_cons (dp_isX (dp_b (dp_var 0)) fx.ix_NoName fx.x_isinstance fx.gl_NoName) da_nil))) da_nil)))) (dss_cons (ds_expr (em_lst PySem.F.slot_list_append PySem.F.type_list_append mt_append ld_app nm (ea_p (da_cons (dp_tup (da_cons dp_str (da_cons (dp_isX (dp_b (dp_var 0)) fx.ix_NoTool fx.x_isinstance fx.gl_NoTool) da_nil))) da_nil)))) (dss_cons (ds_expr (em_lst PySem.F.slot_list_append PySem.F.type_list_append mt_append ld_app nm (ea_p (da_cons (dp_tup (da_cons dp_str (da_cons (dp_isX (dp_b (dp_var 0)) fx.ix_NoComparer fx.x_isinstance fx.gl_NoComparer) da_nil))) da_nil)))) (dss_cons (ds_expr (em_lst PySem.F.slot_list_append PySem.F.type_list_append mt_append ld_app nm (ea_p (da_cons (dp_tup (da_cons dp_str (da_cons (dp_isX (dp_b (dp_var 0)) fx.ix_NoPair fx.x_isinstance fx.gl_NoPair) da_nil))) da_nil)))) (dss_cons (ds_expr (em_lst PySem.F.slot_list_append PySem.F.type_list_append mt_append ld_app nm (ea_p (da_cons (dp_tup (da_cons dp_str (da_cons (dp_isX (dp_b (dp_var 0)) fx.ix_NoWorld fx.x_isinstance fx.gl_NoWorld) da_nil))) da_nil)))) (dss_cons (ds_expr (em_lst PySem.F.slot_list_append PySem.F.type_list_append mt_append ld_app nm (ea_p (da_cons (dp_tup (da_cons dp_str (da_cons (dp_isX (dp_b (dp_var 0)) fx.ix_NoComparison fx.x_isinstance fx.gl_NoComparison) da_nil))) da_nil)))) (dss_cons (ds_expr (em_lst PySem.F.slot_list_append PySem.F.type_list_append mt_append ld_app nm (ea_p (da_cons (dp_tup (da_cons dp_str (da_cons (dp_isX (dp_b (dp_var 0)) fx.ix_NoFinding fx.x_isinstance fx.gl_NoFinding) da_nil))) da_nil)))) (dss_cons (ds_expr (em_lst PySem.F.slot_list_append PySem.F.type_list_append mt_append ld_app nm (ea_p (da_cons (dp_tup (da_cons dp_str (da_cons (dp_isX (dp_b (dp_var 0)) fx.ix_NoTree fx.x_isinstance fx.gl_NoTree) da_nil))) da_nil)))) (dss_cons (ds_expr (em_lst PySem.F.slot_list_append PySem.F.type_list_append mt_append ld_app nm (ea_p (da_cons (dp_tup (da_cons dp_str (da_cons (dp_isX (dp_b (dp_var 0)) fx.ix_NoNumber fx.x_isinstance fx.gl_NoNumber) da_nil))) da_nil)))) (dss_cons (ds_expr (em_lst PySem.F.slot_list_append PySem.F.type_list_append mt_append ld_app nm (ea_p (da_cons (dp_tup (da_cons dp_str (da_cons (dp_isX (dp_b (dp_var 0)) fx.ix_NoOption fx.x_isinstance fx.gl_NoOption) da_nil))) da_nil)))) (dss_cons (ds_expr (em_lst PySem.F.slot_list_append PySem.F.type_list_append mt_append ld_app nm (ea_p (da_cons (dp_tup (da_cons dp_str (da_cons (dp_isX (dp_b (dp_var 0)) fx.ix_NoOwner fx.x_isinstance fx.gl_NoOwner) da_nil))) da_nil)))) (dss_cons (ds_expr (em_lst PySem.F.slot_list_append PySem.F.type_list_append mt_append ld_app nm (ea_p (da_cons (dp_tup (da_cons dp_str (da_cons (dp_isX (dp_b (dp_var 0)) fx.ix_Found fx.x_isinstance fx.gl_Found) da_nil))) da_nil)))) (dss_cons (ds_expr (em_lst PySem.F.slot_list_append PySem.F.type_list_append mt_append ld_app nm (ea_p (da_cons (dp_tup (da_cons dp_str (da_cons (dp_isX (dp_b (dp_var 0)) fx.ix_NoOperation fx.x_isinstance fx.gl_NoOperation) da_nil))) da_nil)))) (dss_cons (ds_expr (em_lst PySem.F.slot_list_append PySem.F.type_list_append mt_append ld_app nm (ea_p (da_cons (dp_tup (da_cons dp_str (da_cons (dp_isX (dp_b (dp_var 0)) fx.ix_TooMany fx.x_isinstance fx.gl_TooMany) da_nil))) da_nil)))) (dss_cons (ds_expr (em_lst PySem.F.slot_list_append PySem.F.type_list_append mt_append ld_app nm (ea_p (da_cons (dp_tup (da_cons dp_str (da_cons (dp_isX (dp_b (dp_var 0)) fx.ix_Unsafe fx.x_isinstance fx.gl_Unsafe) da_nil))) da_nil)))) (dss_cons (ds_expr (em_lst PySem.F.slot_list_append PySem.F.type_list_append mt_append ld_app nm (ea_p (da_cons (dp_tup (da_cons dp_str (da_cons (dp_isX (dp_b (dp_var 0)) fx.ix_NoLog fx.x_isinstance fx.gl_NoLog) da_nil))) da_nil)))) (dss_cons (ds_expr (em_lst PySem.F.slot_list_append PySem.F.type_list_append mt_append ld_app nm (ea_p (da_cons (dp_tup (da_cons dp_str (da_cons (dp_isX (dp_b (dp_var 0)) fx.ix_NoText fx.x_isinstance fx.gl_NoText) da_nil))) da_nil)))) (dss_cons (ds_ret (ex_x (dx_n (dn_lc (own := [("_law_word", 2), ("_law_is_so", 3)]) rfl nd (dib_any (db_var 1)) (blkOk_by rfl) (fun s H C cl fp => (dg_tup rfl (dgs_cons (dg_name 2 nd) (dgs_cons (dg_name 3 nd) dgs_nil)))) (fun s H C cl fp => (dts_one (dt_val (dp_var 3)))) (fun s H C cl fp => (dp_var 2)))))) dss_nil))))))))))))))))))))
theorem ec_Found (fx : Fx K mg) : ExC P TheW.w K mg base "Found" "owner" := exC_of fx.ei_Found ⟨rfl, rfl, rfl, by decide +kernel, rfl, by decide +kernel, by decide +kernel⟩ fx.eb_HabitError (fun _ _ _ _ _ _ us hl => match us, hl with | [_, _], _ => rfl)
theorem ek_Found (fx : Fx K mg) : ExK P TheW.w K mg base "Found" "owner" := exK_of fx.ei_Found ⟨rfl, rfl, rfl, by decide +kernel, rfl, by decide +kernel, by decide +kernel⟩ fx.eb_HabitError (fun _ _ _ _ _ _ us hl => match us, hl with | [_, _], _ => rfl) (fun _ _ _ _ _ _ us ws h1 h2 => match us, ws, h1, h2 with | [_], [_], _, _ => rfl)
theorem ec_NoComparison (fx : Fx K mg) : ExC P TheW.w K mg base "NoComparison" "index" := exC_of fx.ei_NoComparison ⟨rfl, rfl, rfl, by decide +kernel, rfl, by decide +kernel, by decide +kernel⟩ fx.eb_HabitError (fun _ _ _ _ _ _ us hl => match us, hl with | [_, _], _ => rfl)
theorem ek_NoComparison (fx : Fx K mg) : ExK P TheW.w K mg base "NoComparison" "index" := exK_of fx.ei_NoComparison ⟨rfl, rfl, rfl, by decide +kernel, rfl, by decide +kernel, by decide +kernel⟩ fx.eb_HabitError (fun _ _ _ _ _ _ us hl => match us, hl with | [_, _], _ => rfl) (fun _ _ _ _ _ _ us ws h1 h2 => match us, ws, h1, h2 with | [_], [_], _, _ => rfl)
theorem ec_NoFinding (fx : Fx K mg) : ExC P TheW.w K mg base "NoFinding" "index" := exC_of fx.ei_NoFinding ⟨rfl, rfl, rfl, by decide +kernel, rfl, by decide +kernel, by decide +kernel⟩ fx.eb_HabitError (fun _ _ _ _ _ _ us hl => match us, hl with | [_, _], _ => rfl)
theorem ek_NoFinding (fx : Fx K mg) : ExK P TheW.w K mg base "NoFinding" "index" := exK_of fx.ei_NoFinding ⟨rfl, rfl, rfl, by decide +kernel, rfl, by decide +kernel, by decide +kernel⟩ fx.eb_HabitError (fun _ _ _ _ _ _ us hl => match us, hl with | [_, _], _ => rfl) (fun _ _ _ _ _ _ us ws h1 h2 => match us, ws, h1, h2 with | [_], [_], _, _ => rfl)
theorem ec_NoLog (fx : Fx K mg) : ExC P TheW.w K mg base "NoLog" "index" := exC_of fx.ei_NoLog ⟨rfl, rfl, rfl, by decide +kernel, rfl, by decide +kernel, by decide +kernel⟩ fx.eb_HabitError (fun _ _ _ _ _ _ us hl => match us, hl with | [_, _], _ => rfl)
theorem ek_NoLog (fx : Fx K mg) : ExK P TheW.w K mg base "NoLog" "index" := exK_of fx.ei_NoLog ⟨rfl, rfl, rfl, by decide +kernel, rfl, by decide +kernel, by decide +kernel⟩ fx.eb_HabitError (fun _ _ _ _ _ _ us hl => match us, hl with | [_, _], _ => rfl) (fun _ _ _ _ _ _ us ws h1 h2 => match us, ws, h1, h2 with | [_], [_], _, _ => rfl)
theorem ec_NoName (fx : Fx K mg) : ExC P TheW.w K mg base "NoName" "name" := exC_of fx.ei_NoName ⟨rfl, rfl, rfl, by decide +kernel, rfl, by decide +kernel, by decide +kernel⟩ fx.eb_HabitError (fun _ _ _ _ _ _ us hl => match us, hl with | [_, _], _ => rfl)
theorem ek_NoName (fx : Fx K mg) : ExK P TheW.w K mg base "NoName" "name" := exK_of fx.ei_NoName ⟨rfl, rfl, rfl, by decide +kernel, rfl, by decide +kernel, by decide +kernel⟩ fx.eb_HabitError (fun _ _ _ _ _ _ us hl => match us, hl with | [_, _], _ => rfl) (fun _ _ _ _ _ _ us ws h1 h2 => match us, ws, h1, h2 with | [_], [_], _, _ => rfl)
theorem ec_NoOwner (fx : Fx K mg) : ExC P TheW.w K mg base "NoOwner" "owner" := exC_of fx.ei_NoOwner ⟨rfl, rfl, rfl, by decide +kernel, rfl, by decide +kernel, by decide +kernel⟩ fx.eb_HabitError (fun _ _ _ _ _ _ us hl => match us, hl with | [_, _], _ => rfl)
theorem ek_NoOwner (fx : Fx K mg) : ExK P TheW.w K mg base "NoOwner" "owner" := exK_of fx.ei_NoOwner ⟨rfl, rfl, rfl, by decide +kernel, rfl, by decide +kernel, by decide +kernel⟩ fx.eb_HabitError (fun _ _ _ _ _ _ us hl => match us, hl with | [_, _], _ => rfl) (fun _ _ _ _ _ _ us ws h1 h2 => match us, ws, h1, h2 with | [_], [_], _, _ => rfl)
theorem ec_NoText (fx : Fx K mg) : ExC P TheW.w K mg base "NoText" "row" := exC_of fx.ei_NoText ⟨rfl, rfl, rfl, by decide +kernel, rfl, by decide +kernel, by decide +kernel⟩ fx.eb_HabitError (fun _ _ _ _ _ _ us hl => match us, hl with | [_, _], _ => rfl)
theorem ek_NoText (fx : Fx K mg) : ExK P TheW.w K mg base "NoText" "row" := exK_of fx.ei_NoText ⟨rfl, rfl, rfl, by decide +kernel, rfl, by decide +kernel, by decide +kernel⟩ fx.eb_HabitError (fun _ _ _ _ _ _ us hl => match us, hl with | [_, _], _ => rfl) (fun _ _ _ _ _ _ us ws h1 h2 => match us, ws, h1, h2 with | [_], [_], _, _ => rfl)
theorem ec_TooMany (fx : Fx K mg) : ExC P TheW.w K mg base "TooMany" "limit" := exC_of fx.ei_TooMany ⟨rfl, rfl, rfl, by decide +kernel, rfl, by decide +kernel, by decide +kernel⟩ fx.eb_HabitError (fun _ _ _ _ _ _ us hl => match us, hl with | [_, _], _ => rfl)
theorem ek_TooMany (fx : Fx K mg) : ExK P TheW.w K mg base "TooMany" "limit" := exK_of fx.ei_TooMany ⟨rfl, rfl, rfl, by decide +kernel, rfl, by decide +kernel, by decide +kernel⟩ fx.eb_HabitError (fun _ _ _ _ _ _ us hl => match us, hl with | [_, _], _ => rfl) (fun _ _ _ _ _ _ us ws h1 h2 => match us, ws, h1, h2 with | [_], [_], _, _ => rfl)
theorem ec_Unsafe (fx : Fx K mg) : ExC P TheW.w K mg base "Unsafe" "tool" := exC_of fx.ei_Unsafe ⟨rfl, rfl, rfl, by decide +kernel, rfl, by decide +kernel, by decide +kernel⟩ fx.eb_HabitError (fun _ _ _ _ _ _ us hl => match us, hl with | [_, _], _ => rfl)
theorem ek_Unsafe (fx : Fx K mg) : ExK P TheW.w K mg base "Unsafe" "tool" := exK_of fx.ei_Unsafe ⟨rfl, rfl, rfl, by decide +kernel, rfl, by decide +kernel, by decide +kernel⟩ fx.eb_HabitError (fun _ _ _ _ _ _ us hl => match us, hl with | [_, _], _ => rfl) (fun _ _ _ _ _ _ us ws h1 h2 => match us, ws, h1, h2 with | [_], [_], _, _ => rfl)
/-! ### _law_made -/
def N__law_made : List Str := ["_law_thing", "_law_found"]
theorem sc__law_made : FnScope N__law_made ["_law_thing"] (defScope (top 26)) := ⟨rfl, rfl, rfl, by decide +kernel, rfl, by decide +kernel, by decide +kernel⟩
theorem c__law_made (fx : Fx K mg) : Call1 P TheW.w K mg base 3 "_law_made" ["_law_thing"] F__law_made :=
  call1 (k := 2) fx.f__law_made sc__law_made (fun _ _ _ _ _ _ us hl => match us, hl with | [_], _ => rfl) fun c f cdv A outer s0 H E hc hr => by
    have nd := (sc__law_made).nd
    exact (dss_cons (ds_set hc nd (ex_x (dx_n (dn_lst da_nil)))) (dss_cons (ds_expr (em_lst PySem.F.slot_list_append PySem.F.type_list_append mt_append ld_app nm (ea_p (da_cons (dp_tup (da_cons dp_str (da_cons (dp_made (dk_own fx.en_NoShop)) (da_cons dp_non da_nil)))) da_nil)))) (dss_cons (ds_expr (em_lst PySem.F.slot_list_append PySem.F.type_list_append mt_append ld_app nm (ea_p (da_cons (dp_tup (da_cons dp_str (da_cons (dp_made (dk_oneK (ek_NoName fx) (hr.mono (by decide)) (dkw_cons (dp_var 0) dkw_nil))) (da_cons (dp_var 0) da_nil)))) da_nil)))) (dss_cons (ds_expr (em_lst PySem.F.slot_list_append PySem.F.type_list_append mt_append ld_app nm (ea_p (da_cons (dp_tup (da_cons dp_str (da_cons (dp_made (dk_own fx.en_NoTool)) (da_cons dp_non da_nil)))) da_nil)))) (dss_cons (ds_expr (em_lst PySem.F.slot_list_append PySem.F.type_list_append mt_append ld_app nm (ea_p (da_cons (dp_tup (da_cons dp_str (da_cons (dp_made (dk_own fx.en_NoComparer)) (da_cons dp_non da_nil)))) da_nil)))) (dss_cons (ds_expr (em_lst PySem.F.slot_list_append PySem.F.type_list_append mt_append ld_app nm (ea_p (da_cons (dp_tup (da_cons dp_str (da_cons (dp_made (dk_own fx.en_NoPair)) (da_cons dp_non da_nil)))) da_nil)))) (dss_cons (ds_expr (em_lst PySem.F.slot_list_append PySem.F.type_list_append mt_append ld_app nm (ea_p (da_cons (dp_tup (da_cons dp_str (da_cons (dp_made (dk_own fx.en_NoWorld)) (da_cons dp_non da_nil)))) da_nil)))) (dss_cons (ds_expr (em_lst PySem.F.slot_list_append PySem.F.type_list_append mt_append ld_app nm (ea_p (da_cons (dp_tup (da_cons dp_str (da_cons (dp_made (dk_oneK (ek_NoComparison fx) (hr.mono (by decide)) (dkw_cons (dp_var 0) dkw_nil))) (da_cons (dp_var 0) da_nil)))) da_nil)))) (dss_cons (ds_expr (em_lst PySem.F.slot_list_append PySem.F.type_list_append mt_append ld_app nm (ea_p (da_cons (dp_tup (da_cons dp_str (da_cons (dp_made (dk_oneK (ek_NoFinding fx) (hr.mono (by decide)) (dkw_cons (dp_var 0) dkw_nil))) (da_cons (dp_var 0) da_nil)))) da_nil)))) (dss_cons (ds_expr (em_lst PySem.F.slot_list_append PySem.F.type_list_append mt_append ld_app nm (ea_p (da_cons (dp_tup (da_cons dp_str (da_cons (dp_made (dk_own fx.en_NoTree)) (da_cons dp_non da_nil)))) da_nil)))) (dss_cons (ds_expr (em_lst PySem.F.slot_list_append PySem.F.type_list_append mt_append ld_app nm (ea_p (da_cons (dp_tup (da_cons dp_str (da_cons (dp_made (dk_own fx.en_NoNumber)) (da_cons dp_non da_nil)))) da_nil)))) (dss_cons (ds_expr (em_lst PySem.F.slot_list_append PySem.F.type_list_append mt_append ld_app nm (ea_p (da_cons (dp_tup (da_cons dp_str (da_cons (dp_made (dk_own fx.en_NoOption)) (da_cons dp_non da_nil)))) da_nil)))) (dss_cons (ds_expr (em_lst PySem.F.slot_list_append PySem.F.type_list_append mt_append ld_app nm (ea_p (da_cons (dp_tup (da_cons dp_str (da_cons (dp_made (dk_oneK (ek_NoOwner fx) (hr.mono (by decide)) (dkw_cons (dp_var 0) dkw_nil))) (da_cons (dp_var 0) da_nil)))) da_nil)))) (dss_cons (ds_expr (em_lst PySem.F.slot_list_append PySem.F.type_list_append mt_append ld_app nm (ea_p (da_cons (dp_tup (da_cons dp_str (da_cons (dp_made (dk_oneK (ek_Found fx) (hr.mono (by decide)) (dkw_cons (dp_var 0) dkw_nil))) (da_cons (dp_var 0) da_nil)))) da_nil)))) (dss_cons (ds_expr (em_lst PySem.F.slot_list_append PySem.F.type_list_append mt_append ld_app nm (ea_p (da_cons (dp_tup (da_cons dp_str (da_cons (dp_made (dk_own fx.en_NoOperation)) (da_cons dp_non da_nil)))) da_nil)))) (dss_cons (ds_expr (em_lst PySem.F.slot_list_append PySem.F.type_list_append mt_append ld_app nm (ea_p (da_cons (dp_tup (da_cons dp_str (da_cons (dp_made (dk_oneK (ek_TooMany fx) (hr.mono (by decide)) (dkw_cons (dp_var 0) dkw_nil))) (da_cons (dp_var 0) da_nil)))) da_nil)))) (dss_cons (ds_expr (em_lst PySem.F.slot_list_append PySem.F.type_list_append mt_append ld_app nm (ea_p (da_cons (dp_tup (da_cons dp_str (da_cons (dp_made (dk_oneK (ek_Unsafe fx) (hr.mono (by decide)) (dkw_cons (dp_var 0) dkw_nil))) (da_cons (dp_var 0) da_nil)))) da_nil)))) (dss_cons (ds_expr (em_lst PySem.F.slot_list_append PySem.F.type_list_append mt_append ld_app nm (ea_p (da_cons (dp_tup (da_cons dp_str (da_cons (dp_made (dk_oneK (ek_NoLog fx) (hr.mono (by decide)) (dkw_cons (dp_var 0) dkw_nil))) (da_cons (dp_var 0) da_nil)))) da_nil)))) (dss_cons (ds_expr (em_lst PySem.F.slot_list_append PySem.F.type_list_append mt_append ld_app nm (ea_p (da_cons (dp_tup (da_cons dp_str (da_cons (dp_made (dk_oneK (ek_NoText fx) (hr.mono (by decide)) (dkw_cons (dp_var 0) dkw_nil))) (da_cons (dp_var 0) da_nil)))) da_nil)))) (dss_cons (ds_retV 1 1 hc) dss_nil))))))))))))))))))))
/-! ### _law_field -/
def N__law_field : List Str := ["_law_word", "_law_error"]
theorem sc__law_field : FnScope N__law_field ["_law_word", "_law_error"] (defScope (top 27)) := ⟨rfl, rfl, rfl, by decide +kernel, rfl, by decide +kernel, by decide +kernel⟩
theorem c__law_field (fx : Fx K mg) : Call1 P TheW.w K mg base 1 "_law_field" ["_law_word", "_law_error"] F__law_field :=
  call1 (k := 0) fx.f__law_field sc__law_field (fun _ _ _ _ _ _ us hl => match us, hl with | [_, _], _ => rfl) fun c f cdv A outer s0 H E hc hr => by
    have nd := (sc__law_field).nd
    exact (dss_cons (ds_if (et_p (dt_cmp (op_eqX hr.units) opd_eq eqR_quiet (db_var 0) (dp_b dp_str))) (dss_cons (ds_ret (ex_x (dx_p (dp_fldX fx.fdx_name (dp_var 1))))) dss_nil) dss_nil) (dss_cons (ds_if (et_p (dt_cmp (op_eqX hr.units) opd_eq eqR_quiet (db_var 0) (dp_b dp_str))) (dss_cons (ds_ret (ex_x (dx_p (dp_fldX fx.fdx_index (dp_var 1))))) dss_nil) dss_nil) (dss_cons (ds_if (et_p (dt_cmp (op_eqX hr.units) opd_eq eqR_quiet (db_var 0) (dp_b dp_str))) (dss_cons (ds_ret (ex_x (dx_p (dp_fldX fx.fdx_index (dp_var 1))))) dss_nil) dss_nil) (dss_cons (ds_if (et_p (dt_cmp (op_eqX hr.units) opd_eq eqR_quiet (db_var 0) (dp_b dp_str))) (dss_cons (ds_ret (ex_x (dx_p (dp_fldX fx.fdx_owner (dp_var 1))))) dss_nil) dss_nil) (dss_cons (ds_if (et_p (dt_cmp (op_eqX hr.units) opd_eq eqR_quiet (db_var 0) (dp_b dp_str))) (dss_cons (ds_ret (ex_x (dx_p (dp_fldX fx.fdx_owner (dp_var 1))))) dss_nil) dss_nil) (dss_cons (ds_if (et_p (dt_cmp (op_eqX hr.units) opd_eq eqR_quiet (db_var 0) (dp_b dp_str))) (dss_cons (ds_ret (ex_x (dx_p (dp_fldX fx.fdx_limit (dp_var 1))))) dss_nil) dss_nil) (dss_cons (ds_if (et_p (dt_cmp (op_eqX hr.units) opd_eq eqR_quiet (db_var 0) (dp_b dp_str))) (dss_cons (ds_ret (ex_x (dx_p (dp_fldX fx.fdx_tool (dp_var 1))))) dss_nil) dss_nil) (dss_cons (ds_if (et_p (dt_cmp (op_eqX hr.units) opd_eq eqR_quiet (db_var 0) (dp_b dp_str))) (dss_cons (ds_ret (ex_x (dx_p (dp_fldX fx.fdx_index (dp_var 1))))) dss_nil) dss_nil) (dss_cons (ds_if (et_p (dt_cmp (op_eqX hr.units) opd_eq eqR_quiet (db_var 0) (dp_b dp_str))) (dss_cons (ds_ret (ex_x (dx_p (dp_fldX fx.fdx_row (dp_var 1))))) dss_nil) dss_nil) (dss_cons (ds_ret (ex_x (dx_p dp_non))) dss_nil))))))))))
/-! ### _law_by_position -/
def N__law_by_position : List Str := ["_law_thing", "_law_found"]
theorem sc__law_by_position : FnScope N__law_by_position ["_law_thing"] (defScope (top 28)) := ⟨rfl, rfl, rfl, by decide +kernel, rfl, by decide +kernel, by decide +kernel⟩
theorem c__law_by_position (fx : Fx K mg) : Call1 P TheW.w K mg base 3 "_law_by_position" ["_law_thing"] F__law_by_position :=
  call1 (k := 2) fx.f__law_by_position sc__law_by_position (fun _ _ _ _ _ _ us hl => match us, hl with | [_], _ => rfl) fun c f cdv A outer s0 H E hc hr => by
    have nd := (sc__law_by_position).nd
    exact (dss_cons (ds_set hc nd (ex_m (em_p (dp_thN (dn_lst (da_cons (dp_tup (da_cons dp_str (da_cons (dp_made (dk_one (ec_NoName fx) (hr.mono (by decide)) (dp_var 0))) da_nil))) (da_cons (dp_tup (da_cons dp_str (da_cons (dp_made (dk_one (ec_NoComparison fx) (hr.mono (by decide)) (dp_var 0))) da_nil))) (da_cons (dp_tup (da_cons dp_str (da_cons (dp_made (dk_one (ec_NoFinding fx) (hr.mono (by decide)) (dp_var 0))) da_nil))) da_nil)))))))) (dss_cons (ds_set hc nd (ex_m (em_p (PE_op op_addD opd_add steady_rv addD_quiet (db_var 1) (dp_b (dp_thN (dn_lst (da_cons (dp_tup (da_cons dp_str (da_cons (dp_made (dk_one (ec_NoOwner fx) (hr.mono (by decide)) (dp_var 0))) da_nil))) (da_cons (dp_tup (da_cons dp_str (da_cons (dp_made (dk_one (ec_Found fx) (hr.mono (by decide)) (dp_var 0))) da_nil))) (da_cons (dp_tup (da_cons dp_str (da_cons (dp_made (dk_one (ec_TooMany fx) (hr.mono (by decide)) (dp_var 0))) da_nil))) da_nil)))))))))) (dss_cons (ds_ret (ex_x (dx_p (PE_op op_addD opd_add steady_rv addD_quiet (db_var 1) (dp_b (dp_thN (dn_lst (da_cons (dp_tup (da_cons dp_str (da_cons (dp_made (dk_one (ec_Unsafe fx) (hr.mono (by decide)) (dp_var 0))) da_nil))) (da_cons (dp_tup (da_cons dp_str (da_cons (dp_made (dk_one (ec_NoLog fx) (hr.mono (by decide)) (dp_var 0))) da_nil))) (da_cons (dp_tup (da_cons dp_str (da_cons (dp_made (dk_one (ec_NoText fx) (hr.mono (by decide)) (dp_var 0))) da_nil))) da_nil)))))))))) dss_nil)))
/-! ### law -/
def N_law : List Str := ["_law_script", "_law_state", "_law_turn", "_law_plain", "_law_some", "_law_thing", "_law_word", "_law_error", "_law_due"]
theorem sc_law : FnScope N_law ["_law_script"] (defScope (top 29)) := ⟨rfl, rfl, rfl, by decide +kernel, rfl, by decide +kernel, by decide +kernel⟩
theorem law_ok (fx : Fx K mg) {fd : FuncData} (FD : FunD K "law" "law" (defArgs (top 29)) (defBody (top 29)) (defScope (top 29)) [] [] (He.ga K "law") fd) : FnQ P TheW.w K mg base 4 (He.ga K "law") fd ["_law_script"] (spF K 1 F_law) :=
  fn_bodyQ (k := 3) FD sc_law fun c cdv A outer s0 H E hc hr hG => by
    have nd := (sc_law).nd
    exact (dss_cons (ds_set hc nd (ex_x (dx_c (c__law_begun fx).mono hr (da_cons (dp_var 0) da_nil)))) (dss_cons (ds_for PassesOwn.never rfl (ei_i (di_range1 (da_cons dp_int da_nil) fx.x_range)) (dg_name 2 nd) (dss_cons (ds_set hc nd (ex_m (em_th (ex_lst (ea_cons (em_p dp_int) (ea_cons (em_p dp_int) (ea_cons (em_p (dp_neg dp_int)) (ea_cons (em_p (PE_op op_pow opd_pow steady_rv powD_quiet (dp_b dp_int) (dp_b dp_int))) (ea_cons (em_p dp_str) (ea_cons (em_p dp_str) (ea_cons (em_p dp_non) (ea_cons (em_p dp_bl) (ea_cons (em_p (dp_tup (da_cons dp_int (da_cons (dp_tup (da_cons dp_str da_nil)) da_nil)))) (ea_cons (em_p (dp_thN (dn_lst (da_cons dp_int (da_cons dp_int da_nil))))) (ea_cons (em_p (dp_thN (dn_disp (dps_cons dp_str dp_int dps_nil)))) (ea_cons (em_th (ex_c (c__law_take fx).mono hr (ear_slot 1 (ear_val (em_p dp_int) ear_nil)))) ea_nil)))))))))))))))) (dss_cons (ds_set hc nd (ex_m (em_th (ex_c (c__law_pick fx).mono hr (ear_slot 1 (ear_slot 4 ear_nil)))))) (dss_cons (ds_for PassesOwn.never rfl (ei_i (di_any (dp_th (dx_c (c__law_made fx).mono hr (da_cons (dp_var 5) da_nil))))) (dg_tup rfl (dgs_cons (dg_name 6 nd) (dgs_cons (dg_name 7 nd) (dgs_cons (dg_name 8 nd) dgs_nil)))) (dss_cons (ds_if (et_p (dt_w (dw_or (dt_not (dt_val (dp_isX (dp_b (dp_var 7)) fx.ix_HabitError fx.x_isinstance fx.gl_HabitError))) (dw_or1 (dt_not (dt_val (dp_isXb (dp_b (dp_var 7)) fx.ix_ValueError fx.x_isinstance fx.x_ValueError (by decide +kernel)))))))) (dss_cons (ds_ret (ex_x (dx_p dp_bl))) dss_nil) dss_nil) (dss_cons (ds_if (et_p (dt_w (dw_or (dt_cmp (op_neX hr.units) opd_ne neR_quiet (dp_b (dp_th (dx_c (c__law_kinds fx).mono hr (da_cons (dp_var 7) da_nil)))) (dp_b (dp_thN (dn_lst (da_cons (dp_var 6) da_nil))))) (dw_or1 (dt_cmp (op_neX hr.units) opd_ne neR_quiet (dp_b (dp_repr1 hG hr.units (dab_cons (dp_b (dp_th (dx_c (c__law_field fx).mono hr (da_cons (dp_var 6) (da_cons (dp_var 7) da_nil))))) dab_nil) fx.x_repr)) (dp_b (dp_repr1 hG hr.units (dab_cons (db_var 8) dab_nil) fx.x_repr))))))) (dss_cons (ds_ret (ex_x (dx_p dp_bl))) dss_nil) dss_nil) dss_nil))) (dss_cons (ds_for PassesOwn.never rfl (ei_i (di_any (dp_th (dx_c (c__law_by_position fx).mono hr (da_cons (dp_var 5) da_nil))))) (dg_tup rfl (dgs_cons (dg_name 6 nd) (dgs_cons (dg_name 7 nd) dgs_nil))) (dss_cons (ds_if (et_p (dt_cmp (op_neX hr.units) opd_ne neR_quiet (dp_b (dp_repr1 hG hr.units (dab_cons (dp_b (dp_th (dx_c (c__law_field fx).mono hr (da_cons (dp_var 6) (da_cons (dp_var 7) da_nil))))) dab_nil) fx.x_repr)) (dp_b (dp_repr1 hG hr.units (dab_cons (db_var 5) dab_nil) fx.x_repr)))) (dss_cons (ds_ret (ex_x (dx_p dp_bl))) dss_nil) dss_nil) dss_nil)) dss_nil))))) (dss_cons (ds_set hc nd (ex_m (em_p (dp_made (dk_own fx.en_HabitError))))) (dss_cons (ds_ret (ex_x (dx_p (dp_andT (dp_isXb (dp_b (dp_var 3)) fx.ix_ValueError fx.x_isinstance fx.x_ValueError (by decide +kernel)) (dp_one (PE_cmp (op_eqX hr.units) opd_eq steady_rv eqR_quiet (dp_b (dp_th (dx_c (c__law_kinds fx).mono hr (da_cons (dp_var 3) da_nil)))) (dp_b (dp_thN (dn_lst da_nil))))))))) dss_nil))))
end
end DL

namespace DL
open PySem PySem.Spec PyProof.Rows L2
variable [TheW]
/-! ### reading denotations -/
section
variable {α β : Type}
@[simp] theorem rb_ok (a : α) (k : α → Res β) : Res.bind (.ok a) k = k a := rfl
@[simp] theorem rb_st (k : α → Res β) : Res.bind (.stuck : Res α) k = .stuck := rfl
@[simp] theorem ob_ok (a : α) (r : Rho) (k : α → Rho → Out β) : Out.bind (.ok a r) k = k a r := rfl
@[simp] theorem ro_ok (a : α) (r : Rho) : Res.out (.ok a) r = .ok a r := rfl
@[simp] theorem ofl_ok (a : α) (r : Rho) (k : α → Rho → Fl) : Out.fl (.ok a r) k = k a r := rfl
@[simp] theorem lift_eq (f : P α) (ρ : Rho) : lift f ρ = (f ρ).out ρ := rfl
end
@[simp] theorem seq_eq (a b : S) (ρ : Rho) : sSeq a b ρ = (a ρ).seq b := rfl
@[simp] theorem fseq_nx (ρ : Rho) (b : S) : Fl.seq (.nx ρ) b = b ρ := rfl
@[simp] theorem fseq_ret (d : D) (ρ : Rho) (b : S) : Fl.seq (.ret d ρ) b = .ret d ρ := rfl
@[simp] theorem fseq_ct (ρ : Rho) (b : S) : Fl.seq (.ct ρ) b = .ct ρ := rfl
@[simp] theorem sNext_eq (ρ : Rho) : sNext ρ = .nx ρ := rfl
@[simp] theorem sCont_eq (ρ : Rho) : sCont ρ = .ct ρ := rfl
@[simp] theorem sRet_eq (f : M D) (ρ : Rho) : sRet f ρ = (f ρ).fl fun d ρ' => .ret d ρ' := rfl
@[simp] theorem sIf_eq (t : M Bool) (a b : S) (ρ : Rho) : sIf t a b ρ = (t ρ).fl fun b' ρ' => if b' = true then a ρ' else b ρ' := rfl
@[simp] theorem sExpr_eq {α : Type} (f : M α) (ρ : Rho) : sExpr f ρ = (f ρ).fl fun _ ρ' => .nx ρ' := rfl
@[simp] theorem sFor_eq (src : M (List D)) (t : Tgt) (b : S) (ρ : Rho) : sFor src t b ρ = (src ρ).fl fun ds ρ' => loopF t b ds ρ' := rfl
@[simp] theorem pC_eq (d : D) (ρ : Rho) : pC d ρ = .ok d := rfl
@[simp] theorem pOp_eq (h : D → D → Res D) (f g : P D) (ρ : Rho) : pOp h f g ρ = (f ρ).bind fun x => (g ρ).bind fun y => h x y := rfl
@[simp] theorem pUn_eq (h : D → Res D) (f : P D) (ρ : Rho) : pUn h f ρ = (f ρ).bind h := rfl
@[simp] theorem pNil_eq (ρ : Rho) : pNil ρ = .ok [] := rfl
@[simp] theorem pCons_eq (f : P D) (g : P (List D)) (ρ : Rho) : pCons f g ρ = (f ρ).bind fun x => (g ρ).bind fun xs => .ok (x :: xs) := rfl
@[simp] theorem pCallL_eq (h : List D → Res D) (f : P (List D)) (ρ : Rho) : pCallL h f ρ = (f ρ).bind h := rfl
@[simp] theorem pAnd_eq (f g : P Bool) (ρ : Rho) : pAnd f g ρ = (f ρ).bind fun b => if b = true then g ρ else .ok false := rfl
@[simp] theorem pOr_eq (f g : P Bool) (ρ : Rho) : pOr f g ρ = (f ρ).bind fun b => if b = true then .ok true else g ρ := rfl
@[simp] theorem pNot_eq (f : P Bool) (ρ : Rho) : pNot f ρ = (f ρ).bind fun b => .ok (!b) := rfl
@[simp] theorem pIf_eq {α : Type} (t : P Bool) (f g : P α) (ρ : Rho) : pIf t f g ρ = (t ρ).bind fun b => if b = true then f ρ else g ρ := rfl
@[simp] theorem pTh_eq (f : P D) (ρ : Rho) : pTh f ρ = (f ρ).bind fun d => .ok (thaw d) := rfl
@[simp] theorem pMut_eq (f : P D) (ρ : Rho) : pMut f ρ = (f ρ).bind fun d => .ok (.mut d) := rfl
@[simp] theorem pIter_eq (f : P D) (ρ : Rho) : pIter f ρ = (f ρ).bind iterD := rfl
@[simp] theorem pYes_eq (ρ : Rho) : pYes ρ = .ok true := rfl
@[simp] theorem pTup_eq (f : P (List D)) (ρ : Rho) : pTup f ρ = (f ρ).bind mkTup := rfl
@[simp] theorem pLst_eq (f : P (List D)) (ρ : Rho) : pLst f ρ = (f ρ).bind mkLst := rfl
@[simp] theorem pStar_eq (f : P D) (g : P (List D)) (ρ : Rho) : pStar f g ρ = (f ρ).bind fun x => match x with
  | .tup ds => (g ρ).bind fun xs => .ok (ds ++ xs)
  | .lst ds => (g ρ).bind fun xs => .ok (ds ++ xs)
  | _ => .stuck := rfl
@[simp] theorem pTest_eq (f : P D) (ρ : Rho) : pTest f ρ = (f ρ).bind fun d => match d with
  | .bl b => .ok b
  | _ => .stuck := rfl
@[simp] theorem pChain_eq (h h' : D → D → Res D) (f g k : P D) (ρ : Rho) : pChain h h' f g k ρ = (f ρ).bind fun x => (g ρ).bind fun y => (h x y).bind fun z => match z with
  | .bl true => (k ρ).bind fun w => h' y w
  | .bl false => .ok (.bl false)
  | _ => .stuck := rfl
@[simp] theorem pAndT_eq (f g : P D) (ρ : Rho) : pAndT f g ρ = (f ρ).bind fun d => match truD d with
  | some true => g ρ
  | some false => .ok d
  | none => .stuck := rfl
@[simp] theorem pOrT_eq (f g : P D) (ρ : Rho) : pOrT f g ρ = (f ρ).bind fun d => match truD d with
  | some true => .ok d
  | some false => g ρ
  | none => .stuck := rfl
@[simp] theorem pNotV_eq (f : P D) (ρ : Rho) : pNotV f ρ = (f ρ).bind fun d => match d with
  | .bl b => .ok (.bl !b)
  | _ => .stuck := by unfold pNotV; rfl
/-! slots -/
theorem pVar_at {i : Nat} {ρ : Rho} {d : D} (h : ρ[i]? = some (some d)) (m : isMut d = false) : pVar i ρ = .ok d := by unfold pVar; rw [h]; simp [m]
theorem pVarB_at {i : Nat} {ρ : Rho} {d : D} (h : ρ[i]? = some (some d)) (m : isMut d = false) : pVarB i ρ = .ok d := by
  unfold pVarB
  rw [h]
  cases d <;> first | rfl | cases m
theorem pVarB_mut {i : Nat} {ρ : Rho} {d : D} (h : ρ[i]? = some (some (.mut d))) (m : flat d = true) : pVarB i ρ = .ok d := by
  unfold pVarB
  rw [h]
  simp [m]
/-! ### what is plain stays under thaw -/
mutual
theorem thaw_pl : ∀ {d : D}, plain d = true → thaw d = d
  | .nd _, _ => rfl
  | .exc _ _, _ => rfl
  | .non, _ => rfl
  | .bl _, _ => rfl
  | .int _, _ => rfl
  | .str _, _ => rfl
  | .ty _, _ => rfl
  | .glo _, _ => rfl
  | .set _, _ => rfl
  | .tup ds, h => by have := thawL_pl (ds := ds) (by simpa [plain] using h); simp [thaw, this]
  | .lst ds, h => by have := thawL_pl (ds := ds) (by simpa [plain] using h); simp [thaw, this]
  | .dict kvs, h => by have := thawK_pl (ds := kvs) (by simpa [plain] using h); simp [thaw, this]
  | .ins C fs, h => by have := thawF_pl (ds := fs) (by simpa [plain] using h); simp [thaw, this]
  | .mut _, h => by simp [plain] at h
theorem thawL_pl : ∀ {ds : List D}, plainL ds = true → thawL ds = ds
  | [], _ => rfl
  | d :: ds, h => by
    have h : (plain d && plainL ds) = true := by simpa [plainL] using h
    rw [Bool.and_eq_true] at h
    simp [thawL, thaw_pl h.1, thawL_pl h.2]
theorem thawK_pl : ∀ {ds : List (D × D)}, plainK ds = true → thawK ds = ds
  | [], _ => rfl
  | (k, d) :: ds, h => by
    have h : (plain d && plainK ds) = true := by simpa [plainK] using h
    rw [Bool.and_eq_true] at h
    simp [thawK, thaw_pl h.1, thawK_pl h.2]
theorem thawF_pl : ∀ {ds : List (Str × D)}, plainF ds = true → thawF ds = ds
  | [], _ => rfl
  | (k, d) :: ds, h => by
    have h : (plain d && plainF ds) = true := by simpa [plainF] using h
    rw [Bool.and_eq_true] at h
    simp [thawF, thaw_pl h.1, thawF_pl h.2]
end
theorem plainL_all {ds : List D} (h : ∀ d ∈ ds, plain d = true) : plainL ds = true := by
  induction ds with
  | nil => rfl
  | cons d ds ih => simp [plainL, h d List.mem_cons_self, ih fun e he => h e (List.mem_cons_of_mem _ he)]
theorem thaw_mlst {ds : List D} (h : ∀ d ∈ ds, plain d = true) : thaw (.mut (.lst ds)) = .lst ds := by
  show thawO (.lst ds) = _
  simp [thawO, thawL_pl (plainL_all h)]
/-! ### comprehensions -/
theorem comp_map {g : D → Res (Option D)} {f : D → D} {p : D → Bool} : ∀ {ds : List D}, (∀ d ∈ ds, g d = .ok (if p d = true then some (f d) else none)) → compL g ds = .ok ((ds.filter p).map f)
  | [], _ => rfl
  | d :: ds, h => by
    have h1 := h d List.mem_cons_self
    have h2 := comp_map (ds := ds) fun e he => h e (List.mem_cons_of_mem _ he)
    unfold compL
    rw [h1, h2]
    by_cases q : p d = true <;> simp [q, List.filter_cons]
theorem pComp_eq {vs : List Nat} {t : Tgt} {src : P (List D)} {tt : P Bool} {te : P D} {ρ : Rho} {ds : List D} (f : D → D) (p : D → Bool) (hs : src ρ = .ok ds) (hl : ds.length ≤ LINE)
    (h : ∀ d ∈ ds, ∃ l, asg t d = some l ∧ tt (setR (wipeR ρ vs) l) = .ok (p d) ∧ (p d = true → te (setR (wipeR ρ vs) l) = .ok (f d))) : pComp vs t src tt te ρ = .ok (.lst ((ds.filter p).map f)) := by
  unfold pComp
  rw [hs]
  show (compL _ ds).bind mkLst = _
  rw [comp_map (f := f) (p := p) (fun d hd => ?_)]
  · show mkLst _ = _
    unfold mkLst
    rw [if_pos (Nat.le_trans (by rw [List.length_map]; exact List.length_filter_le _ _) hl)]
  · obtain ⟨l, e, e1, e2⟩ := h d hd
    unfold item
    rw [e]
    simp only
    rw [e1]
    by_cases q : p d = true
    · simp [q, e2 q]
    · simp [Bool.not_eq_true _ ▸ q]
/-! ### statements, step by step -/
section
variable {t : M Bool} {a b c : S} {f : M D} {ρ ρ' : Rho} {d : D} {fl : Fl} {m : Nat} {ds : List D}
theorem lift_ok {α : Type} {g : P α} {x : α} (h : g ρ = .ok x) : lift g ρ = .ok x ρ := by rw [lift_eq, h]; rfl
theorem run_ret {r : Rho} (h : a (ds.map some ++ List.replicate (m - ds.length) none) = .ret d r) : runF m a ds = .ok d r := by unfold runF; rw [h]
theorem runR (ρ0 : Rho) {r : Rho} (h : a ρ0 = .ret d r) (h0 : ds.map some ++ List.replicate (m - ds.length) none = ρ0 := by rfl) : runF m a ds = .ok d r := by subst h0; exact run_ret h
theorem seq_nx (h : a ρ = .nx ρ') : sSeq a b ρ = b ρ' := by rw [seq_eq, h]; rfl
theorem seq_ret {r : Rho} (h : a ρ = .ret d r) : sSeq a b ρ = .ret d r := by rw [seq_eq, h]; rfl
theorem if_f (h : t ρ = .ok false ρ') (k : b ρ' = fl) : sIf t a b ρ = fl := by rw [sIf_eq, h]; exact k
theorem if_t (h : t ρ = .ok true ρ') (k : a ρ' = fl) : sIf t a b ρ = fl := by rw [sIf_eq, h]; exact k
theorem ret_ok (h : f ρ = .ok d ρ') : sRet f ρ = .ret d ρ' := by rw [sRet_eq, h]; rfl
theorem expr_ok (h : f ρ = .ok d ρ') : sExpr f ρ = .nx ρ' := by rw [sExpr_eq, h]; rfl
theorem set_ok {n i : Nat} (h : f ρ = .ok d ρ') (hi : (isMut d && decide (i < n)) = false) : sSet n i f ρ = .nx (ρ'.set i (some d)) := by unfold sSet; rw [h]; show (match isMut d && decide (i < n) with | true => Fl.stuck | false => _) = _; rw [hi]
end
/-! ### for -/
theorem loop_nx {t : Tgt} {b : S} (I : List D → Rho → Prop) : ∀ {ds : List D} {ρ : Rho}, I ds ρ → (∀ d r ρ, d ∈ ds → I (d :: r) ρ → ∃ l, asg t d = some l ∧ ∃ ρ', (b (setR ρ l) = .nx ρ' ∨ b (setR ρ l) = .ct ρ') ∧ I r ρ') → ∃ ρ', loopF t b ds ρ = .nx ρ' ∧ I [] ρ'
  | [], ρ, h, _ => ⟨ρ, rfl, h⟩
  | d :: ds, ρ, h, st => by
    obtain ⟨l, e, ρ', e2, h2⟩ := st d ds ρ List.mem_cons_self h
    obtain ⟨ρ2, e3, h3⟩ := loop_nx I h2 fun d' r ρ hd => st d' r ρ (List.mem_cons_of_mem _ hd)
    refine ⟨ρ2, ?_, h3⟩
    unfold loopF
    rw [e]
    rcases e2 with e2 | e2 <;> (simp only [e2]; exact e3)
/-! ### comprehensions that go on -/
/-! ### names -/
def abc : List Nat := [97, 98, 99, 100, 101, 102, 103, 104, 105, 106, 107, 108, 109, 110, 111, 112, 113, 114, 115, 116, 117, 118, 119, 120, 121, 122]
structure Nm (x : Str) : Prop where
  lo : 1 ≤ x.length
  hi : x.length ≤ 8
  ch : ∀ k ∈ x.cps.toList, k ∈ abc
theorem line_big : (100 : Nat) ≤ LINE := by unfold LINE; rw [sizeLine_eq]; decide
def isTrueR : Res D → Bool
  | .ok (.bl true) => true
  | _ => false
/-! ### a shop -/
def plD (P : List (Str × Str)) : List (D × D) := P.map fun p => (.str p.1, .str p.2)
def sdD (S : List (Str × Str)) : List D := S.map fun s => .tup [.str s.1, .str s.2]
def shopD (P S : List (Str × Str)) (C : List (D × D)) : D := .ins "Shop" [("plan_roles", .dict (plD P)), ("seed_rows", .tup (sdD S)), ("owner_costs", .dict C)]
section
variable {Ps Ss : List (Str × Str)} {C : List (D × D)} {f g : P D} {ρ : Rho}
end
/-! ### a plan of the shop -/
def roleOf (P : List (Str × Str)) (x : Str) : Option Str := P.lookup x
/-- what the law's shops are -/
structure Yard (P S : List (Str × Str)) : Prop where
  nm : ∀ p ∈ P, Nm p.1
  ro : ∀ p ∈ P, p.2 = "build" ∨ p.2 = "compare" ∨ p.2 = "plain"
  nd : (P.map (·.1)).Nodup
  sd : ∀ s ∈ S, ∃ r, roleOf P s.2 = some r
  s1 : 1 ≤ S.length
  s8 : S.length ≤ 8
  p6 : P.length ≤ 6
theorem ixN_nat {n i : Nat} (h : i < n) : ixN n (i : Int) = some i := by
  unfold ixN
  rw [if_pos (by omega), if_pos (by omega), Int.toNat_natCast]
theorem atI_nat {α : Type} {xs : List α} {i : Nat} (h : i < xs.length) : atI xs (i : Int) = xs[i]? := by
  unfold atI
  rw [ixN_nat h]
  rfl
theorem ix_lst {ds : List D} {i : Nat} {d : D} (h : ds[i]? = some d) : ixD (.lst ds) (.int i) = .ok d := by
  show ofOpt (atI ds i) = _
  rw [atI_nat (List.getElem?_eq_some_iff.mp h).1, h]
  rfl
/-! ### tools -/
def toolD (i : Nat) (ps : List Str) : D := .tup [.int (i : Int), .tup (ps.map D.str)]
/-- the plans of a tool, its seed's first -/
def lineOf (S : List (Str × Str)) (i : Nat) (ps : List Str) : List Str := ((S[i]?.map (·.2)).getD "") :: ps
/-- all plans of the shop, at most three -/
structure Pre (P S : List (Str × Str)) (i : Nat) (ps : List Str) : Prop where
  lt : i < S.length
  pl : ∀ x ∈ ps, ∃ r, roleOf P x = some r
  n : ps.length ≤ 3
def builds (P S : List (Str × Str)) (i : Nat) (ps : List Str) : Bool := (lineOf S i ps).dropLast.all fun x => decide (roleOf P x = some "build")
section
variable {P S : List (Str × Str)} {C : List (D × D)}
end
/-! ### tools of a shop -/
structure Tl (P S : List (Str × Str)) (n : Nat) (t : Nat × List Str) : Prop where
  pre : Pre P S t.1 t.2
  ok : builds P S t.1 t.2 = true
  len : t.2.length ≤ n
abbrev tD (t : Nat × List Str) : D := toolD t.1 t.2
def planOf (S : List (Str × Str)) (t : Nat × List Str) : Str := (lineOf S t.1 t.2).getLast (by simp [lineOf])
section
variable {P S : List (Str × Str)} {C : List (D × D)}
/-! ### tools(shop, depth), comparers(shop) -/
def grown (P : List (Str × Str)) (ts : List (Nat × List Str)) : List (Nat × List Str) := ts.flatMap fun t => P.map fun p => (t.1, t.2 ++ [p.1])
/-- one step of tools' loop -/
def growF (P : List (Str × Str)) : D → List D
  | .tup [.int i, .tup ds] => P.map fun p => .tup [.int i, .tup (ds ++ [.str p.1])]
  | _ => []
end
theorem two62 : (2 : Int) ^ 62 = 4611686018427387904 := by decide +kernel
def small62 (n : Int) : Prop := -4611686018427387904 ≤ n ∧ n < 4611686018427387904
theorem rangeD1_eq (n : Int) : rangeD1 [.int n] = if -(2 ^ 62) ≤ n ∧ n < 2 ^ 62 then .ok ((List.range n.toNat).map fun (i : Nat) => D.int (i : Int)) else .stuck := rfl
theorem range_nat {n : Nat} (h : n ≤ 16777216) : rangeD1 [.int n] = .ok ((List.range n).map fun (i : Nat) => D.int (i : Int)) := by
  rw [rangeD1_eq, two62, if_pos ⟨by omega, by omega⟩, Int.toNat_natCast]
theorem range1_ok {fs : P (List D)} {ρ : Rho} {ds : List D} {r : Res (List D)} (h1 : fs ρ = .ok ds) (h2 : rangeD1 ds = r) : pRange1 fs ρ = r := by
  rw [← h2]
  unfold pRange1
  rw [h1]
  exact rb_ok _ _
section
variable {P S : List (Str × Str)} {C : List (D × D)}
def bT (P S : List (Str × Str)) (t : Nat × List Str) : Bool := builds P S t.1 t.2
/-- a tool's test as told by the datum -/
def stsD : List D → Option (List Str)
  | [] => some []
  | .str x :: ds => (stsD ds).map (x :: ·)
  | _ => none
def unT : D → Nat × List Str
  | .tup [.int i, .tup ds] => (i.toNat, (stsD ds).getD [])
  | _ => (0, [])
end
section
variable {P S : List (Str × Str)} {C : List (D × D)}
end
/-! ### worlds -/
def hD (H : List (Nat × Str)) : List (D × D) := H.map fun p => (.int (p.1 : Int), .str p.2)
def kD (K : List (Str × List Str)) : List (D × D) := K.map fun p => (.str p.1, .tup (p.2.map D.str))
def worldD (H : List (Nat × Str)) (K : List (Str × List Str)) : D := .tup [.dict (hD H), .dict (kD K)]
def optD : Option Str → D
  | none => .non
  | some m => .str m
def carriedO (H : List (Nat × Str)) (K : List (Str × List Str)) (t : Nat × List Str) : Option Str := (H.lookup t.1).bind fun m => if t.2.all (fun p => ((K.lookup m).getD []).any fun q => q == p) = true then some m else none
structure Wd (H : List (Nat × Str)) (K : List (Str × List Str)) : Prop where
  kn : ∀ i m, H.lookup i = some m → ∃ ps, K.lookup m = some ps
section
variable {H : List (Nat × Str)} {K : List (Str × List Str)}
end
def seenO (mark own : Option Str) (hid : Str) : Option Str := if (own.isSome && (hid == "all" || decide (mark = own))) = true then none else mark
section
variable {H : List (Nat × Str)} {K : List (Str × List Str)}
def visO (H : List (Nat × Str)) (K : List (Str × List Str)) (c : Nat × List Str) (hid : Str) (t : Nat × List Str) : Option Str := seenO (carriedO H K t) (carriedO H K c) hid
end
section
variable {P S : List (Str × Str)} {C : List (D × D)} {H : List (Nat × Str)} {K : List (Str × List Str)}
end
/-! ### what a mark is known to do -/
def Up (ps : List Str) : Prop := ∀ p ∈ ps.zip (ps.drop 1), ltS p.1 p.2 = true
section
variable {P S : List (Str × Str)} {C : List (D × D)}
end
/-! ### worlds of the shop -/
/-- the marks in use, in order -/
def marksK (H : List (Nat × Str)) : List Str := if H.any (fun p => p.2 == "a") = true then (if H.any (fun p => p.2 == "b") = true then ["a", "b"] else ["a"]) else (if H.any (fun p => p.2 == "b") = true then ["b"] else [])
structure Wk (P S : List (Str × Str)) (H : List (Nat × Str)) (K : List (Str × List Str)) : Prop where
  lt : ∀ p ∈ H, p.1 < S.length
  ab : ∀ p ∈ H, p.2 = "a" ∨ p.2 = "b"
  h100 : H.length ≤ 100
  kk : K.map (·.1) = marksK H
  kn : ∀ p ∈ K, p.2.length ≤ 100
  kp : ∀ p ∈ K, ∀ x ∈ p.2, ∃ r, roleOf P x = some r
  ku : ∀ p ∈ K, Up p.2
  one : ∀ i, minI (H.map fun p => (p.1 : Int)) = some i → lookD (hD H) (.inl i) = some (.str "a")
section
variable {P S : List (Str × Str)} {C : List (D × D)} {H : List (Nat × Str)} {K : List (Str × List Str)}
/-- the frame of is_world past its heads -/
abbrev wF (P S : List (Str × Str)) (C : List (D × D)) (H : List (Nat × Str)) (K : List (Str × List Str)) (x4 x5 : Option D) : Rho := [some (shopD P S C), some (worldD H K), some (.dict (hD H)), some (.dict (kD K)), x4, x5, none, none]
end
/-! ### the table of a comparer's answers -/
def rowD {α : Type} [DecidableEq α] (vs : List α) (v : α) : D := .lst (vs.map fun w => D.bl (decide (v = w)))
def tabD {α : Type} [DecidableEq α] (vs : List α) : D := .lst (vs.map (rowD vs))
section
variable {P S : List (Str × Str)} {C : List (D × D)} {H : List (Nat × Str)} {K : List (Str × List Str)}
end
section
variable {α : Type} [DecidableEq α]
def rk (vs : List α) (v : α) : NestedKey := .tup (vs.map fun w => .num (if decide (v = w) = true then 1 else 0))
def cnt (vs : List α) : Nat := (nubN (vs.map (rk vs))).length
abbrev cF (vs : List α) (x2 x3 : Option D) : Rho := [some (tabD vs), some (.int (vs.length : Nat)), x2, x3, none]
end
section
variable {α β : Type} [DecidableEq α] [DecidableEq β]
end
def unO : D → Option Str
  | .str m => some m
  | _ => none
def unB : D → Bool
  | .bl b => b
  | _ => false
/-! ### marks: what a world's shape says of them -/
section
variable {P S : List (Str × Str)} {H : List (Nat × Str)} {K : List (Str × List Str)}
/-- shown, where the own mark is hidden, is what the mark shows -/
def shownB (mk own : Option Str) : Bool := !(decide (mk = none) || decide (mk = own))
end
section
variable {P S : List (Str × Str)} {C : List (D × D)} {H : List (Nat × Str)} {K : List (Str × List Str)} {c : Nat × List Str} {ts : List (Nat × List Str)} {hid : Str} {x5 x6 x7 x8 x9 : Option D}
abbrev aF (P S : List (Str × Str)) (C : List (D × D)) (H : List (Nat × Str)) (K : List (Str × List Str)) (c : Nat × List Str) (ts : List (Nat × List Str)) (hid : Str) (x5 x6 x7 x8 x9 : Option D) : Rho := [some (shopD P S C), some (worldD H K), some (tD c), some (.lst (ts.map tD)), some (.str hid), x5, x6, x7, x8, x9, none, none, none]
end
section
variable {P S : List (Str × Str)} {C : List (D × D)} {H : List (Nat × Str)} {K : List (Str × List Str)} {c : Nat × List Str} {ts : List (Nat × List Str)} {hid : Str} {x5 x6 x7 x8 x9 : Option D}
end
/-! ### what a lie's own words say a tool carries -/
def toldD (ms : List Str) (K : List (Str × List Str)) : D := .tup [.lst (ms.map D.str), .dict (kD K)]
section
variable {H : List (Nat × Str)} {K : List (Str × List Str)} {ms : List Str}
end
/-! ### a lie's marks, placed -/
def hOf : Nat → List Str → List (Nat × Str)
  | _, [] => []
  | i, m :: ms => if m = "" then hOf (i + 1) ms else (i, m) :: hOf (i + 1) ms
theorem hOf_ge : ∀ {ms : List Str} {i : Nat} {p : Nat × Str}, p ∈ hOf i ms → i ≤ p.1 ∧ p.1 < i + ms.length ∧ p.2 ∈ ms ∧ p.2 ≠ ""
  | [], i, p, h => by cases h
  | m :: ms, i, p, h => by
    unfold hOf at h
    have r : p ∈ hOf (i + 1) ms → i ≤ p.1 ∧ p.1 < i + (m :: ms).length ∧ p.2 ∈ (m :: ms) ∧ p.2 ≠ "" := fun h => by
      obtain ⟨h1, h2, h3, h4⟩ := hOf_ge h
      rw [List.length_cons]
      exact ⟨by omega, by omega, List.mem_cons_of_mem _ h3, h4⟩
    split at h
    · exact r h
    · rename_i ne
      rcases List.mem_cons.mp h with rfl | h
      · rw [List.length_cons]
        exact ⟨Nat.le_refl _, by show i < _; omega, List.mem_cons_self, ne⟩
      · exact r h
theorem hOf_nd : ∀ (ms : List Str) (i : Nat), ((hOf i ms).map (·.1)).Nodup
  | [], _ => List.nodup_nil
  | m :: ms, i => by
    unfold hOf
    split
    · exact hOf_nd ms (i + 1)
    · refine List.nodup_cons.mpr ⟨fun h => ?_, hOf_nd ms (i + 1)⟩
      obtain ⟨p, hp, e⟩ := List.mem_map.mp h
      have e : p.1 = i := e
      have := (hOf_ge hp).1
      omega
def hasMark : D → Bool
  | .tup [_, .str m] => !(m == "")
  | _ => false
theorem enum_hOf : ∀ (ms : List Str) (i : Nat), ((enumF i (ms.map D.str)).filter hasMark) = (hD (hOf i ms)).map fun p : D × D => .tup [p.1, p.2]
  | [], _ => rfl
  | m :: ms, i => by
    have r := enum_hOf ms (i + 1)
    show (D.tup [.int (i : Nat), .str m] :: enumF (i + 1) (ms.map D.str)).filter hasMark = _
    rw [List.filter_cons]
    unfold hOf
    by_cases e : m = ""
    · subst e
      rw [if_pos rfl, ← r]
      rfl
    · have h : hasMark (.tup [.int (i : Nat), .str m]) = true := by
        show (!(m == "")) = true
        have : (m == "") = false := by simpa using e
        rw [this]
        rfl
      rw [if_pos h, if_neg e, r]
      rfl
/-! ### the state of the draws -/
def stD (gs cs : List Int) (r t : Int) : D := .dict [(.str "great", .mut (.lst (gs.map D.int))), (.str "cells", .lst (cs.map D.int)), (.str "rest", .int r), (.str "turn", .int t)]
def St (b : Nat) (s : D) : Prop := ∃ gs cs r t, s = stD gs cs r t ∧ (∀ g ∈ gs, 0 ≤ g) ∧ gs.length ≤ 100 ∧ 0 ≤ r ∧ 0 ≤ t ∧ t + (b : Int) ≤ 1000000000000
theorem St.le {b c : Nat} {s : D} (h : St b s) (hc : c ≤ b) : St c s := by
  obtain ⟨gs, cs, r, t, e, h1, h2, h3, h4, h5⟩ := h
  exact ⟨gs, cs, r, t, e, h1, h2, h3, h4, by omega⟩
theorem noMut_ints : ∀ xs : List Int, noMutL (xs.map D.int) = true
  | [] => rfl
  | x :: xs => noMut_ints xs
theorem put_turn (gs cs : List Int) (r t t' : Int) : putKD [(.str "great", .mut (.lst (gs.map D.int))), (.str "cells", .lst (cs.map D.int)), (.str "rest", .int r), (.str "turn", .int t)] (.str "turn") (.int t') = [(.str "great", .mut (.lst (gs.map D.int))), (.str "cells", .lst (cs.map D.int)), (.str "rest", .int r), (.str "turn", .int t')] := by rfl
theorem put_rest (gs cs : List Int) (r t r' : Int) : putKD [(.str "great", .mut (.lst (gs.map D.int))), (.str "cells", .lst (cs.map D.int)), (.str "rest", .int r), (.str "turn", .int t)] (.str "rest") (.int r') = [(.str "great", .mut (.lst (gs.map D.int))), (.str "cells", .lst (cs.map D.int)), (.str "rest", .int r'), (.str "turn", .int t)] := by rfl
abbrev mxF (gs cs : List Int) (r t : Int) (x1 x2 x3 x4 x5 : Option D) : Rho := [some (.mut (stD gs cs r t)), x1, x2, x3, x4, x5]
theorem dput_ok {i : Nat} {k : P D} {kk : Str} {f : M D} {ρ ρ1 : Rho} {d : D} {kvs : List (D × D)} (hf : f ρ = .ok d ρ1) (hk : k ρ1 = .ok (.str kk)) (h : ρ1[i]? = some (some (.mut (.dict kvs)))) (hl : kvs.length < LINE) : sDPutD i k f ρ = .nx (ρ1.set i (some (.mut (.dict (putKD kvs (.str kk) d))))) := by
  unfold sDPutD
  rw [hf, ofl_ok, hk, h]
  show (if _ then _ else _) = _
  rw [if_pos hl]
theorem line4 : 4 < LINE := Nat.lt_of_lt_of_le (show 4 < 100 by decide) line_big
theorem dput_turn {i : Nat} {f : M D} {ρ ρ1 : Rho} {gs cs : List Int} {r t t' : Int} (hf : f ρ = .ok (.int t') ρ1) (h : ρ1[i]? = some (some (.mut (stD gs cs r t)))) : sDPutD i (pC (.str "turn")) f ρ = .nx (ρ1.set i (some (.mut (stD gs cs r t')))) := by
  have := dput_ok (k := pC (.str "turn")) (kk := "turn") hf rfl h line4
  rw [this, put_turn]
  rfl
theorem dput_rest {i : Nat} {f : M D} {ρ ρ1 : Rho} {gs cs : List Int} {r t r' : Int} (hf : f ρ = .ok (.int r') ρ1) (h : ρ1[i]? = some (some (.mut (stD gs cs r t)))) : sDPutD i (pC (.str "rest")) f ρ = .nx (ρ1.set i (some (.mut (stD gs cs r' t)))) := by
  have := dput_ok (k := pC (.str "rest")) (kk := "rest") hf rfl h line4
  rw [this, put_rest]
  rfl
def primes : List Int := [2147483629, 2147483587, 2147483579, 2147483563, 2147483549, 2147483543]
theorem primes_pos : ∀ p ∈ primes, 0 < p ∧ p < 2147483648 := by decide
theorem mixed_ok {gs cs : List Int} {r t : Int} (h0 : 0 ≤ t) (h1 : t ≤ 1000000000000) : ∃ v : Int, ∃ x1 x2 x3 x4 x5, 0 ≤ v ∧ F__law_mixed [.mut (stD gs cs r t)] = .ok (.int v) (mxF gs cs r (t + 1) x1 x2 x3 x4 x5) := by
  have loop := loop_nx (t := .name 3) (b := (sSeq (sSet 1 4 (lift (pOp addD (pOp mulD (pC (.int 130363)) (pVarB 1)) (pOp fdivD (pVarB 3) (pC (.int 13)))))) (sSeq (sFor (lift (pIter (pDK 0 "cells"))) (.name 5) (sSeq (sSet 1 4 (lift (pOp modD (pOp addD (pOp mulD (pVarB 4) (pC (.int 48271))) (pVarB 5)) (pVarB 3)))) sNext)) (sSeq (sSet 1 2 (lift (pOp addD (pOp mulD (pVarB 2) (pC (.int 2147483647))) (pOp modD (pOp powD (pVarB 4) (pC (.int 5))) (pVarB 3))))) sNext)))) (ds := primes.map D.int)
    (fun _ ρ => ∃ f : Int, 0 ≤ f ∧ ∃ x3 x4 x5, ρ = mxF gs cs r (t + 1) (some (.int (t + 1))) (some (.int f)) x3 x4 x5) (ρ := mxF gs cs r (t + 1) (some (.int (t + 1))) (some (.int 0)) none none none) ⟨0, by omega, _, _, _, rfl⟩ ?_
  · obtain ⟨ρ', e, f, hf, x3, x4, x5, rfl⟩ := loop
    refine ⟨f, _, _, _, _, _, hf, runR [some (.mut (stD gs cs r t)), none, none, none, none, none] ((seq_nx (set_ok (lift_ok (x := D.int (t + 1)) ?_) rfl)).trans ((seq_nx (dput_turn (t' := t + 1) (t := t) (gs := gs) (cs := cs) (r := r) rfl rfl)).trans ((seq_nx (set_ok (lift_ok (x := D.int 0) rfl) rfl)).trans ((seq_nx (a := sFor _ _ _) (ρ' := mxF gs cs r (t + 1) (some (.int (t + 1))) (some (.int f)) x3 x4 x5) ?_).trans (seq_ret (ret_ok (lift_ok rfl)))))))⟩
    · rfl
    · rw [sFor_eq]
      have el : lift (pIter (pTh (pMut (pLst (pCons (pC (.int 2147483629)) (pCons (pC (.int 2147483587)) (pCons (pC (.int 2147483579)) (pCons (pC (.int 2147483563)) (pCons (pC (.int 2147483549)) (pCons (pC (.int 2147483543)) pNil)))))))))) (mxF gs cs r (t + 1) (some (.int (t + 1))) (some (.int 0)) none none none) = .ok (primes.map D.int) (mxF gs cs r (t + 1) (some (.int (t + 1))) (some (.int 0)) none none none) := lift_ok (by
        rw [pIter_eq, pTh_eq, pMut_eq, pLst_eq]
        show Res.bind (Res.bind (Res.bind (mkLst (primes.map D.int)) _) _) _ = _
        unfold mkLst
        rw [if_pos (show (primes.map D.int).length ≤ LINE from Nat.le_trans (show 6 ≤ 100 by decide) line_big)]
        rfl)
      show (lift _ (mxF gs cs r (t + 1) (some (.int (t + 1))) (some (.int 0)) none none none)).fl _ = _
      rw [el]
      exact e
  · rintro d rr ρ hd ⟨f, hf, x3, x4, x5, rfl⟩
    obtain ⟨p, hp, rfl⟩ := List.mem_map.mp hd
    obtain ⟨p0, p1⟩ := primes_pos p hp
    have inner : ∀ (b0 : Int), b0.natAbs < 2 ^ 62 → ∀ x5, ∃ ρ', loopF (.name 5) (sSeq (sSet 1 4 (lift (pOp modD (pOp addD (pOp mulD (pVarB 4) (pC (.int 48271))) (pVarB 5)) (pVarB 3)))) sNext) (cs.map D.int) (mxF gs cs r (t + 1) (some (.int (t + 1))) (some (.int f)) (some (.int p)) (some (.int b0)) x5) = .nx ρ' ∧ ∃ b : Int, b.natAbs < 2 ^ 62 ∧ ∃ x5, ρ' = mxF gs cs r (t + 1) (some (.int (t + 1))) (some (.int f)) (some (.int p)) (some (.int b)) x5 := fun b0 hb0 x5 => by
      refine loop_nx (fun _ ρ => ∃ b : Int, b.natAbs < 2 ^ 62 ∧ ∃ x5, ρ = mxF gs cs r (t + 1) (some (.int (t + 1))) (some (.int f)) (some (.int p)) (some (.int b)) x5) ⟨b0, hb0, x5, rfl⟩ ?_
      rintro d rr ρ hd ⟨b, hb, y5, rfl⟩
      obtain ⟨c, hc, rfl⟩ := List.mem_map.mp hd
      have m0 := Int.emod_nonneg (b * 48271 + c) (show p ≠ 0 by omega)
      have m1 := Int.emod_lt_of_pos (b * 48271 + c) p0
      refine ⟨[(5, .int c)], rfl, mxF gs cs r (t + 1) (some (.int (t + 1))) (some (.int f)) (some (.int p)) (some (.int ((b * 48271 + c) % p))) (some (.int c)), .inl ((seq_nx (set_ok (lift_ok (x := D.int ((b * 48271 + c) % p)) ?_) rfl)).trans rfl), _, by omega, _, rfl⟩
      have a1 : pVarB 4 (setR (mxF gs cs r (t + 1) (some (.int (t + 1))) (some (.int f)) (some (.int p)) (some (.int b)) y5) [(5, .int c)]) = .ok (.int b) := rfl
      have a2 : pVarB 5 (setR (mxF gs cs r (t + 1) (some (.int (t + 1))) (some (.int f)) (some (.int p)) (some (.int b)) y5) [(5, .int c)]) = .ok (.int c) := rfl
      have a3 : pVarB 3 (setR (mxF gs cs r (t + 1) (some (.int (t + 1))) (some (.int f)) (some (.int p)) (some (.int b)) y5) [(5, .int c)]) = .ok (.int p) := rfl
      have cm : CMulB b 48271 = true := by unfold CMulB; simp
      simp only [pOp_eq, a1, a2, a3, pC_eq, rb_ok, mulD, cm, if_true, addD, modD, intsD, p0]
    have cm1 : CMulB 130363 (t + 1) = true := by unfold CMulB; simp
    have cm2 : CMulB f 2147483647 = true := by unfold CMulB; simp
    have dv0 : 0 ≤ p / 13 := by omega
    have dv1 : p / 13 ≤ p := by omega
    obtain ⟨ρ', e, b, hb, y5, rfl⟩ := inner (130363 * (t + 1) + p / 13) (by omega) x5
    have m0 := Int.emod_nonneg (b ^ 5) (show p ≠ 0 by omega)
    refine ⟨[(3, .int p)], rfl, mxF gs cs r (t + 1) (some (.int (t + 1))) (some (.int (f * 2147483647 + b ^ 5 % p))) (some (.int p)) (some (.int b)) y5, .inl ((seq_nx (set_ok (lift_ok (x := D.int (130363 * (t + 1) + p / 13)) ?_) rfl)).trans ((seq_nx (a := sFor _ _ _) (ρ' := mxF gs cs r (t + 1) (some (.int (t + 1))) (some (.int f)) (some (.int p)) (some (.int b)) y5) ?_).trans ((seq_nx (set_ok (lift_ok (x := D.int (f * 2147483647 + b ^ 5 % p)) ?_) rfl)).trans rfl))), _, ?_, _, _, _, rfl⟩
    · have a1 : pVarB 1 (setR (mxF gs cs r (t + 1) (some (.int (t + 1))) (some (.int f)) x3 x4 x5) [(3, .int p)]) = .ok (.int (t + 1)) := rfl
      have a2 : pVarB 3 (setR (mxF gs cs r (t + 1) (some (.int (t + 1))) (some (.int f)) x3 x4 x5) [(3, .int p)]) = .ok (.int p) := rfl
      simp only [pOp_eq, a1, a2, pC_eq, rb_ok, mulD, cm1, if_true, addD, fdivD, intsD]
      rfl
    · rw [sFor_eq]
      exact e
    · have a1 : pVarB 2 (mxF gs cs r (t + 1) (some (.int (t + 1))) (some (.int f)) (some (.int p)) (some (.int b)) y5) = .ok (.int f) := rfl
      have a2 : pVarB 3 (mxF gs cs r (t + 1) (some (.int (t + 1))) (some (.int f)) (some (.int p)) (some (.int b)) y5) = .ok (.int p) := rfl
      have a3 : pVarB 4 (mxF gs cs r (t + 1) (some (.int (t + 1))) (some (.int f)) (some (.int p)) (some (.int b)) y5) = .ok (.int b) := rfl
      have hc : (0 : Int) ≤ 5 ∧ (5 : Int) ≤ 1000000 ∧ b.natAbs < 2 ^ 64 := ⟨by omega, by omega, by omega⟩
      simp only [pOp_eq, a1, a2, a3, pC_eq, rb_ok, mulD, cm2, if_true, addD, powD, modD, intsD, if_pos hc, p0]
      rfl
    · omega
theorem simple_ints : ∀ xs : List Int, simpleL (xs.map D.int) = true
  | [] => rfl
  | x :: xs => by
    show (simple (.int x) && simpleL (xs.map D.int)) = true
    rw [simple_ints xs]
    rfl
theorem ne_nilL {xs : List D} (h : simpleL xs = true) : neR (.lst xs) (.lst []) = .ok (.bl (!xs.isEmpty)) := by
  have o : eqOk (.lst xs) (.lst []) = true := by
    unfold eqOk
    have s1 : simple (.lst xs) = true := h
    have s2 : simple (.lst []) = true := rfl
    have d2 : dep (.lst []) = 1 := by simp [dep, depL]
    rw [s1, s2, d2]
    simp
    omega
  unfold neR
  rw [if_pos o]
  cases xs with
  | nil => rfl
  | cons x xs => rfl
/-! ### calls by slots -/
theorem jx_other {i j : Nat} (as : List Ar) (h : i ≠ j) : jx i (.slot j :: as) = (jx i as).map (· + 1) := by
  show (if isSlot i (.slot j) = true then some 0 else (jx i as).map (· + 1)) = _
  rw [if_neg]
  intro e
  have := isSlot_iff.mp e
  injection this with this
  exact h this.symm
theorem jx_same {i : Nat} (as : List Ar) : jx i (.slot i :: as) = some 0 := by
  show (if isSlot i (.slot i) = true then some 0 else (jx i as).map (· + 1)) = _
  rw [if_pos (isSlot_iff.mpr rfl)]
/-- the other slots of the call hold shared values -/
def Cool (ρ : Rho) (as : List Ar) : Prop := ∀ j, Ar.slot j ∈ as → ∀ d, ρ[j]? ≠ some (some (.mut d))
theorem jx_mem {i : Nat} {as : List Ar} {j : Nat} (h : jx i as = some j) : Ar.slot i ∈ as := List.mem_of_getElem? (jx_get h)
theorem back_st {i : Nat} {as : List Ar} {r ρ : Rho} {s s' : D} (hi : ρ[i]? = some (some (.mut s))) (hr : r.getD 0 none = some (.mut s')) (hc : Cool ρ as) : back (.slot i :: as) r ρ = ρ.set i (some (.mut s')) := by
  unfold back
  refine List.ext_getElem? fun j => ?_
  rw [List.getElem?_mapIdx, List.getElem?_set]
  by_cases e : i = j
  · subst e
    have hl := (List.getElem?_eq_some_iff.mp hi).1
    rw [if_pos rfl, if_pos hl, hi]
    simp only [Option.map_some, jx_same, hr, normO]
  · rw [if_neg e]
    cases z : ρ[j]? with
    | none => rfl
    | some o =>
      simp only [Option.map_some]
      congr 1
      split
      · rename_i d
        rw [jx_other _ (Ne.symm e)]
        cases y : jx j as with
        | none => rfl
        | some k => exact absurd z (hc j (jx_mem y) d)
      · rfl
theorem callM_ok {F : Fd} {n i : Nat} {as : List Ar} {ds : List D} {d s s' : D} {r ρ : Rho} (hi : ρ[i]? = some (some (.mut s))) (hd : resolve ρ as = some ds) (ok : okAr (.slot i :: as) = true) (hn : ds.length + 1 = n) (e : F (.mut s :: ds) = .ok d r) (hr : r.getD 0 none = some (.mut s')) (hc : Cool ρ as) : callM F n (.slot i :: as) ρ = .ok d (ρ.set i (some (.mut s'))) := by
  subst hn
  unfold callM
  have : resolve ρ (.slot i :: as) = some (.mut s :: ds) := by unfold resolve; rw [hi]; simp only [hd, Option.map_some]
  rw [this]
  simp only
  rw [if_pos (by rw [ok]; simp)]
  rw [e]
  simp only
  rw [back_st hi hr hc]
section
variable {F : Fd} {i j : Nat} {d s s' x : D} {r ρ ρ1 : Rho} {f : M D}
/-- F(state) -/
theorem dr0 (hi : ρ[i]? = some (some (.mut s))) (e : F [.mut s] = .ok d r) (hr : r.getD 0 none = some (.mut s')) (ht : thaw d = d) : mTh (mCall F 1 (mSlot i mNil)) ρ = .ok d (ρ.set i (some (.mut s'))) := by
  have c : mCall F 1 (mSlot i mNil) ρ = .ok d (ρ.set i (some (.mut s'))) := by
    unfold mCall mSlot mNil
    simp only [hi, ob_ok]
    exact callM_ok hi rfl rfl rfl e hr fun j h => absurd h (by simp)
  unfold mTh
  rw [c, ob_ok, ht]
/-- F(state, e) -/
theorem dr1 {o : Option D} (h0 : ρ[i]? = some (some o.get!)) (hf : f ρ = .ok x ρ1) (hi : ρ1[i]? = some (some (.mut s))) (e : F [.mut s, x] = .ok d r) (hr : r.getD 0 none = some (.mut s')) : mCall F 2 (mSlot i (mVal f mNil)) ρ = .ok d (ρ1.set i (some (.mut s'))) := by
  unfold mCall mSlot mVal mNil
  simp only [h0, hf, ob_ok]
  exact callM_ok hi rfl rfl rfl e hr fun j h => absurd h (by simp)
/-- F(state, name) -/
theorem dr2 (hi : ρ[i]? = some (some (.mut s))) (hj : ρ[j]? = some (some x)) (hij : i ≠ j) (m : isMut x = false) (e : F [.mut s, x] = .ok d r) (hr : r.getD 0 none = some (.mut s')) : mCall F 2 (mSlot i (mSlot j mNil)) ρ = .ok d (ρ.set i (some (.mut s'))) := by
  unfold mCall mSlot mNil
  simp only [hi, hj, ob_ok]
  refine callM_ok (ds := [x]) hi ?_ ?_ rfl e hr fun k h => ?_
  · unfold resolve
    rw [hj]
    rfl
  · show (!(isSlot i (.slot j) || false) && true) = true
    have : isSlot i (.slot j) = false := by
      cases z : isSlot i (.slot j) with
      | false => rfl
      | true => exact absurd (by injection isSlot_iff.mp z with z; exact z.symm) hij
    rw [this]
    rfl
  · simp only [List.mem_singleton] at h
    injection h with h
    subst h
    intro d h2
    rw [hj] at h2
    cases h2
    cases m
end
/-! ### take -/
theorem pop0 {g : Int} {gs : List Int} (h : gs.length ≤ 100) : gPopAt ((g :: gs).map D.int) [.int 0] = some (.int g, gs.map D.int) := by
  show (if -(2 ^ 63) ≤ (0 : Int) ∧ (0 : Int) < 2 ^ 63 ∧ noMutL ((g :: gs).map D.int) = true then _ else _) = _
  rw [if_pos ⟨by decide, by decide, noMut_ints _⟩]
  have : seqIndex? 0 ((g :: gs).map D.int).length = some 0 := by
    simp [seqIndex?]
  rw [this]
  rfl
abbrev tkF (s n : D) (x2 : Option D) : Rho := [some (.mut s), some n, x2]
theorem refill {b : Nat} {s n : D} (h : St (b + 1) s) : ∃ s', St b s' ∧ (sIf (lift (pAnd (pTest (pOp eqR (pDKB 0 "rest") (pC (.int 0)))) (pTest (pOp neR (pDKB 0 "great") (pTh (pMut (pLst pNil))))))) (sSeq (sDPutD 0 (pC (.str "rest")) (mDLst 0 "great" [.int 0] gPopAt)) sNext) (sSeq (sIf (lift (pTest (pOp eqR (pDKB 0 "rest") (pC (.int 0))))) (sSeq (sDPutD 0 (pC (.str "rest")) (mTh (mCall F__law_mixed 1 (mSlot 0 mNil)))) sNext) sNext) sNext)) (tkF s n none) = .nx (tkF s' n none) := by
  obtain ⟨gs, cs, r, t, rfl, h1, h2, h3, h4, h5⟩ := h
  have er : pTest (pOp eqR (pDKB 0 "rest") (pC (.int 0))) (tkF (stD gs cs r t) n none) = .ok (r == 0) := rfl
  have eg : pTest (pOp neR (pDKB 0 "great") (pTh (pMut (pLst pNil)))) (tkF (stD gs cs r t) n none) = .ok (!gs.isEmpty) := by
    have v : pDKB 0 "great" (tkF (stD gs cs r t) n none) = .ok (.lst (gs.map D.int)) := by
      show (if noMutL (gs.map D.int) = true then Res.ok (D.lst (gs.map D.int)) else .stuck) = _
      rw [if_pos (noMut_ints gs)]
    have l : pTh (pMut (pLst pNil)) (tkF (stD gs cs r t) n none) = .ok (.lst []) := by
      rw [pTh_eq, pMut_eq, pLst_eq]
      show Res.bind (Res.bind (mkLst []) _) _ = _
      unfold mkLst
      rw [if_pos (show ([] : List D).length ≤ LINE from Nat.zero_le _)]
      rfl
    rw [pTest_eq, pOp_eq, v, rb_ok, l, rb_ok, ne_nilL (simple_ints gs)]
    cases gs <;> rfl
  by_cases hr : r = 0
  · subst hr
    cases gs with
    | cons g gs =>
      refine ⟨stD gs cs g t, ⟨gs, cs, g, t, rfl, fun x hx => h1 x (List.mem_cons_of_mem _ hx), by simp at h2; omega, h1 g List.mem_cons_self, h4, by omega⟩, ?_⟩
      refine if_t (lift_ok (x := true) ?_) ((seq_nx (dput_rest (r' := g) (gs := gs) (cs := cs) (r := 0) (t := t) (ρ1 := tkF (stD gs cs 0 t) n none) ?_ rfl)).trans rfl)
      · rw [pAnd_eq, er]
        exact eg
      · show (match gPopAt ((g :: gs).map D.int) [.int 0] with
          | some (d, es) => Out.ok d ((tkF (stD (g :: gs) cs 0 t) n none).set 0 (some (.mut (.dict (updK [(.str "great", .mut (.lst ((g :: gs).map D.int))), (.str "cells", .lst (cs.map D.int)), (.str "rest", .int 0), (.str "turn", .int t)] (.inr "great") (.mut (.lst es)))))))
          | none => .stuck) = _
        rw [pop0 (by simp at h2; omega)]
        rfl
    | nil =>
      obtain ⟨v, x1, x2, x3, x4, x5, hv, e⟩ := mixed_ok (gs := []) (cs := cs) (r := 0) h4 (by omega)
      refine ⟨stD [] cs v (t + 1), ⟨[], cs, v, t + 1, rfl, by simp, by simp, hv, by omega, by omega⟩, ?_⟩
      refine if_f (lift_ok (x := false) ?_) ((seq_nx (ρ' := tkF (stD [] cs v (t + 1)) n none) ?_).trans rfl)
      · rw [pAnd_eq, er]
        exact eg
      · refine if_t (lift_ok (x := true) er) ((seq_nx (dput_rest (r' := v) (gs := []) (cs := cs) (r := 0) (t := t + 1) (ρ1 := tkF (stD [] cs 0 (t + 1)) n none) (dr0 (s := stD [] cs 0 t) (s' := stD [] cs 0 (t + 1)) rfl e rfl rfl) rfl)).trans rfl)
  · have hb : (r == 0) = false := by simpa using hr
    refine ⟨stD gs cs r t, ⟨gs, cs, r, t, rfl, h1, h2, h3, h4, by omega⟩, if_f (lift_ok (x := false) ?_) ((seq_nx (ρ' := tkF (stD gs cs r t) n none) (if_f (lift_ok (x := false) ?_) rfl)).trans rfl)⟩
    · rw [pAnd_eq, er, hb]
      rfl
    · rw [er, hb]
/-- a number below n -/
theorem take_ok {b n : Nat} {s : D} (h : St (b + 1) s) (hn : 1 ≤ n) (hn2 : n ≤ 1000) : ∃ (v : Nat) (s' : D) (x2 : Option D), v < n ∧ St b s' ∧ F__law_take [.mut s, .int (n : Nat)] = .ok (.int (v : Nat)) (tkF s' (.int (n : Nat)) x2) := by
  obtain ⟨s1, hs1, e1⟩ := refill (n := .int (n : Nat)) h
  obtain ⟨gs, cs, r, t, rfl, h1, h2, h3, h4, h5⟩ := hs1
  have n0 : (0 : Int) < (n : Nat) := by omega
  have m0 := Int.emod_nonneg r (show ((n : Nat) : Int) ≠ 0 by omega)
  have m1 := Int.emod_lt_of_pos r n0
  have ev : r % (n : Nat) = ((r % (n : Nat)).toNat : Nat) := by omega
  refine ⟨(r % (n : Nat)).toNat, stD gs cs (r / (n : Nat)) t, some (.int ((r % (n : Nat)).toNat : Nat)), by omega, ⟨gs, cs, r / (n : Nat), t, rfl, h1, h2, Int.ediv_nonneg h3 (by omega), h4, h5⟩, ?_⟩
  rw [← ev]
  refine runR (tkF s (.int (n : Nat)) none) ((seq_nx e1).trans ((seq_nx (set_ok (lift_ok (x := D.int (r % (n : Nat))) ?_) rfl)).trans ((seq_nx (dput_rest (r' := r / (n : Nat)) (gs := gs) (cs := cs) (r := r) (t := t) (ρ1 := tkF (stD gs cs r t) (.int (n : Nat)) (some (.int (r % (n : Nat))))) (lift_ok ?_) rfl)).trans (seq_ret (ret_ok (lift_ok rfl))))))
  · have a1 : pDKB 0 "rest" (tkF (stD gs cs r t) (.int (n : Nat)) none) = .ok (.int r) := rfl
    have a2 : pVarB 1 (tkF (stD gs cs r t) (.int (n : Nat)) none) = .ok (.int (n : Nat)) := rfl
    simp only [pOp_eq, a1, a2, rb_ok, modD, intsD, n0, if_true]
  · have a1 : pDKB 0 "rest" (tkF (stD gs cs r t) (.int (n : Nat)) (some (.int (r % (n : Nat))))) = .ok (.int r) := rfl
    have a2 : pVarB 1 (tkF (stD gs cs r t) (.int (n : Nat)) (some (.int (r % (n : Nat))))) = .ok (.int (n : Nat)) := rfl
    have hh : (0 : Int) < (n : Nat) ∧ ((n : Nat) : Int) < 1073741824 := ⟨n0, by omega⟩
    simp only [pOp_eq, a1, a2, rb_ok, fdivD, intsD, if_pos hh]
section
variable {f g : M D} {fs : M (List D)} {ρ ρ1 ρ2 : Rho} {x y d : D} {xs ds es : List D}
theorem mLst_ok {i : Nat} {o : List D} {k : List D → List D → Option (D × List D)} (h0 : ρ[i]? = some (some (.mut (.lst o)))) (hf : fs ρ = .ok xs ρ1) (h1 : ρ1[i]? = some (some (.mut (.lst ds)))) (hg : k ds xs = some (d, es)) : mLst i fs k ρ = .ok d (ρ1.set i (some (.mut (.lst es)))) := by
  unfold mLst hasL
  rw [h0]
  simp only [hf, ob_ok, h1, hg]
theorem mCons_ok (hf : f ρ = .ok x ρ1) (hr : fs ρ1 = .ok xs ρ2) : mCons f fs ρ = .ok (x :: xs) ρ2 := by
  unfold mCons
  simp only [hf, ob_ok, hr]
theorem mTh_ok (hf : f ρ = .ok x ρ1) (ht : thaw x = y) : mTh f ρ = .ok y ρ1 := by
  unfold mTh
  rw [hf, ob_ok, ht]
end
theorem lenL {xs : List D} (h : xs.length ≤ 1000) : lenD [.lst xs] = .ok (.int (xs.length : Nat)) := by
  rfl
/-! ### pick -/
abbrev pkF (s x : D) : Rho := [some (.mut s), some x]
theorem pick_gen {b n : Nat} {s x : D} (h : St (b + 1) s) (m : isMut x = false) (hl : lenD [x] = .ok (.int (n : Nat))) (hn : 1 ≤ n) (hn2 : n ≤ 1000) : ∃ (v : Nat) (s' : D), v < n ∧ St b s' ∧ ∀ d, ixD x (.int (v : Nat)) = .ok d → F__law_pick [.mut s, x] = .ok d (pkF s' x) := by
  obtain ⟨v, s', x2, hv, hs, e⟩ := take_ok h hn hn2
  refine ⟨v, s', hv, hs, fun d hd => runR (pkF s x) (seq_ret (ret_ok (ρ' := pkF s' x) ?_))⟩
  have vx : ∀ s, pVarB 1 (pkF s x) = .ok x := fun s => pVarB_at rfl m
  have t : mCall F__law_take 2 (mSlot 0 (mVal (lift (pCallL lenD (pCons (pVarB 1) pNil))) mNil)) (pkF s x) = .ok (.int (v : Nat)) (pkF s' x) := by
    refine dr1 (o := some (.mut s)) (x := .int (n : Nat)) (s := s) (ρ1 := pkF s x) rfl (lift_ok ?_) rfl e rfl
    simp only [pCallL_eq, pCons_eq, vx, rb_ok, pNil_eq, hl]
  show ((mTh (mCall F__law_take 2 (mSlot 0 (mVal (lift (pCallL lenD (pCons (pVarB 1) pNil))) mNil))) (pkF s x)).bind _) = _
  unfold mTh
  rw [t]
  simp only [ob_ok, vx, rb_ok]
  show (ixD x (.int (v : Nat))).out _ = _
  rw [hd]
  rfl
theorem pick_lst {b : Nat} {s : D} {xs : List D} (h : St (b + 1) s) (h1 : 1 ≤ xs.length) (h2 : xs.length ≤ 1000) : ∃ d s', d ∈ xs ∧ St b s' ∧ F__law_pick [.mut s, .lst xs] = .ok d (pkF s' (.lst xs)) := by
  obtain ⟨v, s', hv, hs, k⟩ := pick_gen (x := .lst xs) h rfl (lenL h2) h1 h2
  exact ⟨xs[v], s', List.getElem_mem hv, hs, k _ (ix_lst (List.getElem?_eq_getElem hv))⟩
def lets : Str := "abcdefghijklmnopqrstuvwxyz"
/-! ### shuffled -/
abbrev shF (s : D) (xs left found : List D) : Rho := [some (.mut s), some (.lst xs), some (.mut (.lst left)), some (.mut (.lst found))]
theorem noMutL_of {xs : List D} (h : ∀ d ∈ xs, isMut d = false) : noMutL xs = true := by
  induction xs with
  | nil => rfl
  | cons d ds ih =>
    show (!isMut d && noMutL ds) = true
    rw [h d List.mem_cons_self, ih fun e he => h e (List.mem_cons_of_mem _ he)]
    rfl
def shT : M Bool := (lift (pTest (pOp neR (pVarB 2) (pTh (pMut (pLst pNil))))))
def shB : S := (sSeq (sExpr (mLst 3 (mCons (mLst 2 (mCons (mTh (mCall F__law_take 2 (mSlot 0 (mVal (lift (pCallL lenD (pCons (pVarB 2) pNil))) mNil)))) (fun ρ => .ok [] ρ)) gPopAt) (fun ρ => .ok [] ρ)) gApp)) sNext)
/-! ### names in order -/
abbrev Asc (ns : List Str) : Prop := ns.Pairwise fun a b => ltS a b = true
theorem strs_of_mem {ds : List D} {ns : List Str} (h : ∀ d ∈ ds, d ∈ ns.map D.str) : ∃ ms : List Str, ds = ms.map D.str := by
  induction ds with
  | nil => exact ⟨[], rfl⟩
  | cons d ds ih =>
    obtain ⟨ms, e⟩ := ih fun e he => h e (List.mem_cons_of_mem _ he)
    obtain ⟨x, _, rfl⟩ := List.mem_map.mp (h d List.mem_cons_self)
    exact ⟨x :: ms, by rw [e]; rfl⟩
theorem str_inj : Function.Injective D.str := fun a b h => by injection h
theorem perm_strs {ms ns : List Str} (h : (ms.map D.str).Perm (ns.map D.str)) : ms.Perm ns := by
  have u : ∀ xs : List Str, (xs.map D.str).map (fun d => match d with | .str x => x | _ => default) = xs := fun xs => by
    rw [List.map_map]
    exact (List.map_congr_left fun x _ => rfl).trans (List.map_id xs)
  have := h.map (fun d => match d with | .str x => x | _ => default)
  rw [u, u] at this
  exact this
theorem sort_names {ns : List Str} (nd : ns.Nodup) : ∃ ms : List Str, sortL (ns.map D.str) = ms.map D.str ∧ ms.Perm ns ∧ Asc ms := by
  obtain ⟨ms, e⟩ := strs_of_mem (ds := sortL (ns.map D.str)) (ns := ns) fun d hd => (sortL_perm _).mem_iff.mp hd
  have pm : ms.Perm ns := perm_strs (e ▸ sortL_perm _)
  refine ⟨ms, e, pm, ?_⟩
  have so := sortL_sorted (ns.map D.str)
  rw [e, List.pairwise_map] at so
  have nd2 : ms.Nodup := pm.nodup_iff.mpr nd
  refine (so.and nd2).imp fun {a b} h => ?_
  cases z : ltS a b with
  | true => rfl
  | false => exact absurd (str_inj (ltT_tri (x := .str a) (y := .str b) rfl rfl (ltT_str.trans z) h.1)) h.2
/-- the plans in the order of their names -/
def reP (P : List (Str × Str)) (ms : List Str) : List (Str × Str) := ms.map fun x => (x, (roleOf P x).getD "")
/-! ### dicts by names -/
def skD (l : List (Str × D)) : List (D × D) := l.map fun p => (.str p.1, p.2)
/-! ### a new shop -/
theorem strs_nub (ns : List Str) : ∃ ms : List Str, (nubK (ns.map fun x => (Sum.inr x : Key))).map keyD = ms.map D.str ∧ ms.Nodup ∧ ∀ x, x ∈ ms ↔ x ∈ ns := by
  obtain ⟨ms, e⟩ := strs_of_mem (ds := (nubK (ns.map fun x => (Sum.inr x : Key))).map keyD) (ns := ns) fun d hd => by
    obtain ⟨k, hk, rfl⟩ := List.mem_map.mp hd
    obtain ⟨x, hx, rfl⟩ := List.mem_map.mp (nubK_mem.mp hk)
    exact List.mem_map.mpr ⟨x, hx, rfl⟩
  refine ⟨ms, e, ?_, fun x => ?_⟩
  · have inj : Function.Injective keyD := fun a b h => by
      have := congrArg keyOf h
      rw [keyOf_keyD, keyOf_keyD] at this
      exact Option.some.inj this
    have : ((nubK (ns.map fun x => (Sum.inr x : Key))).map keyD).Nodup := List.Pairwise.map (R := fun a b => a ≠ b) keyD (fun a b h e => h (inj e)) (nubK_nodup (ns.map fun x => (Sum.inr x : Key)))
    rw [e] at this
    exact (List.pairwise_map.mp this).imp fun {a b} h e => h (congrArg D.str e)
  · have h1 : x ∈ ms ↔ D.str x ∈ ms.map D.str := ⟨fun h => List.mem_map.mpr ⟨x, h, rfl⟩, fun h => by obtain ⟨y, hy, e⟩ := List.mem_map.mp h; rw [← str_inj e]; exact hy⟩
    rw [h1, ← e]
    constructor
    · intro h
      obtain ⟨k, hk, e⟩ := List.mem_map.mp h
      obtain ⟨y, hy, rfl⟩ := List.mem_map.mp (nubK_mem.mp hk)
      rw [← str_inj (show D.str y = D.str x from e)]
      exact hy
    · intro h
      exact List.mem_map.mpr ⟨.inr x, nubK_mem.mpr (List.mem_map.mpr ⟨x, h, rfl⟩), rfl⟩
theorem allStr_strs (ns : List Str) : sortOk (ns.map D.str) = true := by
  have : allStr (ns.map D.str) = true := by
    unfold allStr
    rw [List.all_eq_true]
    intro d hd
    obtain ⟨x, _, rfl⟩ := List.mem_map.mp hd
    rfl
  unfold sortOk
  rw [this]
  rfl
/-- sorted(set(names)) -/
theorem sortSet_strs {ns : List Str} : ∃ ms : List Str, sortKeys (ns.map fun x => (Sum.inr x : Key)) = .ok (.lst (ms.map D.str)) ∧ Asc ms ∧ ms.Nodup ∧ ∀ x, x ∈ ms ↔ x ∈ ns := by
  obtain ⟨ls, e, nd, mm⟩ := strs_nub ns
  obtain ⟨ms, e2, pm, asc⟩ := sort_names nd
  refine ⟨ms, ?_, asc, pm.nodup_iff.mpr nd, fun x => pm.mem_iff.trans (mm x)⟩
  unfold sortKeys
  rw [e, if_pos (allStr_strs ls), e2]
section
variable {P S : List (Str × Str)}
abbrev siF (P S : List (Str × Str)) (fs : List (Str × D)) (x4 x5 : Option D) : Rho := [some (.mut (.ins "Shop" fs)), some (.dict (plD P)), some (.lst (sdD S)), some (.glo "()"), x4, x5, none, none, none]
def shopM (P S : List (Str × Str)) (C : List (D × D)) : List (Str × D) := [("plan_roles", .mut (.dict (plD P))), ("seed_rows", .tup (sdD S)), ("owner_costs", .mut (.dict C))]
end
/-! ### draws within a frame -/
section
variable {ρ : Rho} {i j b n : Nat} {s : D} {f : M D} {xs : List D}
theorem take_m (h : St (b + 1) s) (hi : ρ[i]? = some (some (.mut s))) (hf : f ρ = .ok (.int (n : Nat)) ρ) (hn : 1 ≤ n) (hn2 : n ≤ 1000) : ∃ (v : Nat) (s' : D), v < n ∧ St b s' ∧ mTh (mCall F__law_take 2 (mSlot i (mVal f mNil))) ρ = .ok (.int (v : Nat)) (ρ.set i (some (.mut s'))) := by
  obtain ⟨v, s', x2, hv, hs, e⟩ := take_ok h hn hn2
  exact ⟨v, s', hv, hs, mTh_ok (dr1 (o := some (.mut s)) (s := s) hi hf hi e rfl) rfl⟩
theorem pick_s (h : St (b + 1) s) (hi : ρ[i]? = some (some (.mut s))) (hj : ρ[j]? = some (some (.lst xs))) (hij : i ≠ j) (h1 : 1 ≤ xs.length) (h2 : xs.length ≤ 1000) (hp : ∀ d ∈ xs, thaw d = d) : ∃ d s', d ∈ xs ∧ St b s' ∧ mTh (mCall F__law_pick 2 (mSlot i (mSlot j mNil))) ρ = .ok d (ρ.set i (some (.mut s'))) := by
  obtain ⟨d, s', hd, hs, e⟩ := pick_lst h h1 h2
  exact ⟨d, s', hd, hs, mTh_ok (dr2 (s := s) hi hj hij rfl e rfl) (hp d hd)⟩
end
/-! ### comprehensions that draw -/
/-! ### names that are made -/
def one (k : Nat) : Str := ⟨#[k]⟩
def wordL : List Str := ["plan", "seed", "cost", "make", "same", "a", "aa", "ab", "none", "bad", "new", "zzzzzzzz", "guard"]
def nmB (x : Str) : Bool := decide (1 ≤ x.length) && decide (x.length ≤ 8) && x.cps.toList.all fun k => decide (k ∈ abc)
def nq1 : S := (sParM 6 7 (mTh (mCall F__law_take 2 (mSlot 0 (mVal (lift (pC (.int 4))) mNil)))) (mTh (mCall F__law_pick 2 (mSlot 0 (mSlot 3 mNil)))))
def nq2t : M Bool := (lift (pTest (pOp eqR (pVarB 6) (pC (.int 0)))))
def nq2c : M D := (mComp [8] (.name 8) (mRange1 (mCons (mOp addD (lift (pC (.int 1))) (mTh (mCall F__law_take 2 (mSlot 0 (mVal (lift (pC (.int 8))) mNil))))) (fun ρ => .ok [] ρ))) mYes (mTh (mCall F__law_pick 2 (mSlot 0 (mSlot 2 mNil)))))
def nq2 : S := sIf nq2t (sSeq (sSet 2 7 (mJoin "" (mTh nq2c))) sNext) sNext
def nq3t : M Bool := (lift (pAnd (pTest (pOp eqR (pVarB 6) (pC (.int 1)))) (pTest (pOp neR (pVarB 4) (pTh (pMut (pLst pNil)))))))
def nq3e : M D := (mSlice (mOp addD (lift (pOp ixD (pVarB 4) (pUn negD (pC (.int 1))))) (mTh (mCall F__law_pick 2 (mSlot 0 (mSlot 2 mNil))))) pNo (pSome (pC (.int 8))))
def nq3 : S := sIf nq3t (sSeq (sSet 2 7 nq3e) sNext) sNext
def nq4t : M Bool := (lift (pTest (pOp inB (pVarB 7) (pVarB 4))))
def nq4e : M D := (lift (pOp ixD (pTh (pMut (pComp [9] (.name 9) (pIter (pVar 2)) (pTest (pOp notInB (pVarB 9) (pVarB 4))) (pVar 9)))) (pC (.int 0))))
def nq4 : S := sIf nq4t (sSeq (sSet 2 7 nq4e) sNext) sNext
def nq5 : S := (sExpr (mLst 4 (lift (pCons (pVar 7) pNil)) gApp))
def nmBody : S := sSeq nq1 (sSeq nq2 (sSeq nq3 (sSeq nq4 (sSeq nq5 sNext))))
abbrev nmF (s : D) (m : Int) (ns : List Str) (x5 x6 x7 : Option D) : Rho := [some (.mut s), some (.int m), some (.str lets), some (.lst (wordL.map D.str)), some (.mut (.lst (ns.map D.str))), x5, x6, x7, none, none]
section
variable {b : Nat} {s : D} {m : Int} {ns : List Str} {x5 x6 x7 : Option D} {w : Nat} {x : Str}
end
section
variable {b n : Nat} {s : D}
end
section
variable {ρ : Rho} {i j b n : Nat} {s : D}
end
def y1 : S := (sParM 6 7 (mOp addD (lift (pC (.int 1))) (mTh (mCall F__law_take 2 (mSlot 0 (mSlot 2 mNil))))) (mOp addD (lift (pC (.int 1))) (mTh (mCall F__law_take 2 (mSlot 0 (mSlot 1 mNil))))))
def y3v : DL.P D := (pSlice (pTh (pMut (pLst (pCons (pC (.str "compare")) (pCons (pC (.str "build")) (pCons (pC (.str "plain")) (pCons (pC (.str "plain")) (pCons (pC (.str "build")) (pCons (pC (.str "compare")) pNil))))))))) pNo (pSome (pVar 6)))
abbrev ydF (s : D) (x3 x4 x5 x6 x7 x8 x9 : Option D) : Rho := [some (.mut s), some (.int 5), some (.int 4), x3, x4, x5, x6, x7, x8, x9, none, none, none]
section
variable {b : Nat} {s : D}
def roleB (d : D) : Prop := d = .str "build" ∨ d = .str "compare" ∨ d = .str "plain"
def six : List D := [.str "compare", .str "build", .str "plain", .str "plain", .str "build", .str "compare"]
end
def y4t : M Bool := (mTest (mOp eqR (mTh (mCall F__law_take 2 (mSlot 0 (mVal (lift (pC (.int 4))) mNil)))) (lift (pC (.int 0)))))
def y4l : DL.P D := (pTh (pMut (pLst (pCons (pC (.str "build")) (pCons (pC (.str "compare")) (pCons (pC (.str "plain")) pNil))))))
def y4c : M D := (mComp [11] (.name 11) (lift (pIter (pVar 8))) mYes (mTh (mCall F__law_pick 2 (mSlot 0 (mVal (lift y4l) mNil)))))
def y4 : S := sIf y4t (sSeq (sSet 3 3 y4c) sNext) sNext
def y5c : M D := (mComp [10] (.name 10) (lift (pRange1 (pCons (pVar 7) pNil))) mYes (mTup (mCons (mTh (mCall F__law_pick 2 (mSlot 0 (mSlot 9 mNil)))) (mCons (mTh (mCall F__law_pick 2 (mSlot 0 (mSlot 8 mNil)))) (fun ρ => .ok [] ρ)))))
def y5 : S := (sSet 3 4 y5c)
def y6l : DL.P D := (pTh (pMut (pLst (pCons (pC (.int 1)) (pCons (pC (.int 1)) (pCons (pC (.int 1)) (pCons (pC (.int 2)) (pCons (pC (.int 3)) (pCons (pC (.int 9)) pNil)))))))))
def y6c : M D := (mComp [12] (.name 12) (lift (pIter (pVar 4))) mYes (mTup (mCons (lift (pOp ixD (pVarB 12) (pC (.int 0)))) (mCons (mTh (mCall F__law_pick 2 (mSlot 0 (mVal (lift y6l) mNil)))) (fun ρ => .ok [] ρ)))))
def y6 : S := sTh 3 4 (sSet 3 5 (mTh (mCallO dictD (mCons (mTh y6c) (fun ρ => .ok [] ρ)))))
def y7t : M Bool := (mTest (mOp eqR (mTh (mCall F__law_take 2 (mSlot 0 (mVal (lift (pC (.int 2))) mNil)))) (lift (pC (.int 0)))))
def y7e : DL.P D := (pTh (pMut (pCallL dictA (pCons (pTh (pMut (pComp [12] (.name 12) (pIter (pVar 4)) pYes (pTup (pCons (pOp ixD (pVarB 12) (pC (.int 0))) (pCons (pC (.int 1)) pNil)))))) pNil))))
def y7 : S := sIf y7t (sSeq (sTh 3 4 (sSet 3 5 (lift y7e))) sNext) sNext
section
variable {b : Nat} {s : D} {sz ct : Nat} {ns hs : List Str}
end
section
variable {b : Nat} {s : D} {sz ct : Nat} {ns hs : List Str} {Z : List (Str × Str)} {d3 : D}
end
def y8e : DL.P D := (pMut (pDisp [((pC (.str "plans")), (pTh (pMut (pCallL dictA (pCons (pTh (pMut (pZipL (pCons (pVar 8) (pCons (pVar 3) pNil))))) pNil))))), ((pC (.str "seeds")), (pVar 4)), ((pC (.str "costs")), (pVar 5))]))
def y8 : S := sTh 3 4 (sTh 3 3 (sRet (lift y8e)))
def yardD (P S : List (Str × Str)) (kvs : List (D × D)) : D := .dict [(.str "plans", .dict (plD P)), (.str "seeds", .lst (sdD S)), (.str "costs", .dict kvs)]
section
variable {b : Nat} {s : D} {sz ct : Nat} {ns hs rs : List Str} {Z : List (Str × Str)} {d3 : D} {kvs : List (D × D)}
end
end DL
namespace DL
open PySem PySem.Spec PyProof.Rows L2
variable [TheW]
/-! ### dicts by names that come more than once -/
def putS (l : List (Str × D)) (x : Str) (d : D) : List (Str × D) := if x ∈ l.map (·.1) then l.map fun p => if p.1 = x then (p.1, d) else p else l ++ [(x, d)]
/-- the costs of the owners of a yard -/
structure Costs (Z : List (Str × Str)) (l : List (Str × Int)) : Prop where
  nd : (l.map (·.1)).Nodup
  ow : ∀ x, x ∈ l.map (·.1) ↔ x ∈ Z.map (·.1)
  lo : ∀ p ∈ l, 1 ≤ p.2 ∧ p.2 ≤ 9
def cstD (l : List (Str × Int)) : List (D × D) := l.map fun p => (.str p.1, .int p.2)
def CostR (d y : D) : Prop := ∃ (a b : Str) (c : Int), d = D.tup [.str a, .str b] ∧ y = D.tup [.str a, .int c] ∧ 1 ≤ c ∧ c ≤ 9
abbrev ydG (mo ma : Nat) (s : D) (x3 x4 x5 x6 x7 x8 x9 : Option D) : Rho := [some (.mut s), some (.int (mo : Nat)), some (.int (ma : Nat)), x3, x4, x5, x6, x7, x8, x9, none, none, none]
section
variable {b mo ma : Nat} {s : D}
end
section
variable {b mo ma : Nat} {s : D} {sz ct : Nat} {ns hs rs : List Str} {Z : List (Str × Str)} {d3 : D}
end
section
variable {b mo ma : Nat} {s : D} {sz ct : Nat} {ns hs rs : List Str} {Z : List (Str × Str)} {d3 : D} {kvs : List (D × D)}
end
section
variable {P S : List (Str × Str)} {d3 : D}
abbrev siG (d3 : D) (P S : List (Str × Str)) (fs : List (Str × D)) (x4 x5 : Option D) : Rho := [some (.mut (.ins "Shop" fs)), some (.dict (plD P)), some (.lst (sdD S)), some d3, x4, x5, none, none, none]
end
def cstL (cs : List (Str × Int)) : List D := cs.map fun p => D.tup [.str p.1, .int p.2]
def costAt (cs : List (Str × Int)) (x : Str) : Int := (cs.lookup x).getD 1
section
variable {Z : List (Str × Str)} {cs : List (Str × Int)} {os : List Str}
end
def ownD (os : List Str) (f : Str → Int) : List (D × D) := os.map fun x => (.str x, .int (f x))
section
variable {P S : List (Str × Str)} {cs : List (Str × Int)} {d3 : D}
/-- what is known of a shop's owners -/
structure Own (S : List (Str × Str)) (os : List Str) (f : Str → Int) : Prop where
  nd : os.Nodup
  l8 : os.length ≤ 8
  mem : ∀ x, x ∈ os ↔ x ∈ S.map (·.1)
end
section
variable {P S : List (Str × Str)} {os : List Str} {f : Str → Int} {C : List (D × D)}
end
theorem pTup_ok {fs : P (List D)} {ρ : Rho} {xs : List D} (h : fs ρ = .ok xs) (hl : xs.length ≤ 100) : pTup fs ρ = .ok (.tup xs) := by
  have := line_big
  rw [pTup_eq, h, rb_ok]
  unfold mkTup
  rw [if_pos (by omega)]
theorem pLst_ok {fs : P (List D)} {ρ : Rho} {xs : List D} (h : fs ρ = .ok xs) (hl : xs.length ≤ 100) : pLst fs ρ = .ok (.lst xs) := by
  have := line_big
  rw [pLst_eq, h, rb_ok]
  unfold mkLst
  rw [if_pos (by omega)]
theorem pNilL {ρ : Rho} : pTh (pMut (pLst pNil)) ρ = .ok (.lst []) := by
  rw [pTh_eq, pMut_eq, pLst_ok (xs := []) rfl (by decide)]
  rfl
theorem pCons_ok {f : P D} {fs : P (List D)} {ρ : Rho} {x : D} {xs : List D} (h : f ρ = .ok x) (h2 : fs ρ = .ok xs) : pCons f fs ρ = .ok (x :: xs) := by
  rw [pCons_eq, h, rb_ok, h2]
  rfl
theorem pOp_ok {h : D → D → Res D} {f g : P D} {ρ : Rho} {x y d : D} (hf : f ρ = .ok x) (hg : g ρ = .ok y) (e : h x y = .ok d) : pOp h f g ρ = .ok d := by
  rw [pOp_eq, hf, rb_ok, hg, rb_ok, e]
theorem pTest_ok {f : P D} {ρ : Rho} {b : Bool} (h : f ρ = .ok (.bl b)) : pTest f ρ = .ok b := by
  rw [pTest_eq, h]
  rfl
theorem pNot_ok {f : P Bool} {ρ : Rho} {b : Bool} (h : f ρ = .ok b) : pNot f ρ = .ok (!b) := by
  rw [pNot_eq, h]
  rfl
theorem pOr_f {f g : P Bool} {ρ : Rho} {b : Bool} (h : f ρ = .ok false) (h2 : g ρ = .ok b) : pOr f g ρ = .ok b := by
  rw [pOr_eq, h, rb_ok, if_neg (by decide), h2]
theorem pAndT_t {f g : P D} {ρ : Rho} {d : D} (h : f ρ = .ok (.bl true)) (h2 : g ρ = .ok d) : pAndT f g ρ = .ok d := by
  rw [pAndT_eq, h, rb_ok]
  exact h2
theorem thm_ok {f : P D} {ρ : Rho} {d e : D} (h : f ρ = .ok d) (t : thaw (.mut d) = e) : pTh (pMut f) ρ = .ok e := by
  rw [pTh_eq, pMut_eq, h]
  simp only [rb_ok, t]
theorem mut_ok {f : P D} {ρ : Rho} {d : D} (h : f ρ = .ok d) : pMut f ρ = .ok (.mut d) := by
  rw [pMut_eq, h]
  rfl
theorem callL_ok {h : List D → Res D} {fs : P (List D)} {ρ : Rho} {xs : List D} {d : D} (hf : fs ρ = .ok xs) (e : h xs = .ok d) : pCallL h fs ρ = .ok d := by
  rw [pCallL_eq, hf, rb_ok, e]
/-- a call whose value is returned -/
theorem call_ok {F : Fd} {n : Nat} {fs : P (List D)} {ρ : Rho} {ds : List D} {d : D} {r : Rho} (h : fs ρ = .ok ds) (hn : ds.length = n) (e : F ds = .ok d r) : pCallF n F fs ρ = .ok d := by
  unfold pCallF
  rw [h]
  simp only [rb_ok]
  rw [if_pos hn, e]
theorem for_ok {src : M (List D)} {t : Tgt} {b : S} {ρ ρ1 : Rho} {ds : List D} {fl : Fl} (h : src ρ = .ok ds ρ1) (k : loopF t b ds ρ1 = fl) : sFor src t b ρ = fl := by
  rw [sFor_eq, h, ofl_ok]
  exact k
/-! ### comparisons that all say the same -/
abbrev Ask := (Nat × List Str) × (Nat × List Str) × (Nat × List Str)
def askD (q : Ask) : D := .tup [tD q.1, tD q.2.1, tD q.2.2]
def sayD (q : Ask) : D := .tup [tD q.1, tD q.2.1, tD q.2.2, .bl true]
structure AskOk (P S : List (Str × Str)) (q : Ask) : Prop where
  c : Tl P S 3 q.1
  a : Tl P S 3 q.2.1
  b : Tl P S 3 q.2.2
  rc : roleOf P (planOf S q.1) = some "compare"
  ab : planOf S q.2.1 = planOf S q.2.2
section
variable {P S : List (Str × Str)} {C : List (D × D)}
end
/-! ### misfit -/
def fitB (H : List (Nat × Str)) (K : List (Str × List Str)) (hid : Str) (q : Ask) : Bool := decide (visO H K q.1 hid q.2.1 = visO H K q.1 hid q.2.2)
def missD (f : Ask → Bool) : Nat → List Ask → D
  | _, [] => .non
  | i, q :: L => if f q = true then missD f (i + 1) L else .int (i : Nat)
abbrev fmF (H : List (Nat × Str)) (K : List (Str × List Str)) (L : List Ask) (hid : Str) (x3 x4 x5 x6 x7 : Option D) : Rho := [some (worldD H K), some (.lst (L.map sayD)), some (.str hid), x3, x4, x5, x6, x7]
section
variable {P S : List (Str × Str)} {C : List (D × D)} {H : List (Nat × Str)} {K : List (Str × List Str)} {hid : Str}
end
/-! ### loops that fold -/
/-! ### marks of the seeds -/
def hasA (row : List Str) : Bool := row.any fun q => q == "a"
def addsOf (h : Nat) (row : List Str) : List Str := if hasA row = true then (if h = 1 then ["", "a"] else ["", "a", "b"]) else ["", "a"]
def stepR (h : Nat) (row : List Str) : List (List Str) := (addsOf h row).map fun m => row ++ [m]
def rowsOf (h : Nat) : Nat → List (List Str)
  | 0 => [[]]
  | n + 1 => (rowsOf h n).flatMap (stepR h)
abbrev rowT (row : List Str) : D := .tup (row.map D.str)
abbrev rowL (row : List Str) : D := .lst (row.map D.str)
/-! ### marks_of -/
abbrev moF (n h : Nat) (x2 x3 x4 x5 x6 : Option D) : Rho := [some (.int (n : Nat)), some (.int (h : Nat)), x2, x3, x4, x5, x6, none]
def mo6 : DL.P D := (pIf (pTest (pOp inB (pC (.str "a")) (pVarB 5))) (pSlice (pC (.tup [(.str "a"), (.str "b")])) pNo (pSome (pVar 1))) (pSlice (pC (.tup [(.str "a"), (.str "b")])) pNo (pSome (pC (.int 1)))))
def moC : DL.P D := (pComp [7] (.name 7) (pIter (pTup (pCons (pC (.str "")) (pStar (pVarB 6) pNil)))) pYes (pTup (pStar (pVarB 5) (pCons (pVar 7) pNil))))
def moI : S := (sSeq (sSet 2 6 (lift mo6)) (sSeq (sExpr (mLst 4 (lift (pCons (pTh (pMut moC)) pNil)) gExt)) sNext))
def moO : S := (sSeq (sSet 2 4 (lift (pMut (pLst pNil)))) (sSeq (sFor (lift (pIter (pVar 2))) (.name 5) moI) (sSeq (sTh 2 4 (sSet 2 2 (lift (pVar 4)))) sNext)))
def tailOf (h : Nat) (row : List Str) : List Str := if hasA row = true then (if h = 1 then ["a"] else ["a", "b"]) else ["a"]
theorem addL_ok {xs ys : List D} (h : xs.length + ys.length ≤ 1000000) : addD (.lst xs) (.lst ys) = .ok (.lst (xs ++ ys)) := by
  have hL : LINE = 16777216 := sizeLine_eq
  show (if xs.length + ys.length ≤ LINE then _ else _) = _
  rw [if_pos (by omega)]
/-! ### known_of -/
def subsStep (fs : List (List Str)) (p : Str) : List (List Str) := fs ++ fs.map fun r => r ++ [p]
def subsOf (ps : List Str) : List (List Str) := ps.foldl subsStep [[]]
abbrev koF (d0 : D) (x1 x2 : Option D) : Rho := [some d0, x1, x2, none]
def koC : DL.P D := (pComp [3] (.name 3) (pIter (pTh (pMut (pCallL listA (pCons (pVarB 1) pNil))))) pYes (pTup (pStar (pVarB 3) (pCons (pVar 2) pNil))))
def koB : S := (sSeq (sExpr (mLst 1 (lift (pCons (pTh (pMut koC)) pNil)) gExt)) sNext)
/-! ### the law's subsets -/
def sbC : DL.P D := (pComp [3] (.name 3) (pIter (pVar 1)) pYes (pOp addD (pVarB 3) (pTh (pMut (pLst (pCons (pVar 2) pNil))))))
def sbB : S := (sSeq (sSet 1 1 (lift (pOp addD (pVarB 1) (pTh (pMut sbC))))) sNext)
/-! ### the law's marks -/
abbrev lmF (n : Nat) (x1 x2 x3 x4 : Option D) : Rho := [some (.int (n : Nat)), x1, x2, x3, x4, none]
def lmS : DL.P (List D) := (pIter (pIf (pTest (pOp inB (pC (.str "a")) (pVarB 4))) (pTh (pMut (pLst (pCons (pC (.str "")) (pCons (pC (.str "a")) (pCons (pC (.str "b")) pNil)))))) (pTh (pMut (pLst (pCons (pC (.str "")) (pCons (pC (.str "a")) pNil)))))))
def lmC : DL.P D := (pComp [5] (.name 5) lmS pYes (pOp addD (pVarB 4) (pTh (pMut (pLst (pCons (pVar 5) pNil))))))
def lmI : S := (sSeq (sSet 1 3 (lift (pOp addD (pVarB 3) (pTh (pMut lmC))))) sNext)
def lmO : S := (sSeq (sSet 1 3 (lift (pTh (pMut (pLst pNil))))) (sSeq (sFor (lift (pIter (pVar 1))) (.name 4) lmI) (sSeq (sSet 1 1 (lift (pVar 3))) sNext)))
def ownAt (S : List (Str × Str)) (i : Nat) : Str := (S[i]?.map (·.1)).getD ""
def ownersOf (S : List (Str × Str)) (H : List (Nat × Str)) : List Str := H.map fun p => ownAt S p.1
noncomputable def badOf (ns : List Str) : List Str := Classical.choose (sortSet_strs (ns := ns))
noncomputable def costH (f : Str → Int) (S : List (Str × Str)) (H : List (Nat × Str)) : Int := ((badOf (ownersOf S H)).map f).sum
section
variable {P S : List (Str × Str)} {os : List Str} {f : Str → Int}
end
/-! ### candidates -/
def hasB (row : List Str) : Bool := row.any fun q => q == "b"
def knownOf (sets : List (List Str)) (row : List Str) : List (List (List Str)) := if hasB row = true then sets.flatMap fun a => sets.map fun b => [a, b] else if hasA row = true then sets.map fun a => [a] else [[]]
def candD (c : Int) (row : List Str) (ks : List (List Str)) : D := .tup [.int c, rowT row, .tup (ks.map rowT)]
def candsL (cost : List Str → Int) (sets : List (List Str)) (row : List Str) : List D := (knownOf sets row).map (candD (cost row) row)
def candsOf (cost : List Str → Int) (sets rows : List (List Str)) : List D := rows.flatMap (candsL cost sets)
abbrev caF (sh : D) (h : Nat) (sets : List (List Str)) (x3 : Option D) (found : List D) (x6 : Option D) : Rho := [some sh, some (.tup []), some (.int (h : Nat)), x3, some (.mut (.lst found)), some (.lst (sets.map rowT)), x6, none, none]
def caC2 : DL.P D := (pComp2 [7, 8] [8] (.name 7) (pIter (pVar 5)) pYes (.name 8) (pIter (pVar 5)) pYes (pTup (pCons (pVar 6) (pCons (pVar 3) (pCons (pTup (pCons (pVar 7) (pCons (pVar 8) pNil))) pNil)))))
def caC1 : DL.P D := (pComp [7] (.name 7) (pIter (pVar 5)) pYes (pTup (pCons (pVar 6) (pCons (pVar 3) (pCons (pTup (pCons (pVar 7) pNil)) pNil)))))
def caE : DL.P D := (pIf (pTest (pOp inB (pC (.str "a")) (pVarB 3))) (pTh (pMut caC1)) (pTh (pMut (pLst (pCons (pTup (pCons (pVar 6) (pCons (pVar 3) (pCons (pTup pNil) pNil)))) pNil)))))
def caI : S := (sSeq (sIf (lift (pTest (pOp inB (pC (.str "b")) (pVarB 3)))) (sSeq (sExpr (mLst 4 (lift (pCons (pTh (pMut caC2)) pNil)) gExt)) sNext) (sSeq (sExpr (mLst 4 (lift (pCons caE pNil)) gExt)) sNext)) sNext)
section
variable {sh : D} {h : Nat} {sets : List (List Str)} {found : List D} {c : Int} {row : List Str}
end
/-! ### the candidates can be compared -/
noncomputable def costR (f : Str → Int) (S : List (Str × Str)) (row : List Str) : Int := costH f S (hOf 0 row)
section
variable {P S : List (Str × Str)} {os : List Str} {f : Str → Int} {ms : List Str}
end
/-! ### ways: marks and what the habits know -/
abbrev Way := List Str × List (List Str)
def Kof (ks : List (List Str)) : List (Str × List Str) := [("a" : Str), "b"].zip ks
def waysOf (sets rows : List (List Str)) : List Way := rows.flatMap fun row => (knownOf sets row).map fun ks => (row, ks)
def candW (cost : List Str → Int) (w : Way) : D := candD (cost w.1) w.1 w.2
/-! ### world_of -/
/-! ### the first of a loop -/
/-! ### the least cost -/
structure Least (W : Way → Prop) (c : Way → Int) (q : Way → Prop) (x : D) : Prop where
  is : (x = .non ∧ ∀ w, W w → ¬ q w) ∨ ∃ w, W w ∧ q w ∧ x = .int (c w) ∧ ∀ v, W v → q v → c w ≤ c v
theorem callT_ok {F : Fd} {n : Nat} {fs : P (List D)} {ρ : Rho} {ds : List D} {d e : D} {r : Rho} (h : fs ρ = .ok ds) (hn : ds.length = n) (k : F ds = .ok d r) (t : thaw d = e) : pTh (pCallF n F fs) ρ = .ok e := by
  rw [pTh_eq, call_ok h hn k, rb_ok, t]
/-! ### trust -/
def qualW (t : Nat × List Str) (L : List Ask) (hid : Str) (w : Way) : Prop := carriedO (hOf 0 w.1) (Kof w.2) t ≠ none ∧ ∀ q ∈ L, fitB (hOf 0 w.1) (Kof w.2) hid q = true
abbrev ltF (sh : D) (L : List Ask) (t : Nat × List Str) (h : Nat) (hid : Str) (x6 x7 : Option D) : Rho := [some sh, some (.lst (L.map sayD)), some (tD t), some (.tup []), some (.int (h : Nat)), some (.str hid), x6, x7]
section
variable {P S : List (Str × Str)} {os : List Str} {f : Str → Int} {ms : List Str}
noncomputable def costW (f : Str → Int) (S : List (Str × Str)) (w : Way) : Int := costR f S w.1
end
/-! ### the law's tools -/
section
variable {P S : List (Str × Str)} {kvs : List (D × D)} {ms : List Str}
def growT (P S : List (Str × Str)) (ms : List Str) (t : Nat × List Str) : List (Nat × List Str) := if roleOf P (planOf S t) = some "build" then ms.map fun p => (t.1, t.2 ++ [p]) else []
abbrev tlF (y : D) (dp : Nat) (x2 x3 x4 x5 x6 : Option D) : Rho := [some y, some (.int (dp : Nat)), x2, x3, x4, x5, x6, none, none]
def tlC : DL.P D := (pComp [8] (.name 8) (pIter (pTh (pMut (pCallL sortedC (pCons (pOp ixD (pVarB 0) (pC (.str "plans"))) pNil))))) pYes (pTup (pCons (pOp ixD (pVarB 6) (pC (.int 0))) (pCons (pOp addD (pOp ixD (pVarB 6) (pC (.int 1))) (pTup (pCons (pVar 8) pNil))) pNil))))
end
section
variable {F : Fd} {d s s' x y : D} {r ρ : Rho}
end
/-! ### the law's lie -/
def lieD (is : List Nat) (ps : List Str) : D := .tup [.lst (is.map fun (i : Nat) => D.int (i : Int)), .lst (ps.map D.str)]
section
variable {P Z : List (Str × Str)} {kvs : List (D × D)} {ms : List Str} {b : Nat} {s : D}
def li1 : M D := (mComp [3] (.name 3) (lift (pRange1 (pCons (pCallL lenD (pCons (pOp ixD (pVarB 1) (pC (.str "seeds"))) pNil)) pNil))) (mTest (mOp eqR (mTh (mCall F__law_take 2 (mSlot 0 (mVal (lift (pC (.int 3))) mNil)))) (lift (pC (.int 0))))) (lift (pVar 3)))
def li2 : M D := (mComp [4] (.name 4) (lift (pIter (pTh (pMut (pCallL sortedC (pCons (pOp ixD (pVarB 1) (pC (.str "plans"))) pNil)))))) (mTest (mOp eqR (mTh (mCall F__law_take 2 (mSlot 0 (mVal (lift (pC (.int 2))) mNil)))) (lift (pC (.int 0))))) (lift (pVar 4)))
end
/-! ### is_tainted, answer: some answer -/
section
variable {P Z : List (Str × Str)} {kvs : List (D × D)} {ms : List Str} {b : Nat} {s : D}
abbrev akF (y s : D) (x3 x4 x5 x6 x7 x8 : Option D) : Rho := [some (.mut s), some y, some (.int 2), x3, x4, x5, x6, x7, x8, none]
def ak6t : DL.P Bool := (pAnd (pTest (pOp neR (pVarB 9) (pVarB 8))) (pTest (pOp neR (pOp ixD (pOp ixD (pOp ixD (pVarB 1) (pC (.str "seeds"))) (pOp ixD (pVarB 9) (pC (.int 0)))) (pC (.int 0))) (pOp ixD (pOp ixD (pOp ixD (pVarB 1) (pC (.str "seeds"))) (pOp ixD (pVarB 8) (pC (.int 0)))) (pC (.int 0))))))
def ak6 : DL.P D := (pComp [9] (.name 9) (pIter (pVar 5)) ak6t (pVar 9))
def ak7 : M D := (mIf (mAnd (lift (pTest (pOp neR (pVarB 6) (pTh (pMut (pLst pNil)))))) (mTest (mOp gtR (mTh (mCall F__law_take 2 (mSlot 0 (mVal (lift (pC (.int 4))) mNil)))) (lift (pC (.int 0)))))) (lift (pVar 6)) (lift (pVar 5)))
end
section
variable {P Z : List (Str × Str)} {kvs : List (D × D)} {ms : List Str} {b : Nat} {s : D}
abbrev saF (y s : D) (x5 x6 x7 x8 x9 : Option D) : Rho := [some (.mut s), some y, some (.int 6), some (.int 2), some (.int 0), x5, x6, x7, x8, x9]
end
end DL
namespace DL
open PySem PySem.Spec PyProof.Rows L2
variable [TheW]
/-! ### comparisons with any answers, findings; lists or tuples of them -/
def Sq (x : D) (ds : List D) : Prop := x = .lst ds ∨ x = .tup ds
theorem Sq.nm {x : D} {ds : List D} (h : Sq x ds) : isMut x = false := by rcases h with rfl | rfl <;> rfl
abbrev Say := Ask × Bool
def sbD (q : Say) : D := .tup [tD q.1.1, tD q.1.2.1, tD q.1.2.2, .bl q.2]
abbrev Note := Str × Bool
def ntD (q : Note) : D := .tup [.str q.1, .bl q.2]
section
variable {P S : List (Str × Str)} {C : List (D × D)}
end
/-! ### first_misfit -/
def missG (f : Say → Bool) : Nat → List Say → D
  | _, [] => .non
  | i, q :: L => if f q = true then missG f (i + 1) L else .int (i : Nat)
/-- a comparison has its answer in a world -/
def fitS (H : List (Nat × Str)) (K : List (Str × List Str)) (hid : Str) (q : Say) : Bool := decide (fitB H K hid q.1 = q.2)
abbrev fgF (H : List (Nat × Str)) (K : List (Str × List Str)) (x : D) (hid : Str) (x3 x4 x5 x6 x7 : Option D) : Rho := [some (worldD H K), some x, some (.str hid), x3, x4, x5, x6, x7]
section
variable {P S : List (Str × Str)} {C : List (D × D)} {H : List (Nat × Str)} {K : List (Str × List Str)} {hid : Str} {x : D}
end
/-! ### findings: what agrees, what it costs beside them -/
theorem enum_own {Z : List (Str × Str)} : ∀ (row : List Str) (i : Nat), ((enumF i (row.map D.str)).filter hasMark).map (fun d => match d with
    | .tup [.int i, _] => D.str (ownAt Z i.toNat)
    | _ => .non) = (ownersOf Z (hOf i row)).map D.str := fun row i => by
  rw [enum_hOf]
  unfold hD ownersOf
  rw [List.map_map, List.map_map, List.map_map]
  rfl
/-- the owners with a mark agree with the findings -/
def soB (S : List (Str × Str)) (N : List Note) (os : List Str) : Bool := N.all fun q => decide ((os.any fun y => y == q.1) = q.2)
def isBad (N : List Note) (x : Str) : Bool := N.any fun q => q.1 == x && q.2
noncomputable def costN (f : Str → Int) (N : List Note) (os : List Str) : Int := (((badOf os).filter fun x => !isBad N x).map f).sum
section
variable {P S : List (Str × Str)} {os : List Str} {f : Str → Int} {x : D} {N : List Note}
end
/-! ### candidates with findings -/
abbrev caG (fx sh : D) (h : Nat) (sets : List (List Str)) (x3 : Option D) (found : List D) (x6 : Option D) : Rho := [some sh, some fx, some (.int (h : Nat)), x3, some (.mut (.lst found)), some (.lst (sets.map rowT)), x6, none, none]
section
variable {fx sh : D} {h : Nat} {sets : List (List Str)} {found : List D} {c : Int} {row : List Str}
end
section
variable {P S : List (Str × Str)} {os : List Str} {f : Str → Int} {ms : List Str} {x : D} {N : List Note}
noncomputable def costS (f : Str → Int) (S : List (Str × Str)) (N : List Note) (row : List Str) : Int := costN f N (ownersOf S (hOf 0 row))
def okS (S : List (Str × Str)) (N : List Note) (row : List Str) : Bool := soB S N (ownersOf S (hOf 0 row))
end
theorem compL_map {ι : Type} {enc g : ι → D} {q : ι → Bool} {k : D → Res (Option D)} : ∀ {xs : List ι}, (∀ x ∈ xs, k (enc x) = .ok (if q x = true then some (g x) else none)) → compL k (xs.map enc) = .ok ((xs.filter q).map g)
  | [], _ => rfl
  | x :: xs, h => by
    have h1 := h x List.mem_cons_self
    have h2 := compL_map (xs := xs) fun e he => h e (List.mem_cons_of_mem _ he)
    rw [List.map_cons]
    unfold compL
    rw [h1, h2]
    by_cases c : q x = true <;> simp [c, List.filter_cons]
theorem pComp_map {ι : Type} {vs : List Nat} {t : Tgt} {src : P (List D)} {tt : P Bool} {te : P D} {ρ : Rho} {xs : List ι} (enc g : ι → D) (q : ι → Bool) (hs : src ρ = .ok (xs.map enc)) (hl : xs.length ≤ LINE)
    (h : ∀ x ∈ xs, ∃ l, asg t (enc x) = some l ∧ tt (setR (wipeR ρ vs) l) = .ok (q x) ∧ (q x = true → te (setR (wipeR ρ vs) l) = .ok (g x))) : pComp vs t src tt te ρ = .ok (.lst ((xs.filter q).map g)) := by
  unfold pComp
  rw [hs]
  show (compL _ (xs.map enc)).bind mkLst = _
  rw [compL_map (g := g) (q := q) (fun x hx => ?_)]
  · show mkLst _ = _
    unfold mkLst
    rw [if_pos (Nat.le_trans (by rw [List.length_map]; exact List.length_filter_le _ _) hl)]
  · obtain ⟨l, e, e1, e2⟩ := h x hx
    unfold item
    rw [e]
    simp only
    rw [e1]
    by_cases c : q x = true
    · simp [c, e2 c]
    · simp [Bool.not_eq_true _ ▸ c]
/-! ### trust beside findings -/
def qualS (t : Nat × List Str) (L : List Say) (hid : Str) (w : Way) : Prop := carriedO (hOf 0 w.1) (Kof w.2) t ≠ none ∧ ∀ q ∈ L, fitS (hOf 0 w.1) (Kof w.2) hid q = true
abbrev tsF (sh x y : D) (t : Nat × List Str) (h : Nat) (hid : Str) (x6 x7 : Option D) : Rho := [some sh, some x, some (tD t), some y, some (.int (h : Nat)), some (.str hid), x6, x7]
section
variable {P S : List (Str × Str)} {os : List Str} {f : Str → Int} {ms : List Str} {x y : D} {L : List Say} {N : List Note}
noncomputable def costV (f : Str → Int) (S : List (Str × Str)) (N : List Note) (w : Way) : Int := costS f S N w.1
def IsCand (ms : List Str) (S : List (Str × Str)) (N : List Note) (h : Nat) (w : Way) : Prop := w ∈ waysOf (subsOf ms) ((rowsOf h S.length).filter (okS S N))
end
/-! ### status -/
def stB (bs : List Bool) : Str := if bs.isEmpty = true then "impossible" else if (!(bs.any fun b => b == true)) = true then "clean" else if (!(bs.any fun b => b == false)) = true then "tainted" else "open"
section
variable {P S : List (Str × Str)} {os : List Str} {f : Str → Int} {ms : List Str} {x y : D} {L : List Say} {N : List Note}
def wdW (w : Way) : D := worldD (hOf 0 w.1) (Kof w.2)
noncomputable def inCap (f : Str → Int) (S : List (Str × Str)) (N : List Note) (L : List Say) (cap : Nat) (w : Way) : Bool := decide (costV f S N w ≤ (cap : Int)) && decide (∀ q ∈ L, fitS (hOf 0 w.1) (Kof w.2) "own" q = true)
def tnt (t : Nat × List Str) (w : Way) : Bool := (carriedO (hOf 0 w.1) (Kof w.2) t).isSome
abbrev wwF (sh x : D) (cap : Nat) (y : D) (x4 x5 x6 : Option D) : Rho := [some sh, some x, some (.int (cap : Nat)), some y, x4, x5, x6]
end
/-! ### the law's tools of a larger yard -/
section
variable {P S : List (Str × Str)} {kvs : List (D × D)} {ms : List Str}
end
/-! ### the law's lie, its answers -/
section
variable {P Z : List (Str × Str)} {kvs : List (D × D)} {ms : List Str} {b : Nat} {s : D}
end

def taintB (is : List Nat) (ps : List Str) (t : Nat × List Str) : Bool := (is.any fun i => i == t.1) && t.2.all fun p => ps.any fun q => q == p
def answB (is : List Nat) (ps : List Str) (q : Ask) : Bool := taintB is ps q.1 || decide (taintB is ps q.2.1 = taintB is ps q.2.2)
section
variable {P Z : List (Str × Str)} {kvs : List (D × D)} {ms : List Str} {b : Nat} {s : D}
/-! ### said: all the same, as in a habit, or any -/
abbrev sgF (wy : Nat) (y s : D) (x5 x6 x7 x8 x9 : Option D) : Rho := [some (.mut s), some y, some (.int 7), some (.int 2), some (.int (wy : Nat)), x5, x6, x7, x8, x9]
end
/-! ### shuffled is a rearrangement -/
/-! ### the law's notes -/
def nobody : Str := "nobody"
section
variable {P Z : List (Str × Str)} {cs : List (Str × Int)} {ms : List Str} {b : Nat} {s : D}
abbrev ntF (y s : D) (x2 x3 x4 x5 x6 : Option D) : Rho := [some (.mut s), some y, x2, x3, x4, x5, x6, none, none]
def no4 : M D := (mOp mulD (mTh (mLstE (mCons (mTup (mCons (lift (pC (.str "nobody"))) (mCons (mOp eqR (mTh (mCall F__law_take 2 (mSlot 0 (mVal (lift (pC (.int 2))) mNil)))) (lift (pC (.int 0)))) (fun ρ => .ok [] ρ)))) (fun ρ => .ok [] ρ)))) (mCallL intD (mCons (mAndT (mOp eqR (mTh (mCall F__law_take 2 (mSlot 0 (mVal (lift (pC (.int 4))) mNil)))) (lift (pC (.int 0)))) (lift (pOp notInB (pC (.str "nobody")) (pOp ixD (pVarB 1) (pC (.str "costs")))))) (fun ρ => .ok [] ρ))))
def noE : M D := (mTup (mCons (lift (pVar 8)) (mCons (mIf (lift (pTest (pVar 6))) (mOp eqR (mTh (mCall F__law_take 2 (mSlot 0 (mVal (lift (pC (.int 2))) mNil)))) (lift (pC (.int 0)))) (lift (pOp inB (pVarB 8) (pVarB 2)))) (fun ρ => .ok [] ρ))))
end
/-! ### the law's subsets of any plain data -/
section
variable {ι : Type}
def subsGStep (fs : List (List ι)) (p : ι) : List (List ι) := fs ++ fs.map fun r => r ++ [p]
def subsG (ps : List ι) : List (List ι) := ps.foldl subsGStep [[]]
abbrev rowE (enc : ι → D) (row : List ι) : D := .lst (row.map enc)
abbrev kgF (d0 : D) (x1 x2 : Option D) : Rho := [some d0, x1, x2, none]
variable {enc : ι → D}
end
/-! ### the law's lies -/
abbrev Lie := List Nat × List Str
def nE (i : Nat) : D := .int (i : Int)
abbrev lD (l : Lie) : D := lieD l.1 l.2
def liesOf (n : Nat) (ms : List Str) : List Lie := ([], []) :: (subsG (List.range n)).tail.flatMap fun sd => (subsG ms).map fun sh => (sd, sh)
abbrev lsF (y : D) (x1 x2 : Option D) : Rho := [some y, x1, x2, none]
section
variable {P Z : List (Str × Str)} {kvs : List (D × D)} {ms : List Str}
end
/-! ### which lies fit, what they cost, their rows -/
def fitL (L : List Say) (l : Lie) : Bool := L.all fun q => decide (answB l.1 l.2 q.1 = q.2)
def mkL (n : Nat) (sd : List Nat) : List Str := (List.range n).map fun i => if (sd.any fun j => j == i) = true then ("a" : Str) else ""
noncomputable def costL (cs : List (Str × Int)) (Z : List (Str × Str)) (fb : List Str) (l : Lie) : Int := (((badOf (l.1.map (ownAt Z))).filter fun x => !(fb.any fun y => y == x)).map (costAt cs)).sum
noncomputable def rwD (cs : List (Str × Int)) (Z : List (Str × Str)) (fb : List Str) (l : Lie) : D := .tup [.int (costL cs Z fb l), rowT (mkL Z.length l.1), rowT l.2, lD l]
section
variable {P Z : List (Str × Str)} {cs : List (Str × Int)} {L : List Say} {fb : List Str}
end
/-! ### the rows can be sorted -/
abbrev srF (y x fb : D) (x3 x4 x5 : Option D) : Rho := [some y, some x, some fb, x3, x4, x5, none]
def srM : DL.P D := (pCallL tupleD (pCons (pTh (pMut (pComp [6] (.name 6) (pRange1 (pCons (pCallL lenD (pCons (pOp ixD (pVarB 0) (pC (.str "seeds"))) pNil)) pNil)) pYes (pOp ixD (pTh (pMut (pLst (pCons (pC (.str "")) (pCons (pC (.str "a")) pNil))))) (pCallL intD (pCons (pOp inB (pVarB 6) (pOp ixD (pVarB 4) (pC (.int 0)))) pNil)))))) pNil))
section
variable {P Z : List (Str × Str)} {cs : List (Str × Int)} {L : List Say} {fb : List Str} {ms : List Str}
/-! ### those that agree with findings -/
abbrev agF (y x n : D) (x3 x4 x5 : Option D) : Rho := [some y, some x, some n, x3, x4, x5, none, none]
def agC : DL.P D := (pComp [6] (.name 6) (pIter (pOp ixD (pOp ixD (pVarB 4) (pC (.int 3))) (pC (.int 0)))) pYes (pOp ixD (pOp ixD (pOp ixD (pVarB 0) (pC (.str "seeds"))) (pVarB 6)) (pC (.int 0))))
def agT : DL.P D := (pComp [7] (.name 7) (pIter (pVar 2)) (pTest (pOp neR (pOp inB (pOp ixD (pVarB 7) (pC (.int 0))) (pVarB 5)) (pOp ixD (pVarB 7) (pC (.int 1))))) (pVar 7))
def agB : DL.S := (sSeq (sSet 3 5 (lift (pTh (pMut agC)))) (sSeq (sIf (lift (pTest (pOp eqR (pTh (pMut agT)) (pTh (pMut (pLst pNil)))))) (sSeq (sExpr (mLst 3 (lift (pCons (pVar 4) pNil)) gApp)) sNext) sNext) sNext))
/-! ### what is due -/
end
section
variable {P Z : List (Str × Str)} {ms : List Str} {t : Nat × List Str}
end
/-! ### the start of the draws -/
def big : Int := 1000000000000000000
theorem begun_ok {ns : List Int} (hl : ns.length ≤ 63) : ∃ (s : D) (r : Rho), F__law_begun [.set (ns.map D.int)] = .ok (.mut s) r ∧ St 1000000000000 s := by
  have hL : LINE = 16777216 := sizeLine_eq
  have pw : ∀ ρ : Rho, pOp powD (pC (.int 10)) (pC (.int 18)) ρ = .ok (.int big) := fun ρ => by
    show powD (.int 10) (.int 18) = _
    unfold powD intsD
    simp only
    rw [if_pos ⟨by decide, by decide, by decide⟩]
    rfl
  have cm : pComp [2] (.name 2) (pIter (pVar 0)) (pTest (pOp geR (pVarB 2) (pOp powD (pC (.int 10)) (pC (.int 18))))) (pOp subD (pVarB 2) (pOp powD (pC (.int 10)) (pC (.int 18)))) [some (.set (ns.map D.int)), none, none] = .ok (.lst (((ns.filter fun c => decide (big ≤ c)).map fun c => c - big).map D.int)) := by
    rw [pComp_eq (ds := ns.map D.int) (fun d => match d with
      | .int c => .int (c - big)
      | _ => .non) (fun d => match d with
      | .int c => decide (big ≤ c)
      | _ => false) rfl (by rw [List.length_map]; omega) fun d hd => ?_]
    · rw [List.filter_map, List.map_map, List.map_map]
      rfl
    · obtain ⟨c, hc, rfl⟩ := List.mem_map.mp hd
      refine ⟨[(2, .int c)], rfl, ?_, fun _ => ?_⟩
      · show pTest (pOp geR (pVarB 2) (pOp powD (pC (.int 10)) (pC (.int 18)))) [some (.set (ns.map D.int)), none, some (.int c)] = _
        rw [pTest_eq, pOp_eq, pw]
        rfl
      · show pOp subD (pVarB 2) (pOp powD (pC (.int 10)) (pC (.int 18))) [some (.set (ns.map D.int)), none, some (.int c)] = _
        rw [pOp_eq, pw]
        rfl
  refine ⟨stD ((ns.filter fun c => decide (big ≤ c)).map fun c => c - big) ns 0 0, _, runR [some (.set (ns.map D.int)), none, none] ((seq_nx (ρ' := [some (.set (ns.map D.int)), some (.mut (.lst (((ns.filter fun c => decide (big ≤ c)).map fun c => c - big).map D.int))), none]) (set_ok (d := .mut (.lst (((ns.filter fun c => decide (big ≤ c)).map fun c => c - big).map D.int))) (lift_ok (by rw [pMut_eq, cm]; rfl)) rfl)).trans (seq_ret (r := [some (.set (ns.map D.int)), none, none]) ?_)), _, _, 0, 0, rfl, ?_, ?_, by omega, by omega, by omega⟩
  · have l : pTh (pMut (pCallL listA (pCons (pVarB 0) pNil))) [some (.set (ns.map D.int)), some (.mut (.lst (((ns.filter fun c => decide (big ≤ c)).map fun c => c - big).map D.int))), none] = .ok (.lst (ns.map D.int)) := by
      rw [pTh_eq, pMut_eq]
      show Res.ok (thaw (.mut (.lst (ns.map D.int)))) = _
      rw [thaw_mlst fun d hd => by obtain ⟨_, _, rfl⟩ := List.mem_map.mp hd; rfl]
    unfold sRetD4
    rw [l]
    simp only [pC_eq]
    show (if 1 ≤ 1 ∧ [("great" : Str), "cells", "rest", "turn"].Nodup then _ else _) = _
    rw [if_pos ⟨Nat.le_refl _, by decide⟩]
    rfl
  · intro g hg
    obtain ⟨c, hc, rfl⟩ := List.mem_map.mp hg
    have := of_decide_eq_true (List.mem_filter.mp hc).2
    omega
  · rw [List.length_map]
    have := List.length_filter_le (fun c => decide (big ≤ c)) ns
    omega
/-! ### ways of one habit and lies -/
structure WL (w : Way) (l : Lie) : Prop where
  ix : (hOf 0 w.1).map (·.1) = l.1
  ca : ∀ t, carriedO (hOf 0 w.1) (Kof w.2) t = if taintB l.1 l.2 t = true then some ("a" : Str) else none
section
variable {Z : List (Str × Str)} {cs : List (Str × Int)} {ms : List Str} {N : List Note} {L : List Say}
/-! ### statuses by what is there -/
open Classical in
noncomputable def stP (T F : Prop) : Str := if ¬T ∧ ¬F then "impossible" else if ¬T then "clean" else if ¬F then "tainted" else "open"
def TIn (f : Str → Int) (ms : List Str) (Z : List (Str × Str)) (N : List Note) (L : List Say) (t : Nat × List Str) (cap : Nat) (b : Bool) : Prop := ∃ w, IsCand ms Z N 1 w ∧ inCap f Z N L cap w = true ∧ tnt t w = b
noncomputable def stat (f : Str → Int) (ms : List Str) (Z : List (Str × Str)) (N : List Note) (L : List Say) (t : Nat × List Str) (cap : Nat) : Str := stP (TIn f ms Z N L t cap true) (TIn f ms Z N L t cap false)
end
section
variable {F : Fd} {d s s' a b x y : D} {r ρ ρ1 : Rho} {f : M D}
end
theorem ne_self2 {d : D} (h : simple d = true) (h2 : dep d ≤ 60) : neR d d = .ok (.bl false) := by
  unfold neR eqOk
  rw [h, if_pos (by simp [h2]), eqD_refl d h]
  rfl
/-- what a turn of the law has at hand -/
structure C12 (P Z : List (Str × Str)) (cs : List (Str × Int)) (ms os : List Str) (L : List Say) (N : List Note) (ls : List Lie) : Prop where
  Y : Yard P Z
  z5 : Z.length ≤ 5
  m4 : ms.length ≤ 4
  ow : ∀ z ∈ Z, Nm z.1
  ck : Costs Z cs
  pm : ms.Perm (P.map (·.1))
  asc : Asc ms
  O : Own Z os (costAt cs)
  es : sortedC [.dict (plD P)] = .ok (.lst (ms.map D.str))
  L7 : L.length ≤ 7
  LP : ∀ q ∈ L, AskOk P Z q.1
  Nn : ∀ q ∈ N, Nm q.1
  Nd : (N.map (·.1)).Nodup
  N6 : N.length ≤ 6
  hl : ∀ l, l ∈ ls ↔ (l ∈ liesOf Z.length ms ∧ fitL L l = true) ∧ soB Z N (l.1.map (ownAt Z)) = true
  ll : ls.length ≤ 900
abbrev fbN (N : List Note) : List Str := (N.filter fun q => q.2).map (·.1)
abbrev shX (P Z : List (Str × Str)) (cs : List (Str × Int)) (ms os : List Str) : D := shopD (reP P ms) Z (ownD os (costAt cs))
section
variable {P Z : List (Str × Str)} {cs : List (Str × Int)} {ms os : List Str} {L : List Say} {N : List Note} {ls : List Lie} {t : Nat × List Str} {x y : D}
end
abbrev lwF (sc s : D) (x2 x3 x4 x5 x6 x7 x8 x9 x10 x11 x12 x13 x14 x15 x16 : Option D) : Rho := [some sc, some (.mut s), x2, x3, x4, x5, x6, x7, x8, x9, x10, x11, x12, x13, x14, x15, x16, none, none, none]
def w13 : DL.P D := (pMut (pComp [17] (.name 17) (pRange1 (pCons (pOp addD (pVarB 6) (pC (.int 1))) pNil)) (pAnd (pOr (pTest (pOp isR (pVarB 12) (pC .non))) (pTest (pOp ltR (pVarB 17) (pVarB 12)))) (pTest (pOp neR (pOp ixD (pVarB 11) (pVarB 17)) (pC (.str "impossible"))))) (pVar 17)))
def w13d : DL.P D := (pTh (pMut (pComp [17] (.name 17) (pRange1 (pCons (pOp addD (pVarB 6) (pC (.int 1))) pNil)) (pTest (pOp eqR (pOp ixD (pVarB 11) (pVarB 17)) (pC (.str "clean")))) (pVar 17))))
section
variable {P Z : List (Str × Str)} {cs : List (Str × Int)} {ms os : List Str} {L : List Say} {N : List Note} {ls : List Lie} {t : Nat × List Str} {sc s : D} {m : Nat}
noncomputable abbrev wiF (P Z : List (Str × Str)) (cs : List (Str × Int)) (ms os : List Str) (L : List Say) (N : List Note) (ls : List Lie) (t : Nat × List Str) (sc s : D) (m : Nat) (x2 x7 x11 x12 x13 x14 x15 x16 : Option D) : Rho :=
  lwF sc s x2 (some (yardD P Z (cstD cs))) (some (shX P Z cs ms os)) (some (.lst (ls.map (rwD cs Z (fbN N))))) (some (.int (m : Nat))) x7 (some (.lst (L.map sbD))) (some (.lst (N.map ntD))) (some (tD t)) x11 x12 x13 x14 x15 x16
variable {x2 x7 x11 x12 x13 x14 x15 x16 : Option D}
noncomputable def hrd (cs : List (Str × Int)) (ms : List Str) (Z : List (Str × Str)) (N : List Note) (L : List Say) (t : Nat × List Str) (m : Nat) : List Str := (List.range (m + 1)).map (stat (costAt cs) ms Z N L t)
noncomputable def clean (cs : List (Str × Int)) (ms : List Str) (Z : List (Str × Str)) (N : List Note) (L : List Say) (t : Nat × List Str) (m : Nat) : List D := ((List.range (m + 1)).filter fun cap => stat (costAt cs) ms Z N L t cap == "clean").map fun (i : Nat) => D.int (i : Int)
end
end DL
namespace DL
open PySem PySem.Spec PyProof.Rows L2
variable [TheW]
theorem app_bigT {ds : List D} {d : D} (h : ds.length < LINE) : gApp ds [d] = some (.non, ds ++ [d]) := by
  show (if ds.length < LINE then some (D.non, ds ++ [d]) else none) = _
  rw [if_pos h]
theorem app_1000 {ds : List D} {d : D} (h : ds.length < 1000) : gApp ds [d] = some (.non, ds ++ [d]) := app_bigT (by
  have hL : LINE = 16777216 := sizeLine_eq
  omega)
theorem ne_strR (t : Str) : neR (.str t) (.str t) = .ok (.bl false) := by
  show Res.ok (D.bl (!(t == t))) = _
  rw [beq_self_eq_true]
  rfl
theorem lstQ_ok {fs : DL.P (List D)} {ρ : Rho} {xs ys : List D} (h : fs ρ = .ok xs) (hl : xs.length ≤ 1000) (th : thaw (.mut (.lst xs)) = .lst ys) : pTh (pMut (pLst fs)) ρ = .ok (.lst ys) := by
  have hL : LINE = 16777216 := sizeLine_eq
  refine thm_ok (d := .lst xs) ?_ th
  rw [pLst_eq, h]
  show mkLst xs = _
  unfold mkLst
  rw [if_pos (by omega)]
/-! ### what an error is -/
def clsX : List Str := ["Found", "HabitError", "NoComparer", "NoComparison", "NoFinding", "NoLog", "NoName", "NoNumber", "NoOperation", "NoOption", "NoOwner", "NoPair", "NoShop", "NoText", "NoTool", "NoTree", "NoWorld", "TooMany", "Unsafe"]
def namX : List Str := ["NoShop", "NoName", "NoTool", "NoComparer", "NoPair", "NoWorld", "NoComparison", "NoFinding", "NoTree", "NoNumber", "NoOption", "NoOwner", "Found", "NoOperation", "TooMany", "Unsafe", "NoLog", "NoText"]
abbrev kdF (e : D) (o : List D) : Rho := [some e, some (.mut (.lst o)), none, none]
theorem kd_step {e : D} {o : List D} {te : DL.P D} {x : D} (h : te (kdF e o) = .ok x) (hl : o.length < 1000) : (sExpr (mLst 1 (lift (pCons te pNil)) gApp)) (kdF e o) = .nx (kdF e (o ++ [x])) :=
  expr_ok (d := .non) (by
    rw [mLst_ok (i := 1) (o := o) (ds := o) (xs := [x]) (es := o ++ [x]) rfl (lift_ok (pCons_ok h rfl)) rfl (app_1000 hl)]
    rfl)
def kdL (C : Str) : List D := namX.map fun n => D.tup [.str n, .bl (decide (n = C))]
theorem kd_isX {C : Str} {fs : List (Str × D)} {o : List D} {n : Str} {tab : List (Str × Bool)} {b : Bool} (h : tabX tab C = some b) : (pTup (pCons (pC (.str n)) (pCons (pUn (isXD tab) (pVar 0)) pNil))) (kdF (.exc C fs) o) = .ok (.tup [.str n, .bl b]) := by
  have e : pUn (isXD tab) (pVar 0) (kdF (.exc C fs) o) = .ok (.bl b) := by
    show (match tabX tab C with | some b => Res.ok (D.bl b) | none => .stuck) = _
    rw [h]
  exact pTup_ok (pCons_ok rfl (pCons_ok e rfl)) (show 2 ≤ 100 by decide)
theorem tK0 : ∀ C ∈ clsX, tabX [("Found", false), ("HabitError", false), ("NoComparer", false), ("NoComparison", false), ("NoFinding", false), ("NoLog", false), ("NoName", false), ("NoNumber", false), ("NoOperation", false), ("NoOption", false), ("NoOwner", false), ("NoPair", false), ("NoShop", true), ("NoText", false), ("NoTool", false), ("NoTree", false), ("NoWorld", false), ("TooMany", false), ("Unsafe", false)] C = some (decide (("NoShop" : Str) = C)) := by decide +kernel
theorem tK1 : ∀ C ∈ clsX, tabX [("Found", false), ("HabitError", false), ("NoComparer", false), ("NoComparison", false), ("NoFinding", false), ("NoLog", false), ("NoName", true), ("NoNumber", false), ("NoOperation", false), ("NoOption", false), ("NoOwner", false), ("NoPair", false), ("NoShop", false), ("NoText", false), ("NoTool", false), ("NoTree", false), ("NoWorld", false), ("TooMany", false), ("Unsafe", false)] C = some (decide (("NoName" : Str) = C)) := by decide +kernel
theorem tK2 : ∀ C ∈ clsX, tabX [("Found", false), ("HabitError", false), ("NoComparer", false), ("NoComparison", false), ("NoFinding", false), ("NoLog", false), ("NoName", false), ("NoNumber", false), ("NoOperation", false), ("NoOption", false), ("NoOwner", false), ("NoPair", false), ("NoShop", false), ("NoText", false), ("NoTool", true), ("NoTree", false), ("NoWorld", false), ("TooMany", false), ("Unsafe", false)] C = some (decide (("NoTool" : Str) = C)) := by decide +kernel
theorem tK3 : ∀ C ∈ clsX, tabX [("Found", false), ("HabitError", false), ("NoComparer", true), ("NoComparison", false), ("NoFinding", false), ("NoLog", false), ("NoName", false), ("NoNumber", false), ("NoOperation", false), ("NoOption", false), ("NoOwner", false), ("NoPair", false), ("NoShop", false), ("NoText", false), ("NoTool", false), ("NoTree", false), ("NoWorld", false), ("TooMany", false), ("Unsafe", false)] C = some (decide (("NoComparer" : Str) = C)) := by decide +kernel
theorem tK4 : ∀ C ∈ clsX, tabX [("Found", false), ("HabitError", false), ("NoComparer", false), ("NoComparison", false), ("NoFinding", false), ("NoLog", false), ("NoName", false), ("NoNumber", false), ("NoOperation", false), ("NoOption", false), ("NoOwner", false), ("NoPair", true), ("NoShop", false), ("NoText", false), ("NoTool", false), ("NoTree", false), ("NoWorld", false), ("TooMany", false), ("Unsafe", false)] C = some (decide (("NoPair" : Str) = C)) := by decide +kernel
theorem tK5 : ∀ C ∈ clsX, tabX [("Found", false), ("HabitError", false), ("NoComparer", false), ("NoComparison", false), ("NoFinding", false), ("NoLog", false), ("NoName", false), ("NoNumber", false), ("NoOperation", false), ("NoOption", false), ("NoOwner", false), ("NoPair", false), ("NoShop", false), ("NoText", false), ("NoTool", false), ("NoTree", false), ("NoWorld", true), ("TooMany", false), ("Unsafe", false)] C = some (decide (("NoWorld" : Str) = C)) := by decide +kernel
theorem tK6 : ∀ C ∈ clsX, tabX [("Found", false), ("HabitError", false), ("NoComparer", false), ("NoComparison", true), ("NoFinding", false), ("NoLog", false), ("NoName", false), ("NoNumber", false), ("NoOperation", false), ("NoOption", false), ("NoOwner", false), ("NoPair", false), ("NoShop", false), ("NoText", false), ("NoTool", false), ("NoTree", false), ("NoWorld", false), ("TooMany", false), ("Unsafe", false)] C = some (decide (("NoComparison" : Str) = C)) := by decide +kernel
theorem tK7 : ∀ C ∈ clsX, tabX [("Found", false), ("HabitError", false), ("NoComparer", false), ("NoComparison", false), ("NoFinding", true), ("NoLog", false), ("NoName", false), ("NoNumber", false), ("NoOperation", false), ("NoOption", false), ("NoOwner", false), ("NoPair", false), ("NoShop", false), ("NoText", false), ("NoTool", false), ("NoTree", false), ("NoWorld", false), ("TooMany", false), ("Unsafe", false)] C = some (decide (("NoFinding" : Str) = C)) := by decide +kernel
theorem tK8 : ∀ C ∈ clsX, tabX [("Found", false), ("HabitError", false), ("NoComparer", false), ("NoComparison", false), ("NoFinding", false), ("NoLog", false), ("NoName", false), ("NoNumber", false), ("NoOperation", false), ("NoOption", false), ("NoOwner", false), ("NoPair", false), ("NoShop", false), ("NoText", false), ("NoTool", false), ("NoTree", true), ("NoWorld", false), ("TooMany", false), ("Unsafe", false)] C = some (decide (("NoTree" : Str) = C)) := by decide +kernel
theorem tK9 : ∀ C ∈ clsX, tabX [("Found", false), ("HabitError", false), ("NoComparer", false), ("NoComparison", false), ("NoFinding", false), ("NoLog", false), ("NoName", false), ("NoNumber", true), ("NoOperation", false), ("NoOption", false), ("NoOwner", false), ("NoPair", false), ("NoShop", false), ("NoText", false), ("NoTool", false), ("NoTree", false), ("NoWorld", false), ("TooMany", false), ("Unsafe", false)] C = some (decide (("NoNumber" : Str) = C)) := by decide +kernel
theorem tK10 : ∀ C ∈ clsX, tabX [("Found", false), ("HabitError", false), ("NoComparer", false), ("NoComparison", false), ("NoFinding", false), ("NoLog", false), ("NoName", false), ("NoNumber", false), ("NoOperation", false), ("NoOption", true), ("NoOwner", false), ("NoPair", false), ("NoShop", false), ("NoText", false), ("NoTool", false), ("NoTree", false), ("NoWorld", false), ("TooMany", false), ("Unsafe", false)] C = some (decide (("NoOption" : Str) = C)) := by decide +kernel
theorem tK11 : ∀ C ∈ clsX, tabX [("Found", false), ("HabitError", false), ("NoComparer", false), ("NoComparison", false), ("NoFinding", false), ("NoLog", false), ("NoName", false), ("NoNumber", false), ("NoOperation", false), ("NoOption", false), ("NoOwner", true), ("NoPair", false), ("NoShop", false), ("NoText", false), ("NoTool", false), ("NoTree", false), ("NoWorld", false), ("TooMany", false), ("Unsafe", false)] C = some (decide (("NoOwner" : Str) = C)) := by decide +kernel
theorem tK12 : ∀ C ∈ clsX, tabX [("Found", true), ("HabitError", false), ("NoComparer", false), ("NoComparison", false), ("NoFinding", false), ("NoLog", false), ("NoName", false), ("NoNumber", false), ("NoOperation", false), ("NoOption", false), ("NoOwner", false), ("NoPair", false), ("NoShop", false), ("NoText", false), ("NoTool", false), ("NoTree", false), ("NoWorld", false), ("TooMany", false), ("Unsafe", false)] C = some (decide (("Found" : Str) = C)) := by decide +kernel
theorem tK13 : ∀ C ∈ clsX, tabX [("Found", false), ("HabitError", false), ("NoComparer", false), ("NoComparison", false), ("NoFinding", false), ("NoLog", false), ("NoName", false), ("NoNumber", false), ("NoOperation", true), ("NoOption", false), ("NoOwner", false), ("NoPair", false), ("NoShop", false), ("NoText", false), ("NoTool", false), ("NoTree", false), ("NoWorld", false), ("TooMany", false), ("Unsafe", false)] C = some (decide (("NoOperation" : Str) = C)) := by decide +kernel
theorem tK14 : ∀ C ∈ clsX, tabX [("Found", false), ("HabitError", false), ("NoComparer", false), ("NoComparison", false), ("NoFinding", false), ("NoLog", false), ("NoName", false), ("NoNumber", false), ("NoOperation", false), ("NoOption", false), ("NoOwner", false), ("NoPair", false), ("NoShop", false), ("NoText", false), ("NoTool", false), ("NoTree", false), ("NoWorld", false), ("TooMany", true), ("Unsafe", false)] C = some (decide (("TooMany" : Str) = C)) := by decide +kernel
theorem tK15 : ∀ C ∈ clsX, tabX [("Found", false), ("HabitError", false), ("NoComparer", false), ("NoComparison", false), ("NoFinding", false), ("NoLog", false), ("NoName", false), ("NoNumber", false), ("NoOperation", false), ("NoOption", false), ("NoOwner", false), ("NoPair", false), ("NoShop", false), ("NoText", false), ("NoTool", false), ("NoTree", false), ("NoWorld", false), ("TooMany", false), ("Unsafe", true)] C = some (decide (("Unsafe" : Str) = C)) := by decide +kernel
theorem tK16 : ∀ C ∈ clsX, tabX [("Found", false), ("HabitError", false), ("NoComparer", false), ("NoComparison", false), ("NoFinding", false), ("NoLog", true), ("NoName", false), ("NoNumber", false), ("NoOperation", false), ("NoOption", false), ("NoOwner", false), ("NoPair", false), ("NoShop", false), ("NoText", false), ("NoTool", false), ("NoTree", false), ("NoWorld", false), ("TooMany", false), ("Unsafe", false)] C = some (decide (("NoLog" : Str) = C)) := by decide +kernel
theorem tK17 : ∀ C ∈ clsX, tabX [("Found", false), ("HabitError", false), ("NoComparer", false), ("NoComparison", false), ("NoFinding", false), ("NoLog", false), ("NoName", false), ("NoNumber", false), ("NoOperation", false), ("NoOption", false), ("NoOwner", false), ("NoPair", false), ("NoShop", false), ("NoText", true), ("NoTool", false), ("NoTree", false), ("NoWorld", false), ("TooMany", false), ("Unsafe", false)] C = some (decide (("NoText" : Str) = C)) := by decide +kernel
theorem kinds_ok {C : Str} {fs : List (Str × D)} (hC : C ∈ clsX) : ∃ r, F__law_kinds [.exc C fs] = .ok (.mut (.lst ((namX.filter fun n => decide (n = C)).map D.str))) r := by
  have hLn : LINE = 16777216 := sizeLine_eq
  let e : D := .exc C fs
  have t0 := tK0 C hC
  have t1 := tK1 C hC
  have t2 := tK2 C hC
  have t3 := tK3 C hC
  have t4 := tK4 C hC
  have t5 := tK5 C hC
  have t6 := tK6 C hC
  have t7 := tK7 C hC
  have t8 := tK8 C hC
  have t9 := tK9 C hC
  have t10 := tK10 C hC
  have t11 := tK11 C hC
  have t12 := tK12 C hC
  have t13 := tK13 C hC
  have t14 := tK14 C hC
  have t15 := tK15 C hC
  have t16 := tK16 C hC
  have t17 := tK17 C hC
  have c := pComp_map (vs := [2, 3]) (t := .tup [(.name 2), (.name 3)]) (src := (pIterB (pVarB 1))) (tt := (pTest (pVar 3))) (te := (pVar 2)) (ρ := kdF e (kdL C)) (xs := namX) (fun n => D.tup [.str n, .bl (decide (n = C))]) D.str (fun n => decide (n = C)) (by
      have v : pVarB 1 (kdF e (kdL C)) = .ok (.lst (kdL C)) := pVarB_mut rfl (noMutL_of fun d hd => by obtain ⟨_, _, rfl⟩ := List.mem_map.mp hd; rfl)
      unfold pIterB
      rw [v]
      rfl) (by simp [namX, hLn]) fun n hn => ⟨[(2, .str n), (3, .bl (decide (n = C)))], rfl, rfl, fun _ => rfl⟩
  exact ⟨_, runR [some e, none, none, none] ((seq_nx (set_ok (d := .mut (.lst [])) (lift_ok rfl) rfl : (sSet 1 1 (lift (pMut (pLst pNil)))) [some e, none, none, none] = .nx (kdF e []))).trans ((seq_nx (kd_step (kd_isX t0) (by simp))).trans ((seq_nx (kd_step (kd_isX t1) (by simp))).trans ((seq_nx (kd_step (kd_isX t2) (by simp))).trans ((seq_nx (kd_step (kd_isX t3) (by simp))).trans ((seq_nx (kd_step (kd_isX t4) (by simp))).trans ((seq_nx (kd_step (kd_isX t5) (by simp))).trans ((seq_nx (kd_step (kd_isX t6) (by simp))).trans ((seq_nx (kd_step (kd_isX t7) (by simp))).trans ((seq_nx (kd_step (kd_isX t8) (by simp))).trans ((seq_nx (kd_step (kd_isX t9) (by simp))).trans ((seq_nx (kd_step (kd_isX t10) (by simp))).trans ((seq_nx (kd_step (kd_isX t11) (by simp))).trans ((seq_nx (kd_step (kd_isX t12) (by simp))).trans ((seq_nx (kd_step (kd_isX t13) (by simp))).trans ((seq_nx (kd_step (kd_isX t14) (by simp))).trans ((seq_nx (kd_step (kd_isX t15) (by simp))).trans ((seq_nx (kd_step (kd_isX t16) (by simp))).trans ((seq_nx (kd_step (kd_isX t17) (by simp))).trans ((seq_ret (ret_ok (lift_ok (mut_ok c))))))))))))))))))))))))⟩
/-! ### errors made -/
abbrev mdF (x : D) (o : List D) : Rho := [some x, some (.mut (.lst o))]
theorem md_step {x : D} {o : List D} {te : DL.P D} {y : D} (h : te (mdF x o) = .ok y) (hl : o.length < 1000) : (sExpr (mLst 1 (lift (pCons te pNil)) gApp)) (mdF x o) = .nx (mdF x (o ++ [y])) :=
  expr_ok (d := .non) (by
    rw [mLst_ok (i := 1) (o := o) (ds := o) (xs := [y]) (es := o ++ [y]) rfl (lift_ok (pCons_ok h rfl)) rfl (app_1000 hl)]
    rfl)
theorem mkN_ok {n : Str} {o : List D} {x : D} : (pTup (pCons (pC (.str n)) (pCons (pMakeX (fun _ => .ok (n, []))) (pCons (pC .non) pNil)))) (mdF x o) = .ok (.tup [.str n, .exc n [], .non]) := pTup_ok (pCons_ok rfl (pCons_ok rfl (pCons_ok rfl rfl))) (show 3 ≤ 100 by decide)
theorem mkK_ok {n f : Str} {o : List D} {x : D} (m : isMut x = false) : (pTup (pCons (pC (.str n)) (pCons (pMakeX (pMkK n f (pCons (pVar 0) pNil))) (pCons (pVar 0) pNil)))) (mdF x o) = .ok (.tup [.str n, .exc n [(f, x)], x]) := by
  have v : pVar 0 (mdF x o) = .ok x := pVar_at (d := x) rfl m
  have e : pMakeX (pMkK n f (pCons (pVar 0) pNil)) (mdF x o) = .ok (.exc n [(f, x)]) := by
    unfold pMakeX pMkK
    rw [pCons_ok v rfl]
  exact pTup_ok (pCons_ok rfl (pCons_ok e (pCons_ok v rfl))) (show 3 ≤ 100 by decide)
theorem mk1_ok {n f : Str} {ρ : Rho} {x : D} (h : ρ[0]? = some (some x)) (m : isMut x = false) : (pTup (pCons (pC (.str n)) (pCons (pMakeX (pMk1 n f (pVar 0))) pNil))) ρ = .ok (.tup [.str n, .exc n [(f, x)]]) := by
  have v : pVar 0 ρ = .ok x := pVar_at (d := x) h m
  have e : pMakeX (pMk1 n f (pVar 0)) ρ = .ok (.exc n [(f, x)]) := by
    unfold pMakeX pMk1
    rw [v]
  exact pTup_ok (pCons_ok rfl (pCons_ok e rfl)) (show 2 ≤ 100 by decide)
def madeX (x : D) : List D := [.tup [.str "NoShop", .exc "NoShop" [], .non], .tup [.str "NoName", .exc "NoName" [("name", x)], x], .tup [.str "NoTool", .exc "NoTool" [], .non], .tup [.str "NoComparer", .exc "NoComparer" [], .non], .tup [.str "NoPair", .exc "NoPair" [], .non], .tup [.str "NoWorld", .exc "NoWorld" [], .non], .tup [.str "NoComparison", .exc "NoComparison" [("index", x)], x], .tup [.str "NoFinding", .exc "NoFinding" [("index", x)], x], .tup [.str "NoTree", .exc "NoTree" [], .non], .tup [.str "NoNumber", .exc "NoNumber" [], .non], .tup [.str "NoOption", .exc "NoOption" [], .non], .tup [.str "NoOwner", .exc "NoOwner" [("owner", x)], x], .tup [.str "Found", .exc "Found" [("owner", x)], x], .tup [.str "NoOperation", .exc "NoOperation" [], .non], .tup [.str "TooMany", .exc "TooMany" [("limit", x)], x], .tup [.str "Unsafe", .exc "Unsafe" [("tool", x)], x], .tup [.str "NoLog", .exc "NoLog" [("index", x)], x], .tup [.str "NoText", .exc "NoText" [("row", x)], x]]
theorem made_ok {x : D} (m : isMut x = false) : ∃ r, F__law_made [x] = .ok (.mut (.lst (madeX x))) r :=
  ⟨_, runR [some x, none] ((seq_nx (set_ok (d := .mut (.lst [])) (lift_ok rfl) rfl : (sSet 1 1 (lift (pMut (pLst pNil)))) [some x, none] = .nx (mdF x []))).trans ((seq_nx (md_step (mkN_ok) (by simp))).trans ((seq_nx (md_step (mkK_ok m) (by simp))).trans ((seq_nx (md_step (mkN_ok) (by simp))).trans ((seq_nx (md_step (mkN_ok) (by simp))).trans ((seq_nx (md_step (mkN_ok) (by simp))).trans ((seq_nx (md_step (mkN_ok) (by simp))).trans ((seq_nx (md_step (mkK_ok m) (by simp))).trans ((seq_nx (md_step (mkK_ok m) (by simp))).trans ((seq_nx (md_step (mkN_ok) (by simp))).trans ((seq_nx (md_step (mkN_ok) (by simp))).trans ((seq_nx (md_step (mkN_ok) (by simp))).trans ((seq_nx (md_step (mkK_ok m) (by simp))).trans ((seq_nx (md_step (mkK_ok m) (by simp))).trans ((seq_nx (md_step (mkN_ok) (by simp))).trans ((seq_nx (md_step (mkK_ok m) (by simp))).trans ((seq_nx (md_step (mkK_ok m) (by simp))).trans ((seq_nx (md_step (mkK_ok m) (by simp))).trans ((seq_nx (md_step (mkK_ok m) (by simp))).trans ((seq_ret (d := .mut (.lst (madeX x))) rfl)))))))))))))))))))))⟩
def posX (x : D) : List D := [.tup [.str "NoName", .exc "NoName" [("name", x)]], .tup [.str "NoComparison", .exc "NoComparison" [("index", x)]], .tup [.str "NoFinding", .exc "NoFinding" [("index", x)]], .tup [.str "NoOwner", .exc "NoOwner" [("owner", x)]], .tup [.str "Found", .exc "Found" [("owner", x)]], .tup [.str "TooMany", .exc "TooMany" [("limit", x)]], .tup [.str "Unsafe", .exc "Unsafe" [("tool", x)]], .tup [.str "NoLog", .exc "NoLog" [("index", x)]], .tup [.str "NoText", .exc "NoText" [("row", x)]]]
theorem pos_ok {x : D} (m : isMut x = false) (th : thaw x = x) : ∃ r, F__law_by_position [x] = .ok (.lst (posX x)) r := by
  have e1 : (sSet 1 1 (lift (pTh (pMut (pLst (pCons (pTup (pCons (pC (.str "NoName")) (pCons (pMakeX (pMk1 "NoName" "name" (pVar 0))) pNil))) (pCons (pTup (pCons (pC (.str "NoComparison")) (pCons (pMakeX (pMk1 "NoComparison" "index" (pVar 0))) pNil))) (pCons (pTup (pCons (pC (.str "NoFinding")) (pCons (pMakeX (pMk1 "NoFinding" "index" (pVar 0))) pNil))) pNil)))))))) [some x, none] = .nx [some x, some (.lst ((posX x).take 3))] := set_ok (lift_ok (lstQ_ok (xs := (posX x).take 3) (pCons_ok (mk1_ok rfl m) (pCons_ok (mk1_ok rfl m) (pCons_ok (mk1_ok rfl m) rfl))) (by simp [posX]) rfl)) rfl
  have e2 : (sSet 1 1 (lift (pOp addD (pVarB 1) (pTh (pMut (pLst (pCons (pTup (pCons (pC (.str "NoOwner")) (pCons (pMakeX (pMk1 "NoOwner" "owner" (pVar 0))) pNil))) (pCons (pTup (pCons (pC (.str "Found")) (pCons (pMakeX (pMk1 "Found" "owner" (pVar 0))) pNil))) (pCons (pTup (pCons (pC (.str "TooMany")) (pCons (pMakeX (pMk1 "TooMany" "limit" (pVar 0))) pNil))) pNil))))))))) [some x, some (.lst ((posX x).take 3))] = .nx [some x, some (.lst ((posX x).take 6))] := set_ok (lift_ok (pOp_ok (x := .lst ((posX x).take 3)) (y := .lst (((posX x).drop 3).take 3)) rfl (lstQ_ok (xs := ((posX x).drop 3).take 3) (pCons_ok (mk1_ok rfl m) (pCons_ok (mk1_ok rfl m) (pCons_ok (mk1_ok rfl m) rfl))) (by simp [posX]) rfl) (addL_ok (by simp [posX])))) rfl
  have e3 : (pOp addD (pVarB 1) (pTh (pMut (pLst (pCons (pTup (pCons (pC (.str "Unsafe")) (pCons (pMakeX (pMk1 "Unsafe" "tool" (pVar 0))) pNil))) (pCons (pTup (pCons (pC (.str "NoLog")) (pCons (pMakeX (pMk1 "NoLog" "index" (pVar 0))) pNil))) (pCons (pTup (pCons (pC (.str "NoText")) (pCons (pMakeX (pMk1 "NoText" "row" (pVar 0))) pNil))) pNil))))))) [some x, some (.lst ((posX x).take 6))] = .ok (.lst (posX x)) := pOp_ok (x := .lst ((posX x).take 6)) (y := .lst ((posX x).drop 6)) rfl (lstQ_ok (xs := (posX x).drop 6) (pCons_ok (mk1_ok rfl m) (pCons_ok (mk1_ok rfl m) (pCons_ok (mk1_ok rfl m) rfl))) (by simp [posX]) rfl) (addL_ok (by simp [posX]))
  exact ⟨_, runR [some x, none] ((seq_nx e1).trans ((seq_nx e2).trans (seq_ret (ret_ok (lift_ok e3)))))⟩
end DL
namespace DL
open PySem PySem.Spec PyProof.Rows L2
variable [TheW]
/-! ### the things that the fields hold -/
structure Th24 (x : D) : Prop where
  pl : plain x = true
  m : isMut x = false
  r : ∃ u, reprD1 [x] = .ok (.str u)
theorem rep24 {d : D} {p : PyData} (e : reprD1 [d] = reprD [d]) (h : pyD d = some p) (h1 : p.showable = true) (h2 : p.depth ≤ 60) (h3 : p.shown.length ≤ 1000) : ∃ u, reprD1 [d] = .ok (.str u) := by
  have hL : LINE = 16777216 := sizeLine_eq
  refine ⟨p.shown, ?_⟩
  rw [e]
  show (match pyD d with
    | some p => if reprOk p = true then Res.ok (D.str p.shown) else .stuck
    | none => .stuck) = _
  rw [h]
  have ok : reprOk p = true := by
    unfold reprOk
    rw [h1]
    simp only [Bool.true_and, Bool.and_eq_true, decide_eq_true_eq]
    exact ⟨h2, by omega⟩
  simp only []
  rw [if_pos ok]
theorem int24 : ∀ i : Fin 1000, (PyData.int (i.1 : Int)).showable = true ∧ (PyData.int (i.1 : Int)).shown.length ≤ 1000 := by decide +kernel
def thX (v : Nat) : List D := [.int 0, .int 7, .int (-1), .int (10 ^ 20), .str "a", .str "", .non, .bl true, .tup [.int 0, .tup [.str "lib"]], .lst [.int 1, .int 2], .dict [(.str "a", .int 1)], .int (v : Nat)]
theorem th24 {v : Nat} (hv : v < 1000) : ∀ x ∈ thX v, Th24 x := fun x hx => by
  have hL : LINE = 16777216 := sizeLine_eq
  simp only [thX, List.mem_cons, List.not_mem_nil, or_false] at hx
  rcases hx with rfl | rfl | rfl | rfl | rfl | rfl | rfl | rfl | rfl | rfl | rfl | rfl
  · exact ⟨rfl, rfl, rep24 (p := .int 0) rfl rfl (by decide +kernel) (by decide +kernel) (by decide +kernel)⟩
  · exact ⟨rfl, rfl, rep24 (p := .int 7) rfl rfl (by decide +kernel) (by decide +kernel) (by decide +kernel)⟩
  · exact ⟨rfl, rfl, rep24 (p := .int (-1)) rfl rfl (by decide +kernel) (by decide +kernel) (by decide +kernel)⟩
  · exact ⟨rfl, rfl, rep24 (p := .int (10 ^ 20)) rfl rfl (by decide +kernel) (by decide +kernel) (by decide +kernel)⟩
  · exact ⟨rfl, rfl, rep24 (p := .str "a") rfl rfl (by decide +kernel) (by decide +kernel) (by decide +kernel)⟩
  · exact ⟨rfl, rfl, rep24 (p := .str "") rfl rfl (by decide +kernel) (by decide +kernel) (by decide +kernel)⟩
  · exact ⟨rfl, rfl, rep24 (p := .none) rfl rfl (by decide +kernel) (by decide +kernel) (by decide +kernel)⟩
  · exact ⟨rfl, rfl, rep24 (p := .bool true) rfl rfl (by decide +kernel) (by decide +kernel) (by decide +kernel)⟩
  · exact ⟨rfl, rfl, rep24 (p := .tuple [.int 0, .tuple [.str "lib"]]) rfl rfl (by decide +kernel) (by decide +kernel) (by decide +kernel)⟩
  · exact ⟨rfl, rfl, rep24 (p := .list [.int 1, .int 2]) rfl rfl (by decide +kernel) (by decide +kernel) (by decide +kernel)⟩
  · refine ⟨rfl, rfl, (PyData.dict [(.str "a", .int 1)]).shown, ?_⟩
    show (if okDict1 "a" 1 = true then Res.ok (D.str _) else .stuck) = _
    rw [if_pos]
    have h : (PyData.dict [(.str "a", .int 1)]).shown.length ≤ 1000 := by decide +kernel
    unfold okDict1
    rw [Bool.and_eq_true, decide_eq_true_iff]
    exact ⟨by decide +kernel, by omega⟩
  · exact ⟨rfl, rfl, rep24 (p := .int (v : Nat)) rfl rfl (int24 ⟨v, hv⟩).1 (by simp [PyData.depth]) (int24 ⟨v, hv⟩).2⟩
/-! ### the fields -/
def Made (d : D) : Prop := ∃ (C : Str) (fs : List (Str × D)) (due : D), d = .tup [.str C, .exc C fs, due] ∧ C ∈ namX ∧ C ∈ clsX ∧ (∃ r, F__law_field [.str C, .exc C fs] = .ok due r) ∧ Th24 due
def Posn (x d : D) : Prop := ∃ (C : Str) (fs : List (Str × D)), d = .tup [.str C, .exc C fs] ∧ ∃ r, F__law_field [.str C, .exc C fs] = .ok x r
theorem non24 : Th24 .non := ⟨rfl, rfl, rep24 (p := .none) rfl rfl (by decide +kernel) (by decide +kernel) (by decide +kernel)⟩
theorem made24 {x : D} (h : Th24 x) : ∀ d ∈ madeX x, Made d := fun d hd => by
  simp only [madeX, List.mem_cons, List.not_mem_nil, or_false] at hd
  rcases hd with rfl | rfl | rfl | rfl | rfl | rfl | rfl | rfl | rfl | rfl | rfl | rfl | rfl | rfl | rfl | rfl | rfl | rfl
  · exact ⟨_, _, _, rfl, by decide +kernel, by decide +kernel, ⟨_, rfl⟩, non24⟩
  · exact ⟨_, _, _, rfl, by decide +kernel, by decide +kernel, ⟨_, rfl⟩, h⟩
  · exact ⟨_, _, _, rfl, by decide +kernel, by decide +kernel, ⟨_, rfl⟩, non24⟩
  · exact ⟨_, _, _, rfl, by decide +kernel, by decide +kernel, ⟨_, rfl⟩, non24⟩
  · exact ⟨_, _, _, rfl, by decide +kernel, by decide +kernel, ⟨_, rfl⟩, non24⟩
  · exact ⟨_, _, _, rfl, by decide +kernel, by decide +kernel, ⟨_, rfl⟩, non24⟩
  · exact ⟨_, _, _, rfl, by decide +kernel, by decide +kernel, ⟨_, rfl⟩, h⟩
  · exact ⟨_, _, _, rfl, by decide +kernel, by decide +kernel, ⟨_, rfl⟩, h⟩
  · exact ⟨_, _, _, rfl, by decide +kernel, by decide +kernel, ⟨_, rfl⟩, non24⟩
  · exact ⟨_, _, _, rfl, by decide +kernel, by decide +kernel, ⟨_, rfl⟩, non24⟩
  · exact ⟨_, _, _, rfl, by decide +kernel, by decide +kernel, ⟨_, rfl⟩, non24⟩
  · exact ⟨_, _, _, rfl, by decide +kernel, by decide +kernel, ⟨_, rfl⟩, h⟩
  · exact ⟨_, _, _, rfl, by decide +kernel, by decide +kernel, ⟨_, rfl⟩, h⟩
  · exact ⟨_, _, _, rfl, by decide +kernel, by decide +kernel, ⟨_, rfl⟩, non24⟩
  · exact ⟨_, _, _, rfl, by decide +kernel, by decide +kernel, ⟨_, rfl⟩, h⟩
  · exact ⟨_, _, _, rfl, by decide +kernel, by decide +kernel, ⟨_, rfl⟩, h⟩
  · exact ⟨_, _, _, rfl, by decide +kernel, by decide +kernel, ⟨_, rfl⟩, h⟩
  · exact ⟨_, _, _, rfl, by decide +kernel, by decide +kernel, ⟨_, rfl⟩, h⟩
theorem pos24 {x : D} : ∀ d ∈ posX x, Posn x d := fun d hd => by
  simp only [posX, List.mem_cons, List.not_mem_nil, or_false] at hd
  rcases hd with rfl | rfl | rfl | rfl | rfl | rfl | rfl | rfl | rfl <;> exact ⟨_, _, rfl, _, rfl⟩
/-! ### the law -/
abbrev twF (sc s : D) (x2 x3 x4 x5 x6 x7 x8 : Option D) : Rho := [some sc, some (.mut s), x2, x3, x4, x5, x6, x7, x8]
noncomputable def twA : DL.S := (sSeq (sIf (lift (pOr (pNot (pTest (pUn (isXD [("Found", true), ("HabitError", true), ("NoComparer", true), ("NoComparison", true), ("NoFinding", true), ("NoLog", true), ("NoName", true), ("NoNumber", true), ("NoOperation", true), ("NoOption", true), ("NoOwner", true), ("NoPair", true), ("NoShop", true), ("NoText", true), ("NoTool", true), ("NoTree", true), ("NoWorld", true), ("TooMany", true), ("Unsafe", true)]) (pVar 7)))) (pNot (pTest (pUn (isXD [("Found", true), ("HabitError", true), ("NoComparer", true), ("NoComparison", true), ("NoFinding", true), ("NoLog", true), ("NoName", true), ("NoNumber", true), ("NoOperation", true), ("NoOption", true), ("NoOwner", true), ("NoPair", true), ("NoShop", true), ("NoText", true), ("NoTool", true), ("NoTree", true), ("NoWorld", true), ("TooMany", true), ("Unsafe", true)]) (pVar 7)))))) (sSeq (sRet (lift (pC (.bl false)))) sNext) sNext) (sSeq (sIf (lift (pOr (pTest (pOp neR (pTh (pCallF 1 F__law_kinds (pCons (pVar 7) pNil))) (pTh (pMut (pLst (pCons (pVar 6) pNil)))))) (pTest (pOp neR (pCallL reprD1 (pCons (pTh (pCallF 2 F__law_field (pCons (pVar 6) (pCons (pVar 7) pNil)))) pNil)) (pCallL reprD1 (pCons (pVarB 8) pNil)))))) (sSeq (sRet (lift (pC (.bl false)))) sNext) sNext) sNext))
noncomputable def twC : DL.S := (sSeq (sIf (lift (pTest (pOp neR (pCallL reprD1 (pCons (pTh (pCallF 2 F__law_field (pCons (pVar 6) (pCons (pVar 7) pNil)))) pNil)) (pCallL reprD1 (pCons (pVarB 5) pNil))))) (sSeq (sRet (lift (pC (.bl false)))) sNext) sNext) sNext)
noncomputable def twB : DL.S := (sSeq (sSet 1 4 (mTh (mLstE (mCons (lift (pC (.int 0))) (mCons (lift (pC (.int 7))) (mCons (lift (pUn negD (pC (.int 1)))) (mCons (lift (pOp powD (pC (.int 10)) (pC (.int 20)))) (mCons (lift (pC (.str "a"))) (mCons (lift (pC (.str ""))) (mCons (lift (pC .non)) (mCons (lift (pC (.bl true))) (mCons (lift (pTup (pCons (pC (.int 0)) (pCons (pTup (pCons (pC (.str "lib")) pNil)) pNil)))) (mCons (lift (pTh (pMut (pLst (pCons (pC (.int 1)) (pCons (pC (.int 2)) pNil)))))) (mCons (lift (pTh (pMut (pDisp [((pC (.str "a")), (pC (.int 1)))])))) (mCons (mTh (mCall F__law_take 2 (mSlot 1 (mVal (lift (pC (.int 1000))) mNil)))) (fun ρ => .ok [] ρ)))))))))))))))) (sSeq (sSet 1 5 (mTh (mCall F__law_pick 2 (mSlot 1 (mSlot 4 mNil))))) (sSeq (sFor (lift (pIter (pTh (pCallF 1 F__law_made (pCons (pVar 5) pNil))))) (.tup [(.name 6), (.name 7), (.name 8)]) (sSeq (sIf (lift (pOr (pNot (pTest (pUn (isXD [("Found", true), ("HabitError", true), ("NoComparer", true), ("NoComparison", true), ("NoFinding", true), ("NoLog", true), ("NoName", true), ("NoNumber", true), ("NoOperation", true), ("NoOption", true), ("NoOwner", true), ("NoPair", true), ("NoShop", true), ("NoText", true), ("NoTool", true), ("NoTree", true), ("NoWorld", true), ("TooMany", true), ("Unsafe", true)]) (pVar 7)))) (pNot (pTest (pUn (isXD [("Found", true), ("HabitError", true), ("NoComparer", true), ("NoComparison", true), ("NoFinding", true), ("NoLog", true), ("NoName", true), ("NoNumber", true), ("NoOperation", true), ("NoOption", true), ("NoOwner", true), ("NoPair", true), ("NoShop", true), ("NoText", true), ("NoTool", true), ("NoTree", true), ("NoWorld", true), ("TooMany", true), ("Unsafe", true)]) (pVar 7)))))) (sSeq (sRet (lift (pC (.bl false)))) sNext) sNext) (sSeq (sIf (lift (pOr (pTest (pOp neR (pTh (pCallF 1 F__law_kinds (pCons (pVar 7) pNil))) (pTh (pMut (pLst (pCons (pVar 6) pNil)))))) (pTest (pOp neR (pCallL reprD1 (pCons (pTh (pCallF 2 F__law_field (pCons (pVar 6) (pCons (pVar 7) pNil)))) pNil)) (pCallL reprD1 (pCons (pVarB 8) pNil)))))) (sSeq (sRet (lift (pC (.bl false)))) sNext) sNext) sNext))) (sSeq (sFor (lift (pIter (pTh (pCallF 1 F__law_by_position (pCons (pVar 5) pNil))))) (.tup [(.name 6), (.name 7)]) (sSeq (sIf (lift (pTest (pOp neR (pCallL reprD1 (pCons (pTh (pCallF 2 F__law_field (pCons (pVar 6) (pCons (pVar 7) pNil)))) pNil)) (pCallL reprD1 (pCons (pVarB 5) pNil))))) (sSeq (sRet (lift (pC (.bl false)))) sNext) sNext) sNext)) sNext))))
theorem law24_eq : S_law = (sSeq (sSet 1 1 (lift (pCallF 1 F__law_begun (pCons (pVar 0) pNil)))) (sSeq (sFor (lift (pRange1 (pCons (pC (.int 2)) pNil))) (.name 2) twB) (sSeq (sSet 1 3 (lift (pMakeX (fun _ => .ok ("HabitError", []))))) (sSeq (sRet (lift (pAndT (pUn (isXD [("Found", true), ("HabitError", true), ("NoComparer", true), ("NoComparison", true), ("NoFinding", true), ("NoLog", true), ("NoName", true), ("NoNumber", true), ("NoOperation", true), ("NoOption", true), ("NoOwner", true), ("NoPair", true), ("NoShop", true), ("NoText", true), ("NoTool", true), ("NoTree", true), ("NoWorld", true), ("TooMany", true), ("Unsafe", true)]) (pVar 3)) (pOp eqR (pTh (pCallF 1 F__law_kinds (pCons (pVar 3) pNil))) (pTh (pMut (pLst pNil))))))) sNext)))) := rfl
theorem hab : ∀ C ∈ clsX, tabX [("Found", true), ("HabitError", true), ("NoComparer", true), ("NoComparison", true), ("NoFinding", true), ("NoLog", true), ("NoName", true), ("NoNumber", true), ("NoOperation", true), ("NoOption", true), ("NoOwner", true), ("NoPair", true), ("NoShop", true), ("NoText", true), ("NoTool", true), ("NoTree", true), ("NoWorld", true), ("TooMany", true), ("Unsafe", true)] C = some true := by decide +kernel
theorem one24 : ∀ C ∈ namX, (namX.filter fun n => decide (n = C)) = [C] := by decide +kernel
theorem isX_ok {C : Str} {fs : List (Str × D)} {i : Nat} {ρ : Rho} (hC : C ∈ clsX) (h : ρ[i]? = some (some (.exc C fs))) : pUn (isXD [("Found", true), ("HabitError", true), ("NoComparer", true), ("NoComparison", true), ("NoFinding", true), ("NoLog", true), ("NoName", true), ("NoNumber", true), ("NoOperation", true), ("NoOption", true), ("NoOwner", true), ("NoPair", true), ("NoShop", true), ("NoText", true), ("NoTool", true), ("NoTree", true), ("NoWorld", true), ("TooMany", true), ("Unsafe", true)]) (pVar i) ρ = .ok (.bl true) := by
  have v : pVar i ρ = .ok (.exc C fs) := pVar_at (d := .exc C fs) h rfl
  rw [pUn_eq, v]
  show (match tabX [("Found", true), ("HabitError", true), ("NoComparer", true), ("NoComparison", true), ("NoFinding", true), ("NoLog", true), ("NoName", true), ("NoNumber", true), ("NoOperation", true), ("NoOption", true), ("NoOwner", true), ("NoPair", true), ("NoShop", true), ("NoText", true), ("NoTool", true), ("NoTree", true), ("NoWorld", true), ("TooMany", true), ("Unsafe", true)] C with | some b => Res.ok (D.bl b) | none => .stuck) = _
  rw [hab C hC]
variable {sc s : D} {x2 x3 x4 x6 x7 x8 : Option D} {x d : D}
theorem twA_ok {C : Str} {fs : List (Str × D)} {due : D} (hn : C ∈ namX) (hC : C ∈ clsX) (hf : ∃ r, F__law_field [.str C, .exc C fs] = .ok due r) (h : Th24 due) {x5 : Option D} : twA (twF sc s x2 x3 x4 x5 (some (.str C)) (some (.exc C fs)) (some due)) = .nx (twF sc s x2 x3 x4 x5 (some (.str C)) (some (.exc C fs)) (some due)) := by
  obtain ⟨r1, e1⟩ := kinds_ok (fs := fs) hC
  rw [one24 C hn] at e1
  obtain ⟨r2, e2⟩ := hf
  obtain ⟨u, eu⟩ := h.r
  have k : pTh (pCallF 1 F__law_kinds (pCons (pVar 7) pNil)) (twF sc s x2 x3 x4 x5 (some (.str C)) (some (.exc C fs)) (some due)) = .ok (.lst [.str C]) := callT_ok (n := 1) (F := F__law_kinds) (ds := [.exc C fs]) rfl rfl e1 rfl
  have w : pTh (pMut (pLst (pCons (pVar 6) pNil))) (twF sc s x2 x3 x4 x5 (some (.str C)) (some (.exc C fs)) (some due)) = .ok (.lst [.str C]) := lstQ_ok (xs := [.str C]) rfl (by simp) rfl
  have f : pTh (pCallF 2 F__law_field (pCons (pVar 6) (pCons (pVar 7) pNil))) (twF sc s x2 x3 x4 x5 (some (.str C)) (some (.exc C fs)) (some due)) = .ok due := callT_ok (n := 2) (F := F__law_field) (ds := [.str C, .exc C fs]) rfl rfl e2 (thaw_pl h.pl)
  refine (seq_nx (if_f (lift_ok (pOr_f (pNot_ok (b := true) (pTest_ok (isX_ok hC rfl))) (pNot_ok (b := true) (pTest_ok (isX_ok hC rfl))))) rfl)).trans ((seq_nx (if_f (lift_ok (pOr_f (pTest_ok (pOp_ok k w (ne_self2 rfl (show (1 : Nat) ≤ 60 by decide)))) (pTest_ok (pOp_ok (x := .str u) (y := .str u) (callL_ok (pCons_ok f rfl) eu) (callL_ok (pCons_ok (pVarB_at (d := due) rfl h.m) rfl) eu) (ne_strR u))))) rfl)).trans rfl)
theorem twC_ok {C : Str} {fs : List (Str × D)} (hf : ∃ r, F__law_field [.str C, .exc C fs] = .ok x r) (h : Th24 x) : twC (twF sc s x2 x3 x4 (some x) (some (.str C)) (some (.exc C fs)) x8) = .nx (twF sc s x2 x3 x4 (some x) (some (.str C)) (some (.exc C fs)) x8) := by
  obtain ⟨r2, e2⟩ := hf
  obtain ⟨u, eu⟩ := h.r
  have f : pTh (pCallF 2 F__law_field (pCons (pVar 6) (pCons (pVar 7) pNil))) (twF sc s x2 x3 x4 (some x) (some (.str C)) (some (.exc C fs)) x8) = .ok x := callT_ok (n := 2) (F := F__law_field) (ds := [.str C, .exc C fs]) rfl rfl e2 (thaw_pl h.pl)
  exact (seq_nx (if_f (lift_ok (pTest_ok (pOp_ok (x := .str u) (y := .str u) (callL_ok (pCons_ok f rfl) eu) (callL_ok (pCons_ok (pVarB_at (d := x) rfl h.m) rfl) eu) (ne_strR u)))) rfl)).trans rfl
theorem thaw_made (h : thaw x = x) : thaw (.mut (.lst (madeX x))) = .lst (madeX x) := by
  show D.lst (thawL (madeX x)) = _
  simp [madeX, thawL, thaw, h]
theorem thaw_pos (h : thaw x = x) : thaw (.lst (posX x)) = .lst (posX x) := by
  show D.lst (thawL (posX x)) = _
  simp [posX, thawL, thaw, h]
theorem twB_ok {b : Nat} (h : St (b + 10) s) {x5 : Option D} : ∃ (s' : D) (y4 y5 y6 y7 y8 : Option D), St b s' ∧ twB (twF sc s x2 x3 x4 x5 x6 x7 x8) = .nx (twF sc s' x2 x3 y4 y5 y6 y7 y8) := by
  have hL : LINE = 16777216 := sizeLine_eq
  obtain ⟨v, s1, hv, h1, e1⟩ := take_m (ρ := twF sc s x2 x3 x4 x5 x6 x7 x8) (i := 1) (n := 1000) (f := lift (pC (.int 1000))) (b := b + 9) h rfl (lift_ok rfl) (by decide) (by decide)
  have T := th24 hv
  have l1 : (mTh (mLstE (mCons (lift (pC (.int 0))) (mCons (lift (pC (.int 7))) (mCons (lift (pUn negD (pC (.int 1)))) (mCons (lift (pOp powD (pC (.int 10)) (pC (.int 20)))) (mCons (lift (pC (.str "a"))) (mCons (lift (pC (.str ""))) (mCons (lift (pC .non)) (mCons (lift (pC (.bl true))) (mCons (lift (pTup (pCons (pC (.int 0)) (pCons (pTup (pCons (pC (.str "lib")) pNil)) pNil)))) (mCons (lift (pTh (pMut (pLst (pCons (pC (.int 1)) (pCons (pC (.int 2)) pNil)))))) (mCons (lift (pTh (pMut (pDisp [((pC (.str "a")), (pC (.int 1)))])))) (mCons (mTh (mCall F__law_take 2 (mSlot 1 (mVal (lift (pC (.int 1000))) mNil)))) (fun ρ => .ok [] ρ))))))))))))))) (twF sc s x2 x3 x4 x5 x6 x7 x8) = .ok (.lst (thX v)) (twF sc s1 x2 x3 x4 x5 x6 x7 x8) := by
    refine mTh_ok (x := .mut (.lst (thX v))) ?_ (thaw_mlst fun d hd => (T d hd).pl)
    unfold mLstE
    rw [show (mCons (lift (pC (.int 0))) (mCons (lift (pC (.int 7))) (mCons (lift (pUn negD (pC (.int 1)))) (mCons (lift (pOp powD (pC (.int 10)) (pC (.int 20)))) (mCons (lift (pC (.str "a"))) (mCons (lift (pC (.str ""))) (mCons (lift (pC .non)) (mCons (lift (pC (.bl true))) (mCons (lift (pTup (pCons (pC (.int 0)) (pCons (pTup (pCons (pC (.str "lib")) pNil)) pNil)))) (mCons (lift (pTh (pMut (pLst (pCons (pC (.int 1)) (pCons (pC (.int 2)) pNil)))))) (mCons (lift (pTh (pMut (pDisp [((pC (.str "a")), (pC (.int 1)))])))) (mCons (mTh (mCall F__law_take 2 (mSlot 1 (mVal (lift (pC (.int 1000))) mNil)))) (fun ρ => .ok [] ρ))))))))))))) (twF sc s x2 x3 x4 x5 x6 x7 x8) = .ok (thX v) (twF sc s1 x2 x3 x4 x5 x6 x7 x8) from
      mCons_ok (lift_ok rfl) (mCons_ok (lift_ok rfl) (mCons_ok (lift_ok rfl) (mCons_ok (lift_ok rfl) (mCons_ok (lift_ok rfl) (mCons_ok (lift_ok rfl) (mCons_ok (lift_ok rfl) (mCons_ok (lift_ok rfl) (mCons_ok (lift_ok (pTup_ok (pCons_ok rfl (pCons_ok (pTup_ok (pCons_ok rfl rfl) (show 1 ≤ 100 by decide)) rfl)) (show 2 ≤ 100 by decide))) (mCons_ok (lift_ok (lstQ_ok (xs := [.int 1, .int 2]) rfl (by simp) rfl)) (mCons_ok (lift_ok rfl) (mCons_ok e1 rfl)))))))))))]
    show (if (thX v).length ≤ LINE then Out.ok (D.mut (.lst (thX v))) (twF sc s1 x2 x3 x4 x5 x6 x7 x8) else .stuck) = _
    rw [if_pos (by simp [thX, hL])]
  have st1 : sSet 1 4 (mTh (mLstE (mCons (lift (pC (.int 0))) (mCons (lift (pC (.int 7))) (mCons (lift (pUn negD (pC (.int 1)))) (mCons (lift (pOp powD (pC (.int 10)) (pC (.int 20)))) (mCons (lift (pC (.str "a"))) (mCons (lift (pC (.str ""))) (mCons (lift (pC .non)) (mCons (lift (pC (.bl true))) (mCons (lift (pTup (pCons (pC (.int 0)) (pCons (pTup (pCons (pC (.str "lib")) pNil)) pNil)))) (mCons (lift (pTh (pMut (pLst (pCons (pC (.int 1)) (pCons (pC (.int 2)) pNil)))))) (mCons (lift (pTh (pMut (pDisp [((pC (.str "a")), (pC (.int 1)))])))) (mCons (mTh (mCall F__law_take 2 (mSlot 1 (mVal (lift (pC (.int 1000))) mNil)))) (fun ρ => .ok [] ρ))))))))))))))) (twF sc s x2 x3 x4 x5 x6 x7 x8) = .nx (twF sc s1 x2 x3 (some (.lst (thX v))) x5 x6 x7 x8) := set_ok l1 rfl
  obtain ⟨x, s2, hx, h2, e2⟩ := pick_s (ρ := twF sc s1 x2 x3 (some (.lst (thX v))) x5 x6 x7 x8) (i := 1) (j := 4) (xs := thX v) (b := b + 8) h1 rfl rfl (by decide) (by simp [thX]) (by simp [thX]) fun d hd => thaw_pl (T d hd).pl
  have X := T x hx
  have tx : thaw x = x := thaw_pl X.pl
  have st2 : sSet 1 5 (mTh (mCall F__law_pick 2 (mSlot 1 (mSlot 4 mNil)))) (twF sc s1 x2 x3 (some (.lst (thX v))) x5 x6 x7 x8) = .nx (twF sc s2 x2 x3 (some (.lst (thX v))) (some x) x6 x7 x8) := set_ok e2 (by rw [X.m]; rfl)
  obtain ⟨r1, e3⟩ := made_ok X.m
  obtain ⟨r2, e4⟩ := pos_ok X.m tx
  let F : Option D → Option D → Option D → Rho := fun x6 x7 x8 => twF sc s2 x2 x3 (some (.lst (thX v))) (some x) x6 x7 x8
  have src1 : (pIter (pTh (pCallF 1 F__law_made (pCons (pVar 5) pNil)))) (F x6 x7 x8) = .ok (madeX x) := by
    rw [pIter_eq, callT_ok (n := 1) (F := F__law_made) (ds := [x]) (pCons_ok (pVar_at (d := x) rfl X.m) rfl) rfl e3 (thaw_made tx)]
    rfl
  obtain ⟨ρ1, el1, y6, y7, y8, rfl⟩ := loop_nx (t := .tup [(.name 6), (.name 7), (.name 8)]) (b := twA) (ds := madeX x) (fun _ ρ => ∃ y6 y7 y8, ρ = F y6 y7 y8) (ρ := F x6 x7 x8) ⟨x6, x7, x8, rfl⟩ (by
    rintro d r ρ hd ⟨y6, y7, y8, rfl⟩
    obtain ⟨C, fs, due, rfl, a, b, c, e⟩ := made24 X d hd
    exact ⟨[(6, .str C), (7, .exc C fs), (8, due)], rfl, _, .inl (twA_ok a b c e), _, _, _, rfl⟩)
  have src2 : (pIter (pTh (pCallF 1 F__law_by_position (pCons (pVar 5) pNil)))) (F y6 y7 y8) = .ok (posX x) := by
    rw [pIter_eq, callT_ok (n := 1) (F := F__law_by_position) (ds := [x]) (pCons_ok (pVar_at (d := x) rfl X.m) rfl) rfl e4 (thaw_pos tx)]
    rfl
  obtain ⟨ρ2, el2, z6, z7, z8, rfl⟩ := loop_nx (t := .tup [(.name 6), (.name 7)]) (b := twC) (ds := posX x) (fun _ ρ => ∃ y6 y7 y8, ρ = F y6 y7 y8) (ρ := F y6 y7 y8) ⟨y6, y7, y8, rfl⟩ (by
    rintro d r ρ hd ⟨y6, y7, y8, rfl⟩
    obtain ⟨C, fs, rfl, c⟩ := pos24 d hd
    exact ⟨[(6, .str C), (7, .exc C fs)], rfl, _, .inl (twC_ok c X), _, _, _, rfl⟩)
  exact ⟨s2, _, _, _, _, _, h2.le (by omega), (seq_nx st1).trans ((seq_nx st2).trans ((seq_nx (for_ok (lift_ok src1) el1)).trans ((seq_nx (for_ok (lift_ok src2) el2)).trans rfl)))⟩
theorem key24 (ns : List Int) (hl : ns.length ≤ 63) : ∃ r, F_law [.set (ns.map D.int)] = .ok (.bl true) r := by
  obtain ⟨s, r, e, h⟩ := begun_ok hl
  let sc : D := .set (ns.map D.int)
  let n : Option D := none
  have st1 : sSet 1 1 (lift (pCallF 1 F__law_begun (pCons (pVar 0) pNil))) (some sc :: List.replicate 8 none) = .nx (twF sc s n n n n n n n) := set_ok (d := .mut s) (lift_ok (call_ok (ds := [sc]) rfl rfl e)) rfl
  have rng : pRange1 (pCons (pC (.int 2)) pNil) (twF sc s n n n n n n n) = .ok ((List.range 2).map fun (i : Nat) => D.int (i : Int)) := range1_ok (ds := [.int ((2 : Nat) : Int)]) rfl (range_nat (by decide))
  obtain ⟨ρ', el, s5, x2, x3, x4, x5, x6, x7, x8, h5, rfl⟩ := loop_nx (t := .name 2) (b := twB) (ds := (List.range 2).map fun (i : Nat) => D.int (i : Int)) (fun r ρ => ∃ (s : D) (x2 x3 x4 x5 x6 x7 x8 : Option D), St (10 * r.length) s ∧ ρ = twF sc s x2 x3 x4 x5 x6 x7 x8) (ρ := twF sc s n n n n n n n) ⟨s, n, n, n, n, n, n, n, h.le (by simp), rfl⟩ (by
    rintro d r ρ hd ⟨s, x2, x3, x4, x5, x6, x7, x8, hs, rfl⟩
    obtain ⟨k, hk, rfl⟩ := List.mem_map.mp hd
    obtain ⟨s', y4, y5, y6, y7, y8, h', e'⟩ := twB_ok (s := s) (sc := sc) (b := 10 * r.length) (hs.le (by rw [List.length_cons]; omega)) (x2 := some (.int (k : Nat))) (x3 := x3) (x4 := x4) (x5 := x5) (x6 := x6) (x7 := x7) (x8 := x8)
    exact ⟨[(2, .int (k : Nat))], rfl, _, .inl e', s', some (.int (k : Nat)), x3, y4, y5, y6, y7, y8, h', rfl⟩)
  have st3 : (sSet 1 3 (lift (pMakeX (fun _ => .ok ("HabitError", []))))) (twF sc s5 x2 x3 x4 x5 x6 x7 x8) = .nx (twF sc s5 x2 (some (.exc "HabitError" [])) x4 x5 x6 x7 x8) := set_ok (lift_ok rfl) rfl
  obtain ⟨r1, k1⟩ := kinds_ok (C := "HabitError") (fs := []) (by decide +kernel)
  have k0 : (namX.filter fun n => decide (n = ("HabitError" : Str))) = [] := by decide +kernel
  rw [k0] at k1
  have kk : pTh (pCallF 1 F__law_kinds (pCons (pVar 3) pNil)) (twF sc s5 x2 (some (.exc "HabitError" [])) x4 x5 x6 x7 x8) = .ok (.lst []) := callT_ok (n := 1) (F := F__law_kinds) (ds := [.exc "HabitError" []]) rfl rfl k1 rfl
  have st4 : (sRet (lift (pAndT (pUn (isXD [("Found", true), ("HabitError", true), ("NoComparer", true), ("NoComparison", true), ("NoFinding", true), ("NoLog", true), ("NoName", true), ("NoNumber", true), ("NoOperation", true), ("NoOption", true), ("NoOwner", true), ("NoPair", true), ("NoShop", true), ("NoText", true), ("NoTool", true), ("NoTree", true), ("NoWorld", true), ("TooMany", true), ("Unsafe", true)]) (pVar 3)) (pOp eqR (pTh (pCallF 1 F__law_kinds (pCons (pVar 3) pNil))) (pTh (pMut (pLst pNil))))))) (twF sc s5 x2 (some (.exc "HabitError" [])) x4 x5 x6 x7 x8) = .ret (.bl true) (twF sc s5 x2 (some (.exc "HabitError" [])) x4 x5 x6 x7 x8) :=
    ret_ok (lift_ok (pAndT_t (isX_ok (C := "HabitError") (fs := []) (by decide +kernel) rfl) (pOp_ok kk pNilL rfl)))
  have ecall : F_law [sc] = runF 9 S_law [sc] := rfl
  refine ⟨twF sc s5 x2 (some (.exc "HabitError" [])) x4 x5 x6 x7 x8, ?_⟩
  rw [ecall, law24_eq]
  exact runR (ds := [sc]) (some sc :: List.replicate 8 none) ((seq_nx st1).trans ((seq_nx (for_ok (lift_ok rng) el)).trans ((seq_nx st3).trans (seq_ret st4))))
end DL
set_option maxHeartbeats 0
namespace DL
open PySem PySem.Spec PyProof.Rows L2
theorem exi [TheW] {K : PySem.W.Frag} (c : SaysL hfa hex hfn K) (i : Nat) {b : Bool} (e : (hexl K)[i]? = some b := by rfl) : b = true := List.all_eq_true.mp c.more b (List.mem_of_getElem? e)
theorem fx_of [TheW] {K : PySem.W.Frag} {h : Heap} {mg : Str → Option Value} (c : SaysL hfa hex hfn K) (X : K.In h) (G : h.Ns mainGlobals mg) : Fx K mg where
  f__law_begun := ⟨c.df 0, He.glo_ok X G (c.fact 0)⟩
  f__law_mixed := ⟨c.df 1, He.glo_ok X G (c.fact 1)⟩
  f__law_take := ⟨c.df 2, He.glo_ok X G (c.fact 2)⟩
  f__law_pick := ⟨c.df 3, He.glo_ok X G (c.fact 3)⟩
  f__law_kinds := ⟨c.df 4, He.glo_ok X G (c.fact 4)⟩
  f__law_made := ⟨c.df 5, He.glo_ok X G (c.fact 5)⟩
  f__law_field := ⟨c.df 6, He.glo_ok X G (c.fact 6)⟩
  f__law_by_position := ⟨c.df 7, He.glo_ok X G (c.fact 7)⟩
  f_law := ⟨c.df 8, He.glo_ok X G (c.fact 8)⟩
  ei_Found := exIB_ok (exi c 0) (c.df 9) (He.glo_ok X G (c.fact 9))
  ei_NoComparison := exIB_ok (exi c 1) (c.df 10) (He.glo_ok X G (c.fact 10))
  ei_NoFinding := exIB_ok (exi c 2) (c.df 11) (He.glo_ok X G (c.fact 11))
  ei_NoLog := exIB_ok (exi c 3) (c.df 12) (He.glo_ok X G (c.fact 12))
  ei_NoName := exIB_ok (exi c 4) (c.df 13) (He.glo_ok X G (c.fact 13))
  ei_NoOwner := exIB_ok (exi c 5) (c.df 14) (He.glo_ok X G (c.fact 14))
  ei_NoText := exIB_ok (exi c 6) (c.df 15) (He.glo_ok X G (c.fact 15))
  ei_TooMany := exIB_ok (exi c 7) (c.df 16) (He.glo_ok X G (c.fact 16))
  ei_Unsafe := exIB_ok (exi c 8) (c.df 17) (He.glo_ok X G (c.fact 17))
  en_HabitError := exN_ok (c.fact 18) (He.glo_ok X G (c.fact 19))
  en_NoComparer := exN_ok (c.fact 20) (He.glo_ok X G (c.fact 21))
  en_NoNumber := exN_ok (c.fact 22) (He.glo_ok X G (c.fact 23))
  en_NoOperation := exN_ok (c.fact 24) (He.glo_ok X G (c.fact 25))
  en_NoOption := exN_ok (c.fact 26) (He.glo_ok X G (c.fact 27))
  en_NoPair := exN_ok (c.fact 28) (He.glo_ok X G (c.fact 29))
  en_NoShop := exN_ok (c.fact 30) (He.glo_ok X G (c.fact 31))
  en_NoTool := exN_ok (c.fact 32) (He.glo_ok X G (c.fact 33))
  en_NoTree := exN_ok (c.fact 34) (He.glo_ok X G (c.fact 35))
  en_NoWorld := exN_ok (c.fact 36) (He.glo_ok X G (c.fact 37))
  fdx_index := fdXB_ok (exi c 9)
  fdx_limit := fdXB_ok (exi c 10)
  fdx_name := fdXB_ok (exi c 11)
  fdx_owner := fdXB_ok (exi c 12)
  fdx_row := fdXB_ok (exi c 13)
  fdx_tool := fdXB_ok (exi c 14)
  x_ValueError := He.free_ok X G (c.fact 38)
  x_isinstance := He.free_ok X G (c.fact 39)
  x_len := He.free_ok X G (c.fact 40)
  x_list := He.free_ok X G (c.fact 41)
  x_range := He.free_ok X G (c.fact 42)
  x_repr := He.free_ok X G (c.fact 43)
  gl_Found := He.glo_ok X G (c.fact 9)
  gl_HabitError := He.glo_ok X G (c.fact 19)
  gl_NoComparer := He.glo_ok X G (c.fact 21)
  gl_NoComparison := He.glo_ok X G (c.fact 10)
  gl_NoFinding := He.glo_ok X G (c.fact 11)
  gl_NoLog := He.glo_ok X G (c.fact 12)
  gl_NoName := He.glo_ok X G (c.fact 13)
  gl_NoNumber := He.glo_ok X G (c.fact 23)
  gl_NoOperation := He.glo_ok X G (c.fact 25)
  gl_NoOption := He.glo_ok X G (c.fact 27)
  gl_NoOwner := He.glo_ok X G (c.fact 14)
  gl_NoPair := He.glo_ok X G (c.fact 29)
  gl_NoShop := He.glo_ok X G (c.fact 31)
  gl_NoText := He.glo_ok X G (c.fact 15)
  gl_NoTool := He.glo_ok X G (c.fact 33)
  gl_NoTree := He.glo_ok X G (c.fact 35)
  gl_NoWorld := He.glo_ok X G (c.fact 37)
  gl_TooMany := He.glo_ok X G (c.fact 16)
  gl_Unsafe := He.glo_ok X G (c.fact 17)
  ix_Found := isXB_ok (exi c 15)
  ix_HabitError := isXB_ok (exi c 16)
  ix_NoComparer := isXB_ok (exi c 17)
  ix_NoComparison := isXB_ok (exi c 18)
  ix_NoFinding := isXB_ok (exi c 19)
  ix_NoLog := isXB_ok (exi c 20)
  ix_NoName := isXB_ok (exi c 21)
  ix_NoNumber := isXB_ok (exi c 22)
  ix_NoOperation := isXB_ok (exi c 23)
  ix_NoOption := isXB_ok (exi c 24)
  ix_NoOwner := isXB_ok (exi c 25)
  ix_NoPair := isXB_ok (exi c 26)
  ix_NoShop := isXB_ok (exi c 27)
  ix_NoText := isXB_ok (exi c 28)
  ix_NoTool := isXB_ok (exi c 29)
  ix_NoTree := isXB_ok (exi c 30)
  ix_NoWorld := isXB_ok (exi c 31)
  ix_TooMany := isXB_ok (exi c 32)
  ix_Unsafe := isXB_ok (exi c 33)
  ix_ValueError := isXB_ok (exi c 34)
  eb_HabitError := exB2_ok (exi c 35) (He.glo_ok X G (c.fact 19))
theorem law_end (key : ∀ [TheW] (ns : List Int), ns.length ≤ 63 → ∃ r, F_law [.set (ns.map D.int)] = .ok (.bl true) r) : PySem.Challenge.rw_passhabit_k24_errors_apart.Holds := by
  w_on; o_law
  refine HandSHeadRun.head_any (r := PySem.W.OpenLaw.row PySem.Challenge.rw_passhabit_k24_errors_apart) (q := PySem.W.view (PySem.W.OpenLaw.row PySem.Challenge.rw_passhabit_k24_errors_apart).prog [29]) (H := hk) (ob := hob) (M := 20000) (loose := nms) (d := HandSHeadRun.topDef (PySem.W.OpenLaw.row PySem.Challenge.rw_passhabit_k24_errors_apart).prog 29) (kwd := []) hob_eq
    (by kernel_rfl) (fun s => by kernel_rfl) hrun (by kernel_rfl) (by kernel_rfl) (by kernel_rfl) (by rfl) (by first | assumption | decide +kernel) (by decide +kernel) ⟨rfl, rfl, rfl, rfl, rfl, by decide +kernel⟩ ?hw ?hc
  case hw => w_witness2
  case hc =>
    refine walkQ (l := PySem.Challenge.rw_passhabit_k24_errors_apart) (n := 63) (k := 4) (x := "_law_script") rfl (by decide) (by kernel_rfl) ⟨rfl, by decide, by decide⟩ ?F
    intro w mg fa h Y G hmg0
    letI : TheW := ⟨w, []⟩
    obtain ⟨K, KX, c⟩ := Y
    have hmg : mg ("law" : PySem.Str) = some (.ref fa) := by
      have e : (HandSHeadRun.topDef (PySem.W.OpenLaw.row PySem.Challenge.rw_passhabit_k24_errors_apart).prog 29).name = ("law" : PySem.Str) := by kernel_rfl
      rw [← e]
      exact hmg0
    have fx := fx_of c KX G
    obtain ⟨fd, FD⟩ := fx.f_law.ex
    have e := hmg.symm.trans fx.f_law.m
    cases e
    exact ⟨K, fd, spF K 1 F_law, KX, (fun s u => FD.bindsA (ps := ["_law_script"]) (fun _ _ _ _ _ _ us hl => match us, hl with | [_], _ => rfl) s [u] rfl), fun H a ns hl _ hS => sp_script hS (fun p hp => absurd (show p ∈ ([] : List (Addr × Str)) from hp) (by simp)) (key ns hl), fun base _ _ => law_ok fx FD⟩
end DL

theorem PySem.Challenge.cw_passhabit_k24_errors_apart_holds : PySem.Challenge.rw_passhabit_k24_errors_apart.Holds := by
  exact DL.law_end DL.key24
