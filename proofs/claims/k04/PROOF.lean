import PyProof.Rows.All
import Wide.All
import OpenK.AllK
import Wide.FinOn
import HandS.ForMost
import HandS.Lambda
import KE.KeyNested
import HandS.TupAny
import HandS.IsInst
import HandS.ForExc
import HandS.WordsExc
import HandS.NoneIn
import HandS.ExcCtx
import HandS.Zip
import HandS.Defaults
import PyProof.InstNe
import KE.GoesEnum
import HandS.SortRule
import KE.SortData
import KE.DataMinMax
import HandS.Deep
import HandS.Iter
import KE.KUnpackStar
import HandS.Star
import HandS.Property
import PyProof.P3In
import HandS.DictComp
import HandS.More
import HandS.MakeKwOnly
import HandS.WordsDict
import HandS.TupLen
import HandS.DictTup
import HandS.SortKw
import KE.SortKeyHeap
import KE.KSortKey
import KE.KStateDown
import Lean
import HandS.Head0
import HandS.Head1
import HandS.Head2
import HandS.HeadEnd
import HandS.HeadHook1
import HandS.HeadHook2
import HandS.HeadHook4
import HandS.EndTab
import HandS.HeadWalk
import HandS.ExcInit
import KE.KExcSuper
import HandS.ExcOwn
import HandS.TryOnly
import HandS.ExcIs
import HandS.ExcField
import KE.KExcIs
import HandS.RaiseMore
import PyProof.ReprRoads
import PyProof.CallFns
import PyProof.CallStr
import HandS.SetFor
import KE.DataFind
import HandS.EndBits
import HandS.List
import KE.KRevSl
import KE.KOpsOwn
import KE.KDictWalk
import HandS.Style
import PyProof.EqKinds
import PyProof.NeKinds
import PyProof.FactsAll.dict_1
import PyProof.FactsAll.dict_2
import PyProof.FactsAll.tuple_1
import PyProof.FactsAll.tuple_2
import KE.KEqNest
import PyProof.DictUpdate
import PyProof.DictDisplay
import KE.KEqDict
import HandS.Conv
import KE.KDictPairs
import KE.KDictKeyed
import HandS.Set
import HandS.Flow
import KE.GoesZip
import KE.GoesMore
import KE.KItemsList
import HandS.Small
import HandS.WideBits
import PyProof.NoPylong
import PySem.Challenge.RW_wardgates_k04_whole_sets_counted_over_cu
set_option Elab.async false
set_option linter.all false
set_option maxRecDepth 100000
set_option maxHeartbeats 4000000
namespace PL
open PySem PySem.Spec PyProof.Rows L2
/-- the tables of code objects of the defs that make lambdas, the lambdas' names -/
class HasT where
  T : List (Addr × Str)
  W : World
/-- pure data -/
inductive D where
  | non | bl (b : Bool) | int (i : Int) | str (x : Str)
  | tup (xs : List D) | lst (xs : List D) | dic (ks : List Key) (xs : List D) | dit (ks : List (List Key)) (xs : List D) | dix (W : World) (ks : List NestedKey) (xs : List D) | obj (c : Str) (fs : List Str) (xs : List D) | exc (c : Str) (fs : List Str) (xs : List D) | kst (xs : List D) | draw | box (d : D)
inductive Ent where
  | val (d : D)
  | own (bor : Bool) (d : D)
def Ent.d : Ent → D | .val d => d | .own _ d => d
abbrev Env := List (Option Ent)
/-- what an expression hands back: data, a new object that nobody else holds, or the object that a slot owns -/
inductive R where
  | val (d : D) | tmp (d : D) | slot (i : Nat)
/-- an exception: its class, its fields -/
structure Ex where
  cls : Str
  fs : List Str
  xs : List D
/-- a caught exception: its class, its dict -/
def ExcV (a : Addr) (cls : Value) (d : Option Addr) : HO := .ext fun h => ∃ (oe : Obj) (vs : Array Value), h.get? a = some oe ∧ Zc cls d oe ∧ oe.data = .fields vs
/-- the fields that an exception's dict has -/
def XdIn (F : Hp) (gs : List (Str × V)) : Option Addr → Prop
  | none => gs = []
  | some b => F b = some (.xd gs)
/-- a dict whose keys are nested tuples: its entries, each with the key, the key's own address, the value; W the world whose hashes it holds -/
def DxV (W : World) (a : Addr) (es : List (NestedKey × Addr × V)) : HO := .ext fun h => ∃ o arr ep, ∃ xs : List (NestedKey × Addr × Value), h.get? a = some o ∧ o.ExactDict ∧ o.data = .dict arr ep ∧
  arr.toList = xs.map (fun x => (⟨x.1.hash W, .ref x.2.1, x.2.2⟩ : DictEntry)) ∧ Paired (fun (p : NestedKey × Addr × V) (q : NestedKey × Addr × Value) => p.1 = q.1 ∧ p.2.1 = q.2.1 ∧ RelV p.2.2 q.2.2) es xs ∧ (xs.map (·.1)).Nodup ∧ (∀ x ∈ xs, x.1.depth ≤ 8) ∧ es.length ≤ sizeLine ∧ (a == sysModules) = false
section
variable (K : PySem.W.Frag) (mg : Str → Option Value)
mutual
/-- what bears a nested key -/
def KyA (F : Hp) : NestedKey → V → Prop
  | .none, v => v = .non
  | .num i, v => v = .int i
  | .text x, v => v = .str x
  | .tup ks, v => ∃ a xs, v = .ref a ∧ SqT K F a xs ∧ KyL F ks xs
def KyL (F : Hp) : List NestedKey → List V → Prop
  | [], xs => xs = []
  | k :: ks, xs => ∃ x r, xs = x :: r ∧ KyA F k x ∧ KyL F ks r
end
mutual
def Rep (F : Hp) : D → V → Prop
  | .non, v => v = .non
  | .bl b, v => v = .bl b
  | .int i, v => v = .int i
  | .str x, v => v = .str x
  | .tup ds, v => ∃ a xs, v = .ref a ∧ SqT K F a xs ∧ RepL F ds xs
  | .lst ds, v => ∃ a xs, v = .ref a ∧ F a = some (.lst xs) ∧ RepL F ds xs
  | .dic ks ds, v => ∃ a kvs, v = .ref a ∧ Rd F a (.dK kvs) ∧ kvs.map (·.1) = ks ∧ RepL F ds (kvs.map (·.2))
  | .dit ks ds, v => ∃ a kvs, v = .ref a ∧ Rd F a (.dT kvs) ∧ kvs.map (·.1) = ks ∧ RepL F ds (kvs.map (·.2))
  | .dix W ks ds, v => ∃ a es, v = .ref a ∧ F a = some (DxV W a es) ∧ es.map (·.1) = ks ∧ (∀ e ∈ es, KyA K F e.1 (.ref e.2.1)) ∧ RepL F ds (es.map (·.2.2))
  | .obj c fs ds, v => ∃ a C dx gs, v = .ref a ∧ mg c = some (.ref C) ∧ F a = some (.ins C dx gs) ∧ gs.map (·.1) = fs ∧ RepL F ds (gs.map (·.2))
  | .exc c fs ds, v => ∃ a C dd gs, v = .ref a ∧ mg c = some (.ref C) ∧ F a = some (ExcV a (.ref C) dd) ∧ XdIn F gs dd ∧ gs.map (·.1) = fs ∧ RepL F ds (gs.map (·.2))
  | .kst ds, v => ∃ a xs, v = .ref a ∧ SqL K F a xs ∧ RepL F ds xs
  | .draw, _ => False
  | .box d, v => Rep F d v
def RepL (F : Hp) : List D → List V → Prop
  | [], xs => xs = []
  | d :: ds, xs => ∃ x r, xs = x :: r ∧ Rep F d x ∧ RepL F ds r
end
/-- an object stays as it is, or a dict is locked as it stands -/
def HLe (o o' : HO) : Prop := o' = o ∨ (∃ ob, o' = .frz ob o ∧ ((∃ kvs, o = .dK kvs) ∨ ∃ kvs, o = .dT kvs)) ∨ ∃ ps qs, o = .tbl ps ∧ o' = .tbl qs
theorem HLe.refl (o : HO) : HLe o o := .inl rfl
theorem HLe.trans {a b c : HO} (h : HLe a b) (g : HLe b c) : HLe a c := by
  rcases h with rfl | ⟨ob, rfl, h⟩ | ⟨ps, qs, rfl, rfl⟩
  · exact g
  · rcases g with rfl | ⟨ob', e, g⟩ | ⟨_, _, g, _⟩
    · exact .inr (.inl ⟨ob, rfl, h⟩)
    · rcases g with ⟨_, g⟩ | ⟨_, g⟩ <;> cases g
    · cases g
  · rcases g with rfl | ⟨ob', e, g⟩ | ⟨_, _, _, rfl⟩
    · exact .inr (.inr ⟨_, _, rfl, rfl⟩)
    · rcases g with ⟨_, g⟩ | ⟨_, g⟩ <;> cases g
    · exact .inr (.inr ⟨_, _, rfl, rfl⟩)
def Mono (F F' : Hp) : Prop := ∀ a o, F a = some o → ∃ o', F' a = some o' ∧ HLe o o'
theorem Mono.refl (F : Hp) : Mono F F := fun _ o h => ⟨o, h, .refl o⟩
theorem Mono.trans {F G H : Hp} (a : Mono F G) (b : Mono G H) : Mono F H := fun x o h => by
  obtain ⟨o1, h1, l1⟩ := a x o h
  obtain ⟨o2, h2, l2⟩ := b x o1 h1
  exact ⟨o2, h2, l1.trans l2⟩
theorem Mono.lst {F F' : Hp} (m : Mono F F') {a : Addr} {xs : List V} (h : F a = some (.lst xs)) : F' a = some (.lst xs) := by
  obtain ⟨o, e, l⟩ := m _ _ h
  rcases l with rfl | ⟨_, _, ⟨_, z⟩ | ⟨_, z⟩⟩ | ⟨_, _, z, _⟩
  · exact e
  · cases z
  · cases z
  · cases z
theorem Mono.tup {F F' : Hp} (m : Mono F F') {a : Addr} {xs : List V} (h : F a = some (.tup xs)) : F' a = some (.tup xs) := by
  obtain ⟨o, e, l⟩ := m _ _ h
  rcases l with rfl | ⟨_, _, ⟨_, z⟩ | ⟨_, z⟩⟩ | ⟨_, _, z, _⟩
  · exact e
  · cases z
  · cases z
  · cases z
/-- all tuples of the heap are frozen -/
def TupF (F H : Hp) : Prop := ∀ a xs, H a = some (.tup xs) → F a = some (.tup xs)
theorem Mono.ins {F F' : Hp} (m : Mono F F') {a : Addr} {C : Addr} {dx : Addr} {gs : List (Str × V)} (h : F a = some (.ins C dx gs)) : F' a = some (.ins C dx gs) := by
  obtain ⟨o, e, l⟩ := m _ _ h
  rcases l with rfl | ⟨_, _, ⟨_, z⟩ | ⟨_, z⟩⟩ | ⟨_, _, z, _⟩
  · exact e
  · cases z
  · cases z
  · cases z
theorem Mono.ext {F F' : Hp} (m : Mono F F') {a : Addr} {φ : Heap → Prop} (h : F a = some (.ext φ)) : F' a = some (.ext φ) := by
  obtain ⟨o, e, l⟩ := m _ _ h
  rcases l with rfl | ⟨_, _, ⟨_, z⟩ | ⟨_, z⟩⟩ | ⟨_, _, z, _⟩
  · exact e
  · cases z
  · cases z
  · cases z
theorem Mono.xd {F F' : Hp} (m : Mono F F') {a : Addr} {gs : List (Str × V)} (h : F a = some (.xd gs)) : F' a = some (.xd gs) := by
  obtain ⟨o, e, l⟩ := m _ _ h
  rcases l with rfl | ⟨_, _, ⟨_, z⟩ | ⟨_, z⟩⟩ | ⟨_, _, z, _⟩
  · exact e
  · cases z
  · cases z
  · cases z
theorem XdIn.mono {F F' : Hp} (m : Mono F F') {gs : List (Str × V)} : ∀ {d : Option Addr}, XdIn F gs d → XdIn F' gs d
  | none, h => h
  | some _, h => m.xd h
theorem Mono.ne {F F' : Hp} (m : Mono F F') {a : Addr} {o : HO} (h : F a = some o) : F' a ≠ none := by
  obtain ⟨o', e, _⟩ := m _ _ h
  rw [e]; simp
/-- what is the same where F tells is told too -/
theorem Mono.of {F F' : Hp} (h : ∀ a o, F a = some o → F' a = some o) : Mono F F' := fun a o e => ⟨o, h a o e, .refl o⟩
theorem Mono.frz {F F' : Hp} (m : Mono F F') {a : Addr} {ob : Obj} {u : HO} (h : F a = some (.frz ob u)) : F' a = some (.frz ob u) := by
  obtain ⟨o, e, l⟩ := m _ _ h
  rcases l with rfl | ⟨_, _, ⟨_, z⟩ | ⟨_, z⟩⟩ | ⟨_, _, z, _⟩
  · exact e
  · cases z
  · cases z
  · cases z
theorem Mono.rd {F F' : Hp} (m : Mono F F') {a : Addr} {u : HO} (h : Rd F a u) (hu : ∀ ps, u ≠ .tbl ps := by intro ps z; cases z) : Rd F' a u := by
  rcases h with h | ⟨o, h⟩
  · obtain ⟨o, e, l⟩ := m _ _ h
    rcases l with rfl | ⟨ob, rfl, _⟩ | ⟨_, _, z, _⟩
    · exact .inl e
    · exact .inr ⟨ob, e⟩
    · exact absurd z (hu _)
  · exact .inr ⟨o, m.frz h⟩
theorem Mono.sqT {F F' : Hp} (m : Mono F F') {a : Addr} {xs : List V} (h : SqT K F a xs) : SqT K F' a xs := by
  rcases h with h | h
  · exact .inl (m.rd h)
  · exact .inr h
theorem Mono.sqL {F F' : Hp} (m : Mono F F') {a : Addr} {xs : List V} (h : SqL K F a xs) : SqL K F' a xs := by
  rcases h with h | h
  · exact .inl (m.rd h)
  · exact .inr h
mutual
theorem KyA.mono {F F' : Hp} (m : Mono F F') : ∀ (k : NestedKey) (v : V), KyA K F k v → KyA K F' k v
  | .none, _, h => h
  | .num _, _, h => h
  | .text _, _, h => h
  | .tup ks, _, h => by
    obtain ⟨a, xs, e, h1, h2⟩ := h
    exact ⟨a, xs, e, m.sqT K h1, KyL.mono m ks xs h2⟩
theorem KyL.mono {F F' : Hp} (m : Mono F F') : ∀ (ks : List NestedKey) (xs : List V), KyL K F ks xs → KyL K F' ks xs
  | [], _, h => h
  | k :: ks, _, h => by
    obtain ⟨x, r, e, h1, h2⟩ := h
    exact ⟨x, r, e, KyA.mono m k x h1, KyL.mono m ks r h2⟩
end
mutual
theorem Rep.mono {F F' : Hp} (m : Mono F F') : ∀ (d : D) (v : V), Rep K mg F d v → Rep K mg F' d v
  | .non, _, h => h
  | .bl _, _, h => h
  | .int _, _, h => h
  | .str _, _, h => h
  | .tup ds, _, h => by
    obtain ⟨a, xs, e, h1, h2⟩ := h
    exact ⟨a, xs, e, m.sqT K h1, RepL.mono m ds xs h2⟩
  | .lst ds, _, h => by
    obtain ⟨a, xs, e, h1, h2⟩ := h
    exact ⟨a, xs, e, m.lst h1, RepL.mono m ds xs h2⟩
  | .dic ks ds, _, h => by
    obtain ⟨a, kvs, e, h1, h2, h3⟩ := h
    exact ⟨a, kvs, e, m.rd h1, h2, RepL.mono m ds _ h3⟩
  | .dit ks ds, _, h => by
    obtain ⟨a, kvs, e, h1, h2, h3⟩ := h
    exact ⟨a, kvs, e, m.rd h1, h2, RepL.mono m ds _ h3⟩
  | .dix W ks ds, _, h => by
    obtain ⟨a, es, e, h1, h2, h3, h4⟩ := h
    exact ⟨a, es, e, m.ext h1, h2, fun x hx => KyA.mono K m _ _ (h3 x hx), RepL.mono m ds _ h4⟩
  | .obj c fs ds, _, h => by
    obtain ⟨a, C, dx, gs, e, h0, h1, h2, h3⟩ := h
    exact ⟨a, C, dx, gs, e, h0, m.ins h1, h2, RepL.mono m ds _ h3⟩
  | .exc c fs ds, _, h => by
    obtain ⟨a, C, dd, gs, e, h0, h1, h2, h3, h4⟩ := h
    exact ⟨a, C, dd, gs, e, h0, m.ext h1, h2.mono m, h3, RepL.mono m ds _ h4⟩
  | .kst ds, _, h => by
    obtain ⟨a, xs, e, h1, h2⟩ := h
    exact ⟨a, xs, e, m.sqL K h1, RepL.mono m ds xs h2⟩
  | .draw, _, h => h
  | .box d, v, h => Rep.mono m d v h
theorem RepL.mono {F F' : Hp} (m : Mono F F') : ∀ (ds : List D) (xs : List V), RepL K mg F ds xs → RepL K mg F' ds xs
  | [], _, h => h
  | d :: ds, _, h => by
    obtain ⟨x, r, e, h1, h2⟩ := h
    exact ⟨x, r, e, Rep.mono m d x h1, RepL.mono m ds r h2⟩
end
theorem RepL.len {F : Hp} : ∀ {ds : List D} {xs : List V}, RepL K mg F ds xs → ds.length = xs.length
  | [], _, h => by rw [show _ = [] from h]; rfl
  | d :: ds, _, h => by
    obtain ⟨x, r, rfl, _, h2⟩ := h
    simp [RepL.len h2]
theorem RepL.get {F : Hp} : ∀ {ds : List D} {xs : List V} {i : Nat} {d : D}, RepL K mg F ds xs → ds[i]? = some d → ∃ x, xs[i]? = some x ∧ Rep K mg F d x
  | [], _, _, _, _, e => by simp at e
  | d :: ds, _, 0, _, h, e => by
    obtain ⟨x, r, rfl, h1, h2⟩ := h
    simp at e; subst e
    exact ⟨x, rfl, h1⟩
  | d :: ds, _, i + 1, _, h, e => by
    obtain ⟨x, r, rfl, h1, h2⟩ := h
    obtain ⟨y, hy, ry⟩ := RepL.get (i := i) h2 (by simpa using e)
    exact ⟨y, by simpa using hy, ry⟩
theorem RepL.getV {F : Hp} {ds : List D} {xs : List V} {i : Nat} {x : V} (h : RepL K mg F ds xs) (e : xs[i]? = some x) : ∃ d, ds[i]? = some d ∧ Rep K mg F d x := by
  have l := RepL.len K mg h
  have hi : i < xs.length := (List.getElem?_eq_some_iff.mp e).1
  obtain ⟨y, hy, ry⟩ := RepL.get K mg (i := i) (d := ds[i]'(by omega)) h (by simp)
  rw [e] at hy; cases hy
  exact ⟨_, by simp, ry⟩
theorem RepL.app {F : Hp} : ∀ {ds es : List D} {xs ys : List V}, RepL K mg F ds xs → RepL K mg F es ys → RepL K mg F (ds ++ es) (xs ++ ys)
  | [], _, _, _, h, g => by rw [show _ = [] from h]; exact g
  | d :: ds, _, _, _, h, g => by
    obtain ⟨x, r, rfl, h1, h2⟩ := h
    exact ⟨x, r ++ _, rfl, h1, RepL.app h2 g⟩
theorem RepL.take {F : Hp} : ∀ (n : Nat) {ds : List D} {xs : List V}, RepL K mg F ds xs → RepL K mg F (ds.take n) (xs.take n)
  | 0, _, _, _ => by simp [RepL]
  | _ + 1, [], _, h => by rw [show _ = [] from h]; simp [RepL]
  | n + 1, d :: ds, _, h => by
    obtain ⟨x, r, rfl, h1, h2⟩ := h
    exact ⟨x, r.take n, rfl, h1, RepL.take n h2⟩
theorem RepL.drop {F : Hp} : ∀ (n : Nat) {ds : List D} {xs : List V}, RepL K mg F ds xs → RepL K mg F (ds.drop n) (xs.drop n)
  | 0, _, _, h => h
  | _ + 1, [], _, h => by rw [show _ = [] from h]; simp [RepL]
  | n + 1, d :: ds, _, h => by
    obtain ⟨x, r, rfl, h1, h2⟩ := h
    exact RepL.drop n h2
theorem RepL.one {F : Hp} {d : D} {x : V} (h : Rep K mg F d x) : RepL K mg F [d] [x] := ⟨x, [], rfl, h, rfl⟩
theorem RepL.cons {F : Hp} {d : D} {x : V} {ds : List D} {xs : List V} (h : Rep K mg F d x) (t : RepL K mg F ds xs) : RepL K mg F (d :: ds) (x :: xs) := ⟨x, xs, rfl, h, t⟩
theorem RepL.map {F : Hp} {α : Type} (f : α → D) (g : α → V) (h : ∀ a, Rep K mg F (f a) (g a)) : ∀ l : List α, RepL K mg F (l.map f) (l.map g)
  | [] => rfl
  | a :: l => ⟨g a, l.map g, rfl, h a, RepL.map f g h l⟩
/-- the dict of draws: the law's own source of numbers -/
def lits : List Int → List V := fun l => l.map V.int
structure DrawAt (F H : Hp) (a l : Addr) : Prop where
  ne : a ≠ l
  at_ : ∃ (c : Addr) (rest turn mix : Int), H a = some (.dK [(.inr "large", .ref l), (.inr "cells", .ref c), (.inr "rest", .int rest), (.inr "turn", .int turn), (.inr "mix", .int mix)]) ∧
    0 ≤ rest ∧ 0 ≤ turn ∧ 0 ≤ mix ∧ mix < 2147483629 ∧
    (∃ cs : List Int, F c = some (.lst (lits cs)) ∧ cs.length ≤ 63)
  la : ∃ ls : List Int, H l = some (.lst (lits ls)) ∧ ls.length ≤ 63 ∧ ∀ x ∈ ls, 0 ≤ x
/-- a thing that may change -/
def Pl : HO → Prop
  | .tbl _ => False
  | .ext φ => ∃ a : Addr, ∀ h : Heap, φ h → ∃ o arr ep, h.get? a = some o ∧ o.data = .dict arr ep
  | .tup _ => False
  | _ => True
/-- what a box holds: a list or dict at v, its own address a -/
def OwnF (F H : Hp) : D → V → Addr → Prop
  | .lst ds, v, a => v = .ref a ∧ ∃ xs, H a = some (.lst xs) ∧ RepL K mg F ds xs
  | .dic ks ds, v, a => v = .ref a ∧ ∃ kvs, H a = some (.dK kvs) ∧ kvs.map (·.1) = ks ∧ RepL K mg F ds (kvs.map (·.2))
  | .dit ks ds, v, a => v = .ref a ∧ ∃ kvs, H a = some (.dT kvs) ∧ kvs.map (·.1) = ks ∧ RepL K mg F ds (kvs.map (·.2))
  | _, _, _ => False
def isBx : D → Bool
  | .box _ => true
  | _ => false
def unB : D → D
  | .box d => d
  | d => d
/-- an object's fields: data, or boxes with their own addresses -/
def BoxL (F H : Hp) : List D → List V → List Addr → Prop
  | [], xs, ft => xs = [] ∧ ft = []
  | d :: ds, xs, ft => ∃ x r, xs = x :: r ∧ if isBx d = true then ∃ a f2, ft = a :: f2 ∧ OwnF K mg F H (unB d) x a ∧ BoxL F H ds r f2 else Rep K mg F d x ∧ BoxL F H ds r ft
/-- a part of an own tuple: at v, its own addresses ft -/
def Own0 (F H : Hp) : D → V → List Addr → Prop
  | .lst ds, v, ft => ∃ a xs, v = .ref a ∧ ft = [a] ∧ H a = some (.lst xs) ∧ RepL K mg F ds xs
  | .dic ks ds, v, ft => ∃ a kvs, v = .ref a ∧ ft = [a] ∧ H a = some (.dK kvs) ∧ kvs.map (·.1) = ks ∧ RepL K mg F ds (kvs.map (·.2))
  | .dit ks ds, v, ft => ∃ a kvs, v = .ref a ∧ ft = [a] ∧ H a = some (.dT kvs) ∧ kvs.map (·.1) = ks ∧ RepL K mg F ds (kvs.map (·.2))
  | .obj c fs ds, v, ft => ∃ a C dx gs f2 g, v = .ref a ∧ ft = a :: (f2 ++ g) ∧ (a :: (f2 ++ g)).Nodup ∧ mg c = some (.ref C) ∧ H a = some (.ins C dx gs) ∧ gs.map (·.1) = fs ∧ BoxL K mg F H ds (gs.map (·.2)) f2 ∧ ∀ b ∈ g, ∃ u, H b = some u ∧ Pl u
  | _, _, _ => False
/-- the parts of an own tuple: data, or boxes of what is owned -/
def PartsL (F H : Hp) : List D → List V → List Addr → Prop
  | [], xs, ft => xs = [] ∧ ft = []
  | d :: ds, xs, ft => ∃ x r, xs = x :: r ∧ if isBx d = true then ∃ f1 f2, ft = f1 ++ f2 ∧ (∀ b ∈ f1, b ∉ f2) ∧ Own0 K mg F H (unB d) x f1 ∧ PartsL F H ds r f2 else Rep K mg F d x ∧ PartsL F H ds r ft
/-- an object that is owned: at v, its own addresses ft -/
def Own (F H : Hp) : D → V → List Addr → Prop
  | .lst ds, v, ft => ∃ a xs, v = .ref a ∧ ft = [a] ∧ H a = some (.lst xs) ∧ RepL K mg F ds xs
  | .dic ks ds, v, ft => ∃ a kvs, v = .ref a ∧ ft = [a] ∧ H a = some (.dK kvs) ∧ kvs.map (·.1) = ks ∧ RepL K mg F ds (kvs.map (·.2))
  | .dit ks ds, v, ft => ∃ a kvs, v = .ref a ∧ ft = [a] ∧ H a = some (.dT kvs) ∧ kvs.map (·.1) = ks ∧ RepL K mg F ds (kvs.map (·.2))
  | .dix W ks ds, v, ft => ∃ a es, v = .ref a ∧ ft = [a] ∧ H a = some (DxV W a es) ∧ es.map (·.1) = ks ∧ (∀ e ∈ es, KyA K F e.1 (.ref e.2.1)) ∧ RepL K mg F ds (es.map (·.2.2))
  | .obj c fs ds, v, ft => ∃ a C dx gs f2 g, v = .ref a ∧ ft = a :: (f2 ++ g) ∧ (a :: (f2 ++ g)).Nodup ∧ mg c = some (.ref C) ∧ H a = some (.ins C dx gs) ∧ gs.map (·.1) = fs ∧ BoxL K mg F H ds (gs.map (·.2)) f2 ∧ ∀ b ∈ g, ∃ u, H b = some u ∧ Pl u
  | .draw, v, ft => ∃ a l, v = .ref a ∧ ft = [a, l] ∧ DrawAt F H a l
  | .box d, v, ft => (ft = [] ∧ (∃ a, v = .ref a) ∧ ∃ ks ds, d = .dit ks ds) ∨ ∃ ds a xs, d = .tup ds ∧ v = .ref a ∧ SqT K F a xs ∧ PartsL K mg F H ds xs ft
  | _, _, _ => False
theorem OwnF.frame {F H F' H' : Hp} {d : D} {v : V} {a : Addr} (o : OwnF K mg F H d v a) (m : Mono F F') (h : H' a = H a) : OwnF K mg F' H' d v a := by
  cases d with
  | lst ds =>
    obtain ⟨e, xs, h1, h2⟩ := o
    exact ⟨e, xs, by rw [h]; exact h1, h2.mono K mg m _ _⟩
  | dic ks ds =>
    obtain ⟨e, kvs, h1, h2, h3⟩ := o
    exact ⟨e, kvs, by rw [h]; exact h1, h2, h3.mono K mg m _ _⟩
  | dit ks ds =>
    obtain ⟨e, kvs, h1, h2, h3⟩ := o
    exact ⟨e, kvs, by rw [h]; exact h1, h2, h3.mono K mg m _ _⟩
  | _ => exact o.elim
theorem BoxL.frame {F H F' H' : Hp} (m : Mono F F') : ∀ {ds : List D} {xs : List V} {ft : List Addr}, BoxL K mg F H ds xs ft → (∀ b ∈ ft, H' b = H b) → BoxL K mg F' H' ds xs ft
  | [], _, _, o, _ => o
  | d :: ds, _, ft, ⟨x, r, e, o⟩, h => by
    refine ⟨x, r, e, ?_⟩
    by_cases hb : isBx d = true
    · rw [if_pos hb] at o ⊢
      obtain ⟨a, f2, rfl, o1, o2⟩ := o
      exact ⟨a, f2, rfl, o1.frame K mg m (h a (by simp)), BoxL.frame m o2 fun b hb => h b (by simp [hb])⟩
    · rw [if_neg hb] at o ⊢
      exact ⟨o.1.mono K mg m _ _, BoxL.frame m o.2 h⟩
theorem Own0.frame {F H F' H' : Hp} {d : D} {v : V} {ft : List Addr} (o : Own0 K mg F H d v ft) (m : Mono F F') (h : ∀ b ∈ ft, H' b = H b) : Own0 K mg F' H' d v ft := by
  cases d with
  | lst ds =>
    obtain ⟨a, xs, e, rfl, h1, h2⟩ := o
    exact ⟨a, xs, e, rfl, by rw [h a (by simp)]; exact h1, h2.mono K mg m _ _⟩
  | dic ks ds =>
    obtain ⟨a, kvs, e, rfl, h1, h2, h3⟩ := o
    exact ⟨a, kvs, e, rfl, by rw [h a (by simp)]; exact h1, h2, h3.mono K mg m _ _⟩
  | dit ks ds =>
    obtain ⟨a, kvs, e, rfl, h1, h2, h3⟩ := o
    exact ⟨a, kvs, e, rfl, by rw [h a (by simp)]; exact h1, h2, h3.mono K mg m _ _⟩
  | obj c fs ds =>
    obtain ⟨a, C, dx, gs, f2, g, e, rfl, nd, h0, h1, h2, h3, h4⟩ := o
    exact ⟨a, C, dx, gs, f2, g, e, rfl, nd, h0, by rw [h a (by simp)]; exact h1, h2, h3.frame K mg m fun b hb => h b (by simp [hb]), fun b hb => by rw [h b (by simp [hb])]; exact h4 b hb⟩
  | _ => exact o.elim
theorem PartsL.frame {F H F' H' : Hp} (m : Mono F F') : ∀ {ds : List D} {xs : List V} {ft : List Addr}, PartsL K mg F H ds xs ft → (∀ b ∈ ft, H' b = H b) → PartsL K mg F' H' ds xs ft
  | [], _, _, o, _ => o
  | d :: ds, _, ft, ⟨x, r, e, o⟩, h => by
    refine ⟨x, r, e, ?_⟩
    by_cases hb : isBx d = true
    · rw [if_pos hb] at o ⊢
      obtain ⟨f1, f2, rfl, dj, o1, o2⟩ := o
      exact ⟨f1, f2, rfl, dj, o1.frame K mg m fun b hb => h b (by simp [hb]), PartsL.frame m o2 fun b hb => h b (by simp [hb])⟩
    · rw [if_neg hb] at o ⊢
      exact ⟨o.1.mono K mg m _ _, PartsL.frame m o.2 h⟩
theorem Own.frame {F H F' H' : Hp} {d : D} {v : V} {ft : List Addr} (o : Own K mg F H d v ft) (m : Mono F F') (h : ∀ b ∈ ft, H' b = H b) : Own K mg F' H' d v ft := by
  cases d with
  | lst ds =>
    obtain ⟨a, xs, e, rfl, h1, h2⟩ := o
    exact ⟨a, xs, e, rfl, by rw [h a (by simp)]; exact h1, h2.mono K mg m _ _⟩
  | dic ks ds =>
    obtain ⟨a, kvs, e, rfl, h1, h2, h3⟩ := o
    exact ⟨a, kvs, e, rfl, by rw [h a (by simp)]; exact h1, h2, h3.mono K mg m _ _⟩
  | dit ks ds =>
    obtain ⟨a, kvs, e, rfl, h1, h2, h3⟩ := o
    exact ⟨a, kvs, e, rfl, by rw [h a (by simp)]; exact h1, h2, h3.mono K mg m _ _⟩
  | dix W ks ds =>
    obtain ⟨a, es, e, rfl, h1, h2, h3, h4⟩ := o
    exact ⟨a, es, e, rfl, by rw [h a (by simp)]; exact h1, h2, fun x hx => (h3 x hx).mono K m _ _, h4.mono K mg m _ _⟩
  | obj c fs ds =>
    obtain ⟨a, C, dx, gs, f2, g, e, rfl, nd, h0, h1, h2, h3, h4⟩ := o
    exact ⟨a, C, dx, gs, f2, g, e, rfl, nd, h0, by rw [h a (by simp)]; exact h1, h2, h3.frame K mg m fun b hb => h b (by simp [hb]), fun b hb => by rw [h b (by simp [hb])]; exact h4 b hb⟩
  | draw =>
    obtain ⟨a, l, e, rfl, ne, ⟨c, rest, turn, mix, h1, z1, z3, z5, z6, cs, hc, z7⟩, ls, h3, z9⟩ := o
    exact ⟨a, l, e, rfl, ne, ⟨c, rest, turn, mix, by rw [h a (by simp)]; exact h1, z1, z3, z5, z6, cs, m.lst hc, z7⟩, ls, by rw [h l (by simp)]; exact h3, z9⟩
  | box d =>
    rcases o with o | ⟨ds, a, xs, e, e2, h1, h2⟩
    · exact .inl o
    · exact .inr ⟨ds, a, xs, e, e2, m.sqT K h1, h2.frame K mg m h⟩
  | _ => exact o.elim
variable [HasT]
/-- a configuration: the frozen part of the heap, the heap, the slots, what they stand for, the addresses that each slot owns -/
structure Cfg where
  F : Hp
  H : Hp
  σ : L2.St
  ρ : Env
  fp : Nat → List Addr
def EntOk (F H : Hp) : Ent → V → List Addr → Prop
  | .val d, v, ft => Rep K mg F d v ∧ ft = []
  | .own _ d, v, ft => Own K mg F H d v ft
structure Ok (c : Cfg) : Prop where
  tabs : LamX.Tabs HasT.T c.H
  sub : Mono c.F c.H
  len : c.ρ.length = c.σ.length
  slot : ∀ i e, c.ρ[i]? = some (some e) → ∃ v, c.σ[i]? = some (some v) ∧ EntOk K mg c.F c.H e v (c.fp i)
  non : ∀ i, (∀ e, c.ρ[i]? ≠ some (some e)) → c.fp i = []
  out : ∀ i b, b ∈ c.fp i → c.F b = none ∧ c.H b ≠ none
  disj : ∀ i j b, b ∈ c.fp i → b ∈ c.fp j → i = j
  tf : TupF c.F c.H
/-- what is owned grows, by new addresses alone -/
def Grw (ft ft' : List Addr) (H : Hp) : Prop := (∀ b ∈ ft, b ∈ ft') ∧ ∀ b ∈ ft', b ∈ ft ∨ H b = none
theorem Grw.refl (ft : List Addr) (H : Hp) : Grw ft ft H := ⟨fun _ h => h, fun _ h => .inl h⟩
theorem Grw.trans {ft f1 f2 : List Addr} {H H1 : Hp} (a : Grw ft f1 H) (b : Grw f1 f2 H1) (g : ∀ x, H x ≠ none → H1 x ≠ none) : Grw ft f2 H :=
  ⟨fun x h => b.1 x (a.1 x h), fun x h => by
    rcases b.2 x h with q | q
    · exact a.2 x q
    · refine .inr ?_
      cases z : H x with
      | none => rfl
      | some o => exact absurd q (g x (by rw [z]; simp))⟩
structure Frm (fp : Nat → List Addr) (F H F' H' : Hp) : Prop where
  mono : Mono F F'
  keep : ∀ a, F a = none → H a ≠ none → (∀ i, a ∉ fp i) → (∀ ps, H a ≠ some (.tbl ps)) → F' a = none ∧ H' a = H a
  grow : ∀ a, H a ≠ none → H' a ≠ none
structure Go (c c' : Cfg) : Prop where
  ok : Ok K mg c'
  fr : Frm c.fp c.F c.H c'.F c'.H
  orig : ∀ i b, b ∈ c'.fp i → (∃ j, b ∈ c.fp j) ∨ c.H b = none
  bor : ∀ i d, c.ρ[i]? = some (some (.own true d)) → ∃ d', c'.ρ[i]? = some (some (.own true d')) ∧ Grw (c.fp i) (c'.fp i) c.H ∧ c'.σ[i]? = c.σ[i]?
theorem Frm.refl (fp : Nat → List Addr) (F H : Hp) : Frm fp F H F H := ⟨Mono.refl _, fun a h _ _ _ => ⟨h, rfl⟩, fun _ h => h⟩
theorem Frm.trans {fp fp' : Nat → List Addr} {F H F' H' F2 H2 : Hp} (a : Frm fp F H F' H') (o : ∀ i b, b ∈ fp' i → (∃ j, b ∈ fp j) ∨ H b = none) (b : Frm fp' F' H' F2 H2) : Frm fp F H F2 H2 :=
  ⟨a.mono.trans b.mono, fun x h1 h2 h3 h4 => by
    obtain ⟨k1, k2⟩ := a.keep x h1 h2 h3 h4
    obtain ⟨l1, l2⟩ := b.keep x k1 (by rw [k2]; exact h2) (fun i hi => by
      rcases o i x hi with ⟨j, hj⟩ | e
      · exact h3 j hj
      · exact h2 e) (by rw [k2]; exact h4)
    exact ⟨l1, by rw [l2, k2]⟩, fun x h => b.grow x (a.grow x h)⟩
theorem Go.refl {c : Cfg} (h : Ok K mg c) : Go K mg c c := ⟨h, Frm.refl _ _ _, fun i b hb => .inl ⟨i, hb⟩, fun i d h => ⟨d, h, Grw.refl _ _, rfl⟩⟩
theorem Go.trans {c c1 c2 : Cfg} (a : Go K mg c c1) (b : Go K mg c1 c2) : Go K mg c c2 :=
  ⟨b.ok, a.fr.trans a.orig b.fr, fun i x hx => by
    rcases b.orig i x hx with ⟨j, hj⟩ | e
    · exact a.orig j x hj
    · refine .inr ?_
      cases q : c.H x with
      | none => rfl
      | some o => exact absurd e (a.fr.grow x (by rw [q]; simp)), fun i d h => by
    obtain ⟨d1, h1, f1, s1⟩ := a.bor i d h
    obtain ⟨d2, h2, f2, s2⟩ := b.bor i d1 h1
    exact ⟨d2, h2, f1.trans f2 fun x h => a.fr.grow x h, s2.trans s1⟩⟩
/-- an exception as the heap bears it -/
def ExOk (F H : Hp) (x : Ex) (cls : Value) (d : Option Addr) : Prop :=
  ∃ C, mg x.cls = some (.ref C) ∧ cls = .ref C ∧ match d with
    | none => x.fs = [] ∧ x.xs = []
    | some dd => ∃ gs, H dd = some (.xd gs) ∧ gs.map (·.1) = x.fs ∧ RepL K mg F x.xs (gs.map (·.2))
/-- an exception's dict is new, and nobody's -/
def XNew (H F : Hp) (fp : Nat → List Addr) (d : Option Addr) : Prop := ∀ b, d = some b → H b = none ∧ F b = none ∧ ∀ i, b ∉ fp i
/-- an exception out of an expression: the slots' values stand -/
def XOk (c : Cfg) (Ep : Ex → Env → Prop) (XE : XK) : Prop :=
  ∀ x cls d c', Go K mg c c' → c'.σ = c.σ → ExOk K mg c'.F c'.H x cls d → XNew c.H c'.F c'.fp d → Ep x c'.ρ → XE cls d c'.H
/-- an exception out of a statement -/
def XOkS (c : Cfg) (Ep : Ex → Env → Prop) (XE : XK) : Prop :=
  ∀ x cls d c', Go K mg c c' → ExOk K mg c'.F c'.H x cls d → XNew c.H c'.F c'.fp d → Ep x c'.ρ → XE cls d c'.H
theorem XNew.go {c c' : Cfg} {F : Hp} {fp : Nat → List Addr} {d : Option Addr} (h : XNew c'.H F fp d) (g : Go K mg c c') : XNew c.H F fp d := fun b e => by
  obtain ⟨h1, h2⟩ := h b e
  refine ⟨?_, h2⟩
  cases q : c.H b with
  | none => rfl
  | some o => exact absurd h1 (g.fr.grow b (by rw [q]; simp))
theorem XOk.go {c c' : Cfg} {Ep : Ex → Env → Prop} {XE : XK} (h : XOk K mg c Ep XE) (g : Go K mg c c') (e : c'.σ = c.σ) : XOk K mg c' Ep XE :=
  fun x cls d c2 g2 e2 o n q => h x cls d c2 (g.trans K mg g2) (e2.trans e) o (n.go K mg g) q
theorem XOkS.go {c c' : Cfg} {Ep : Ex → Env → Prop} {XE : XK} (h : XOkS K mg c Ep XE) (g : Go K mg c c') : XOkS K mg c' Ep XE :=
  fun x cls d c2 g2 o n q => h x cls d c2 (g.trans K mg g2) o (n.go K mg g) q
theorem XOkS.ex {c : Cfg} {Ep : Ex → Env → Prop} {XE : XK} (h : XOkS K mg c Ep XE) : XOk K mg c Ep XE := fun x cls d c2 g2 _ o n q => h x cls d c2 g2 o n q
theorem XOk.none {c : Cfg} {XE : XK} : XOk K mg c (fun _ _ => False) XE := fun _ _ _ _ _ _ _ _ e => e.elim
theorem XOkS.none {c : Cfg} {XE : XK} : XOkS K mg c (fun _ _ => False) XE := fun _ _ _ _ _ _ _ e => e.elim
/-- what came back -/
def RR (c c' : Cfg) : R → V → Prop
  | .val d, v => Rep K mg c'.F d v
  | .tmp d, v => ∃ ft, Own K mg c'.F c'.H d v ft ∧ ∀ b ∈ ft, c'.F b = none ∧ c'.H b ≠ none ∧ c.H b = none ∧ ∀ i, b ∉ c'.fp i
  | .slot i, v => c'.σ[i]? = some (some v)
/-- what a def hands back: as RR, but what is owned may have been owned by a slot -/
def RT (c c' : Cfg) : R → V → Prop
  | .val d, v => Rep K mg c'.F d v
  | .tmp d, v => ∃ ft, Own K mg c'.F c'.H d v ft ∧ ∀ b ∈ ft, c'.F b = none ∧ c'.H b ≠ none ∧ ((∃ j, b ∈ c.fp j) ∨ c.H b = none) ∧ ∀ i, b ∉ c'.fp i
  | .slot _, _ => False
end
variable [HasT]
abbrev WE := Env → (R → Env → Prop) → (Ex → Env → Prop) → Prop
abbrev WT := Env → (Bool → Env → Prop) → (Ex → Env → Prop) → Prop
abbrev WK := Env → (D → Env → Prop) → (Ex → Env → Prop) → Prop
structure PEnds where
  nx : Env → Prop
  rt : R → Env → Prop := fun _ _ => False
  bk : Env → Prop := fun _ => False
  ct : Env → Prop := fun _ => False
  ex : Ex → Env → Prop := fun _ _ => False
abbrev WS := PEnds → Env → Prop
/-- an expression, over pure data -/
def PdE (X : Cx) (XE : XK) (e : Expr) (w : WE) : Prop := ∃ t, PE X e t ∧ ∀ (c : Cfg) (Qp : R → Env → Prop) (Ep : Ex → Env → Prop) (Q : VK),
  Ok X.K X.mg c → w c.ρ Qp Ep → XOk X.K X.mg c Ep XE → (∀ v c' r, Go X.K X.mg c c' → c'.σ = c.σ → RR X.K X.mg c c' r v → Qp r c'.ρ → Q v c'.H) → t c.σ c.H Q
/-- a test -/
def PdT (X : Cx) (XE : XK) (e : Expr) (w : WT) : Prop := ∃ t, PT X e t ∧ ∀ (c : Cfg) (Qp : Bool → Env → Prop) (Ep : Ex → Env → Prop) (Q : Bool → Hp → Prop),
  Ok X.K X.mg c → w c.ρ Qp Ep → XOk X.K X.mg c Ep XE → (∀ b c', Go X.K X.mg c c' → c'.σ = c.σ → Qp b c'.ρ → Q b c'.H) → t c.σ c.H Q
def PdW (X : Cx) (XE : XK) (e : Expr) (w : WT) : Prop := ∃ t, PW X e t ∧ ∀ (c : Cfg) (Qp : Bool → Env → Prop) (Ep : Ex → Env → Prop) (Q : Bool → Hp → Prop),
  Ok X.K X.mg c → w c.ρ Qp Ep → XOk X.K X.mg c Ep XE → (∀ b c', Go X.K X.mg c c' → c'.σ = c.σ → Qp b c'.ρ → Q b c'.H) → t c.σ c.H Q
/-- a statement, a block -/
def POk (K : PySem.W.Frag) (mg : Str → Option Value) (c : Cfg) (Dp : PEnds) (D : Ends) (XE : XK) : Prop :=
  (∀ c', Go K mg c c' → Dp.nx c'.ρ → D.nx c'.σ c'.H) ∧ (∀ v c' r, Go K mg c c' → RT K mg c c' r v → Dp.rt r c'.ρ → D.rt v c'.H) ∧
  (∀ c', Go K mg c c' → Dp.bk c'.ρ → D.bk c'.σ c'.H) ∧ (∀ c', Go K mg c c' → Dp.ct c'.ρ → D.ct c'.σ c'.H) ∧ XOkS K mg c Dp.ex XE
def PdS (X : Cx) (XE : XK) (st : Stmt) (w : WS) : Prop := ∃ t, PS X st t ∧ ∀ (c : Cfg) (Dp : PEnds) (D : Ends), Ok X.K X.mg c → w Dp c.ρ → POk X.K X.mg c Dp D XE → t D c.σ c.H
def PdSs (X : Cx) (XE : XK) (st : List Stmt) (w : WS) : Prop := ∃ t, PSs X st t ∧ ∀ (c : Cfg) (Dp : PEnds) (D : Ends), Ok X.K X.mg c → w Dp c.ρ → POk X.K X.mg c Dp D XE → t D c.σ c.H
end PL
namespace PL
open PySem PySem.Spec PyProof.Rows L2
variable [HasT]
/-- only new things come -/
structure Step (F H F' H' : Hp) : Prop where
  mono : Mono F F'
  sub : Mono F' H'
  keep : ∀ a, H a ≠ none → H' a = H a ∧ (F a = none → F' a = none)
  tup : ∀ a xs, H' a = some (.tup xs) → H a = some (.tup xs) ∨ F' a = some (.tup xs)
theorem Step.refl {F H : Hp} (s : Mono F H) : Step F H F H := ⟨Mono.refl _, s, fun _ _ => ⟨rfl, fun h => h⟩, fun _ _ h => .inl h⟩
theorem Step.trans {F H F1 H1 F2 H2 : Hp} (a : Step F H F1 H1) (b : Step F1 H1 F2 H2) : Step F H F2 H2 :=
  ⟨a.mono.trans b.mono, b.sub, fun x h => by
    obtain ⟨k1, k2⟩ := a.keep x h
    obtain ⟨l1, l2⟩ := b.keep x (by rw [k1]; exact h)
    exact ⟨l1.trans k1, fun z => l2 (k2 z)⟩, fun x xs h => by
    rcases b.tup x xs h with q | q
    · rcases a.tup x xs q with q | q
      · exact .inl q
      · exact .inr (b.mono.tup q)
    · exact .inr q⟩
theorem fresh_F {F H : Hp} (s : Mono F H) {p : Addr} (h : H p = none) : F p = none := by
  cases q : F p with
  | none => rfl
  | some o => exact absurd h (s.ne q)
theorem mono_upd {F : Hp} {p : Addr} {o : HO} (h : F p = none) : Mono F (upd F p o) := .of fun b u e => by
  rw [upd_ne (ne_of_none e h)]; exact e
theorem sub_upd {F H : Hp} (s : Mono F H) {p : Addr} {o : HO} : Mono (upd F p o) (upd H p o) := fun b u e => by
  by_cases hb : b = p
  · subst hb; rw [upd_same] at e ⊢; exact ⟨_, e, .refl _⟩
  · rw [upd_ne hb] at e ⊢; exact s _ _ e
theorem sub_upd_r {F H : Hp} (s : Mono F H) {p : Addr} {o : HO} (h : F p = none) : Mono F (upd H p o) := fun b u e => by
  rw [upd_ne (ne_of_none e h)]; exact s _ _ e
theorem Step.tup' {F H : Hp} (s : Mono F H) {p : Addr} {o : HO} (h : H p = none) : Step F H (upd F p o) (upd H p o) :=
  ⟨mono_upd (fresh_F s h), sub_upd s, fun a ha => by
    have hne : a ≠ p := fun z => by subst z; exact ha h
    rw [upd_ne hne, upd_ne hne]; exact ⟨rfl, fun z => z⟩, fun a xs e => by
    by_cases z : a = p
    · subst z
      rw [upd_same] at e ⊢; exact .inr e
    · rw [upd_ne z] at e; exact .inl e⟩
theorem Step.new {F H : Hp} (s : Mono F H) {p : Addr} {o : HO} (h : H p = none) (hn : ∀ xs, o ≠ .tup xs := by intro xs z; cases z) : Step F H F (upd H p o) :=
  ⟨Mono.refl _, sub_upd_r s (fresh_F s h), fun a ha => by
    have hne : a ≠ p := fun z => by subst z; exact ha h
    rw [upd_ne hne]; exact ⟨rfl, fun z => z⟩, fun a xs e => by
    by_cases z : a = p
    · subst z
      rw [upd_same] at e; exact absurd (Option.some.inj e) (hn xs)
    · rw [upd_ne z] at e; exact .inl e⟩
theorem pl_dx {W : World} {a : Addr} {es : List (NestedKey × Addr × V)} : Pl (DxV W a es) := ⟨a, fun h ⟨o, arr, ep, _, h1, _, h2, _⟩ => ⟨o, arr, ep, h1, h2⟩⟩
theorem pl_code {c : Addr} {q : Str} : ¬ Pl (LamX.CodeO c q) := fun ⟨a, h⟩ => by
  have hg : ∀ b, b < c + 1 → (({ objs := Array.replicate (c + 1) { cls := .none, data := .fields #[.none, .str q 0] } } : Heap).get? b) = some { cls := .none, data := .fields #[.none, .str q 0] } := fun b hb => by
    unfold Heap.get?
    simp [Array.getElem?_replicate, hb]
  have hn : ∀ b, ¬ b < c + 1 → (({ objs := Array.replicate (c + 1) { cls := .none, data := .fields #[.none, .str q 0] } } : Heap).get? b) = none := fun b hb => by
    unfold Heap.get?
    simp [Array.getElem?_replicate, hb]
  obtain ⟨o, arr, ep, h1, h2⟩ := h { objs := Array.replicate (c + 1) { cls := .none, data := .fields #[.none, .str q 0] } } ⟨_, #[.none, .str q 0], 0, hg c (Nat.lt_succ_self c), rfl, rfl⟩
  by_cases hb : a < c + 1
  · rw [hg a hb] at h1; cases h1; cases h2
  · rw [hn a hb] at h1; cases h1
/-- neither a table nor a code object -/
theorem tabs_keep {T : List (Addr × Str)} {H H' : Hp} (t : LamX.Tabs T H) (e : ∀ b o, H b = some o → ¬ Pl o → H' b = some o) : LamX.Tabs T H' := fun p hp => by
  obtain ⟨ps, h1, h2, h3⟩ := t p hp
  refine ⟨ps, e _ _ h1 (fun z => z), h2, fun pos cv hc => ?_⟩
  obtain ⟨c, e1, e2⟩ := h3 pos cv hc
  exact ⟨c, e1, e _ _ e2 pl_code⟩
theorem tabs_upd {T : List (Addr × Str)} {H : Hp} {a : Addr} {u : HO} (t : LamX.Tabs T H) (h : ∀ o, H a = some o → Pl o) : LamX.Tabs T (upd H a u) :=
  tabs_keep t fun b o e n => by
    by_cases hb : b = a
    · subst hb; exact absurd (h o e) n
    · rw [upd_ne hb]; exact e
theorem pl_none {H : Hp} {A : Addr} (h : H A = none) : ∀ u, H A = some u → Pl u := fun u e => by rw [h] at e; cases e
theorem pl_some {H : Hp} {A : Addr} {o : HO} (h : H A = some o) (p : Pl o) : ∀ u, H A = some u → Pl u := fun u e => by rw [h] at e; cases e; exact p
theorem nt_of {H : Hp} {A : Addr} {o : HO} (h : H A = some o) (p : Pl o) : ∀ ps, H A ≠ some (.tbl ps) := fun ps z => by rw [h] at z; cases z; exact p
section
variable {K : PySem.W.Frag} {mg : Str → Option Value}
theorem ownF_pl {F H : Hp} {d : D} {v : V} {a : Addr} (o : OwnF K mg F H d v a) : ∃ u, H a = some u ∧ Pl u := by
  cases d with
  | lst ds => obtain ⟨e, xs, h1, h2⟩ := o; exact ⟨_, h1, True.intro⟩
  | dic ks ds => obtain ⟨e, xs, h1, h2⟩ := o; exact ⟨_, h1, True.intro⟩
  | dit ks ds => obtain ⟨e, xs, h1, h2⟩ := o; exact ⟨_, h1, True.intro⟩
  | _ => exact o.elim
theorem boxL_pl {F H : Hp} : ∀ {ds : List D} {xs : List V} {ft : List Addr}, BoxL K mg F H ds xs ft → ∀ b ∈ ft, ∃ u, H b = some u ∧ Pl u
  | [], _, _, o, b, hb => by obtain ⟨_, rfl⟩ := o; cases hb
  | d :: ds, _, ft, ⟨x, r, e, o⟩, b, hb => by
    by_cases hx : isBx d = true
    · rw [if_pos hx] at o
      obtain ⟨a, f2, rfl, o1, o2⟩ := o
      rcases List.mem_cons.mp hb with rfl | hb
      · exact ownF_pl o1
      · exact boxL_pl o2 b hb
    · rw [if_neg hx] at o
      exact boxL_pl o.2 b hb
theorem own0_pl {F H : Hp} {d : D} {v : V} {ft : List Addr} (o : Own0 K mg F H d v ft) : ∀ b ∈ ft, ∃ u, H b = some u ∧ Pl u := by
  cases d with
  | lst ds => obtain ⟨a, xs, e, rfl, h1, h2⟩ := o; intro b hb; obtain rfl : b = a := (by simpa using hb); exact ⟨_, h1, True.intro⟩
  | dic ks ds => obtain ⟨a, xs, e, rfl, h1, h2⟩ := o; intro b hb; obtain rfl : b = a := (by simpa using hb); exact ⟨_, h1, True.intro⟩
  | dit ks ds => obtain ⟨a, xs, e, rfl, h1, h2⟩ := o; intro b hb; obtain rfl : b = a := (by simpa using hb); exact ⟨_, h1, True.intro⟩
  | obj c fs ds =>
    obtain ⟨a, C, dx, gs, f2, g, e, rfl, nd, h0, h1, h2, h3, h4⟩ := o
    intro b hb
    rcases List.mem_cons.mp hb with rfl | hb
    · exact ⟨_, h1, True.intro⟩
    · rcases List.mem_append.mp hb with hb | hb
      · exact boxL_pl h3 b hb
      · exact h4 b hb
  | _ => exact o.elim
theorem parts_pl {F H : Hp} : ∀ {ds : List D} {xs : List V} {ft : List Addr}, PartsL K mg F H ds xs ft → ∀ b ∈ ft, ∃ u, H b = some u ∧ Pl u
  | [], _, _, ⟨_, e⟩, b, hb => by rw [e] at hb; cases hb
  | d :: ds, _, ft, ⟨x, r, e, o⟩, b, hb => by
    by_cases hx : isBx d = true
    · rw [if_pos hx] at o
      obtain ⟨f1, f2, rfl, dj, o1, o2⟩ := o
      rcases List.mem_append.mp hb with hb | hb
      · exact own0_pl o1 b hb
      · exact parts_pl o2 b hb
    · rw [if_neg hx] at o
      exact parts_pl o.2 b hb
theorem own_pl {F H : Hp} {d : D} {v : V} {ft : List Addr} (o : Own K mg F H d v ft) : ∀ b ∈ ft, ∃ u, H b = some u ∧ Pl u := by
  cases d with
  | lst ds => obtain ⟨a, xs, e, rfl, h1, h2⟩ := o; intro b hb; obtain rfl : b = a := (by simpa using hb); exact ⟨_, h1, True.intro⟩
  | dic ks ds => obtain ⟨a, xs, e, rfl, h1, h2⟩ := o; intro b hb; obtain rfl : b = a := (by simpa using hb); exact ⟨_, h1, True.intro⟩
  | dit ks ds => obtain ⟨a, xs, e, rfl, h1, h2⟩ := o; intro b hb; obtain rfl : b = a := (by simpa using hb); exact ⟨_, h1, True.intro⟩
  | dix W ks ds =>
    obtain ⟨a, es, rfl, rfl, h1, _⟩ := o
    exact fun b hb => by
      rw [List.mem_singleton.mp hb]
      exact ⟨_, h1, pl_dx⟩
  | obj c fs ds =>
    obtain ⟨a, C, dx, gs, f2, g, e, rfl, nd, h0, h1, h2, h3, h4⟩ := o
    intro b hb
    rcases List.mem_cons.mp hb with rfl | hb
    · exact ⟨_, h1, True.intro⟩
    · rcases List.mem_append.mp hb with hb | hb
      · exact boxL_pl h3 b hb
      · exact h4 b hb
  | draw =>
    obtain ⟨a, l, e, rfl, ne, ⟨c, rest, turn, mix, h1, _⟩, ls, h3, _⟩ := o
    intro b hb
    rcases List.mem_cons.mp hb with rfl | hb
    · exact ⟨_, h1, True.intro⟩
    · obtain rfl : b = l := by simpa using hb
      exact ⟨_, h3, True.intro⟩
  | box d =>
    rcases o with ⟨rfl, _⟩ | ⟨ds, a, xs, e, e2, h1, h2⟩
    · exact fun b hb => by cases hb
    · exact parts_pl h2
  | _ => exact o.elim
theorem EntOk.frame {F H F' H' : Hp} {e : Ent} {v : V} {ft : List Addr} (o : EntOk K mg F H e v ft) (m : Mono F F') (h : ∀ b ∈ ft, H' b = H b) : EntOk K mg F' H' e v ft := by
  cases e with
  | val d => exact ⟨o.1.mono K mg m _ _, o.2⟩
  | own b d => exact Own.frame K mg o m h
theorem Step.go {c : Cfg} (ok : Ok K mg c) {F' H' : Hp} (s : Step c.F c.H F' H') : Go K mg c { c with F := F', H := H' } := by
  refine ⟨⟨ok.tabs.ext (fun b o e => by show H' b = some o; rw [(s.keep b (by rw [e]; simp)).1]; exact e), s.sub, ok.len, fun i e h => ?_, ok.non, fun i b hb => ?_, ok.disj, fun a xs e => by
    rcases s.tup a xs e with q | q
    · exact s.mono.tup (ok.tf a xs q)
    · exact q⟩, ⟨s.mono, fun a h1 h2 _ _ => ⟨(s.keep a h2).2 h1, (s.keep a h2).1⟩, fun a h => by show H' a ≠ none; rw [(s.keep a h).1]; exact h⟩, fun i b hb => .inl ⟨i, hb⟩, fun i d h => ⟨d, h, Grw.refl _ _, rfl⟩⟩
  · obtain ⟨v, hv, eo⟩ := ok.slot i e h
    exact ⟨v, hv, eo.frame s.mono fun b hb => (s.keep b (ok.out i b hb).2).1⟩
  · obtain ⟨h1, h2⟩ := ok.out i b hb
    exact ⟨(s.keep b h2).2 h1, by show H' b ≠ none; rw [(s.keep b h2).1]; exact h2⟩
theorem ent_pl {F H : Hp} {e : Ent} {v : V} {ft : List Addr} (o : EntOk K mg F H e v ft) : ∀ b ∈ ft, ∃ u, H b = some u ∧ Pl u := by
  cases e with
  | val d => intro b hb; rw [o.2] at hb; cases hb
  | own b d => exact own_pl o
def frz : D → Prop → Prop
  | .lst _, p => p
  | .dic _ _, p => p
  | .dit _ _, p => p
  | .dix _ _ _, p => p
  | .obj _ _ _, p => p
  | _, _ => False
/-- the addresses ft are frozen as they stand -/
def frzF (F H : Hp) (ft : List Addr) : Hp := fun b => if b ∈ ft then H b else F b
theorem frzF_in {F H : Hp} {ft : List Addr} {b : Addr} (h : b ∈ ft) : frzF F H ft b = H b := by unfold frzF; rw [if_pos h]
theorem frzF_out {F H : Hp} {ft : List Addr} {b : Addr} (h : b ∉ ft) : frzF F H ft b = F b := by unfold frzF; rw [if_neg h]
theorem frzF_mono {F H : Hp} {ft : List Addr} (h : ∀ b ∈ ft, F b = none) : Mono F (frzF F H ft) := .of fun b o e => by
  rw [frzF_out fun z => by rw [h b z] at e; cases e]; exact e
theorem frzF_sub {F H : Hp} {ft : List Addr} (s : Mono F H) : Mono (frzF F H ft) H := fun b o e => by
  by_cases hb : b ∈ ft
  · rw [frzF_in hb] at e; exact ⟨o, e, .refl o⟩
  · rw [frzF_out hb] at e; exact s b o e
theorem frzF_tf {F H : Hp} {ft : List Addr} (t : TupF F H) : TupF (frzF F H ft) H := fun a xs e => by
  by_cases h : a ∈ ft
  · rw [frzF_in h]; exact e
  · rw [frzF_out h]; exact t a xs e
theorem ownF_rep {F H F' : Hp} {d : D} {v : V} {a : Addr} (o : OwnF K mg F H d v a) (m : Mono F F') (h : F' a = H a) : Rep K mg F' d v := by
  cases d with
  | lst ds => obtain ⟨e, xs, h1, h2⟩ := o; exact ⟨a, xs, e, h.trans h1, h2.mono K mg m _ _⟩
  | dic ks ds => obtain ⟨e, kvs, h1, h2, h3⟩ := o; exact ⟨a, kvs, e, .inl (h.trans h1), h2, h3.mono K mg m _ _⟩
  | dit ks ds => obtain ⟨e, kvs, h1, h2, h3⟩ := o; exact ⟨a, kvs, e, .inl (h.trans h1), h2, h3.mono K mg m _ _⟩
  | _ => exact o.elim
theorem boxL_rep {F H F' : Hp} (m : Mono F F') : ∀ {ds : List D} {xs : List V} {ft : List Addr}, BoxL K mg F H ds xs ft → (∀ b ∈ ft, F' b = H b) → RepL K mg F' ds xs
  | [], _, _, o, _ => o.1
  | d :: ds, _, ft, ⟨x, r, e, o⟩, h => by
    by_cases hx : isBx d = true
    · rw [if_pos hx] at o
      obtain ⟨a, f2, rfl, o1, o2⟩ := o
      cases d with
      | box d =>
        have hr : Rep K mg F' d x := ownF_rep (d := d) o1 m (h a (by simp))
        exact ⟨x, r, e, hr, boxL_rep m o2 fun b hb => h b (by simp [hb])⟩
      | _ => cases hx
    · rw [if_neg hx] at o
      exact ⟨x, r, e, o.1.mono K mg m _ _, boxL_rep m o.2 h⟩
theorem frz_own {F H : Hp} {d : D} {v : V} {ft : List Addr} {p : Prop} (o : Own K mg F H d v ft) (f : frz d p) :
    p ∧ ∀ F', Mono F F' → (∀ b ∈ ft, F' b = H b) → Rep K mg F' d v := by
  cases d with
  | lst ds =>
    obtain ⟨a, xs, e, rfl, h1, h2⟩ := o
    exact ⟨f, fun F' m h => ⟨a, xs, e, (h a (by simp)).trans h1, h2.mono K mg m _ _⟩⟩
  | dic ks ds =>
    obtain ⟨a, kvs, e, rfl, h1, h2, h3⟩ := o
    exact ⟨f, fun F' m h => ⟨a, kvs, e, .inl ((h a (by simp)).trans h1), h2, h3.mono K mg m _ _⟩⟩
  | dit ks ds =>
    obtain ⟨a, kvs, e, rfl, h1, h2, h3⟩ := o
    exact ⟨f, fun F' m h => ⟨a, kvs, e, .inl ((h a (by simp)).trans h1), h2, h3.mono K mg m _ _⟩⟩
  | dix W ks ds =>
    obtain ⟨a, es, e, rfl, h1, h2, h3, h4⟩ := o
    exact ⟨f, fun F' m h => ⟨a, es, e, (h a (by simp)).trans h1, h2, fun x hx => (h3 x hx).mono K m _ _, h4.mono K mg m _ _⟩⟩
  | obj c fs ds =>
    obtain ⟨a, C, dx, gs, f2, g, e, rfl, nd, h0, h1, h2, h3, h4⟩ := o
    exact ⟨f, fun F' m h => ⟨a, C, dx, gs, e, h0, (h a (by simp)).trans h1, h2, boxL_rep m h3 fun b hb => h b (by simp [hb])⟩⟩
  | _ => exact f.elim
theorem freeze_tmp {c c1 : Cfg} {d : D} {v : V} {p : Prop} (g : Go K mg c c1) (r : RR K mg c c1 (.tmp d) v) (f : frz d p) :
    p ∧ ∃ F', Go K mg c { c1 with F := F' } ∧ Rep K mg F' d v := by
  obtain ⟨ft, o, hf⟩ := r
  obtain ⟨hp, hr⟩ := frz_own o f
  have m : Mono c1.F (frzF c1.F c1.H ft) := frzF_mono fun b hb => (hf b hb).1
  refine ⟨hp, frzF c1.F c1.H ft, ⟨⟨g.ok.tabs, frzF_sub g.ok.sub, g.ok.len, fun i e h => ?_, g.ok.non, fun i b hb => ?_, g.ok.disj, frzF_tf g.ok.tf⟩, ⟨g.fr.mono.trans m, fun b k1 k2 k3 k4 => ?_, g.fr.grow⟩, g.orig, g.bor⟩, hr _ m fun b hb => frzF_in hb⟩
  · obtain ⟨w, hw, eo⟩ := g.ok.slot i e h
    exact ⟨w, hw, eo.frame m fun _ _ => rfl⟩
  · have hne : b ∉ ft := fun z => (hf b z).2.2.2 i hb
    obtain ⟨q1, q2⟩ := g.ok.out i b hb
    exact ⟨by show frzF c1.F c1.H ft b = none; rw [frzF_out hne]; exact q1, q2⟩
  · obtain ⟨q1, q2⟩ := g.fr.keep b k1 k2 k3 k4
    have hne : b ∉ ft := fun z => k2 (hf b z).2.2.1
    exact ⟨by show frzF c1.F c1.H ft b = none; rw [frzF_out hne]; exact q1, q2⟩
def fpSet (fp : Nat → List Addr) (i : Nat) (ft : List Addr) : Nat → List Addr := fun j => if j = i then ft else fp j
theorem fpSet_same {fp : Nat → List Addr} {i : Nat} {ft : List Addr} : fpSet fp i ft i = ft := by unfold fpSet; rw [if_pos rfl]
theorem fpSet_ne {fp : Nat → List Addr} {i j : Nat} {ft : List Addr} (h : j ≠ i) : fpSet fp i ft j = fp j := by unfold fpSet; rw [if_neg h]
theorem Ok.own {c : Cfg} (ok : Ok K mg c) {i : Nat} {b : Bool} {d : D} (h : c.ρ[i]? = some (some (.own b d))) : ∃ v, c.σ[i]? = some (some v) ∧ Own K mg c.F c.H d v (c.fp i) := ok.slot i _ h
theorem Ok.val {c : Cfg} (ok : Ok K mg c) {i : Nat} {d : D} (h : c.ρ[i]? = some (some (.val d))) : ∃ v, c.σ[i]? = some (some v) ∧ Rep K mg c.F d v ∧ c.fp i = [] := ok.slot i _ h
theorem set_get {α : Type} {l : List α} {i j : Nat} {x y : α} (h : (l.set i x)[j]? = some y) : (j = i ∧ y = x) ∨ (j ≠ i ∧ l[j]? = some y) := by
  by_cases hj : j = i
  · subst hj
    have hl : j < (l.set j x).length := (List.getElem?_eq_some_iff.mp h).1
    rw [List.getElem?_set_self (by simpa using hl)] at h
    exact .inl ⟨rfl, (Option.some.inj h).symm⟩
  · rw [List.getElem?_set_ne (Ne.symm hj)] at h
    exact .inr ⟨hj, h⟩
theorem freeze_slot {c : Cfg} (ok : Ok K mg c) {i : Nat} {d : D} {p : Prop} (h : c.ρ[i]? = some (some (.own false d))) (f : frz d p) :
    p ∧ ∃ v F', c.σ[i]? = some (some v) ∧ Rep K mg F' d v ∧ Go K mg c { c with F := F', ρ := c.ρ.set i (some (.val d)), fp := fpSet c.fp i [] } := by
  obtain ⟨v, hv, o⟩ := ok.own h
  obtain ⟨hp, hr⟩ := frz_own o f
  have m : Mono c.F (frzF c.F c.H (c.fp i)) := frzF_mono fun b hb => (ok.out i b hb).1
  have hrr := hr _ m fun b hb => frzF_in hb
  have il : i < c.ρ.length := (List.getElem?_eq_some_iff.mp h).1
  refine ⟨hp, v, frzF c.F c.H (c.fp i), hv, hrr, ⟨⟨ok.tabs, frzF_sub ok.sub, by simpa using ok.len, fun j x q => ?_, fun j q => ?_, fun j b hb => ?_, fun j k b h1 h2 => ?_, frzF_tf ok.tf⟩, ⟨m, fun b k1 k2 k3 k4 => ?_, fun _ z => z⟩, fun j b hb => ?_, fun j y q => ?_⟩⟩
  · rcases set_get q with ⟨rfl, ex⟩ | ⟨hj, q'⟩
    · cases ex
      exact ⟨v, hv, hrr, fpSet_same⟩
    · obtain ⟨w, hw, eo⟩ := ok.slot j x q'
      refine ⟨w, hw, ?_⟩
      show EntOk K mg (frzF c.F c.H (c.fp i)) c.H x w (fpSet c.fp i [] j)
      rw [fpSet_ne hj]
      exact eo.frame m fun _ _ => rfl
  · show fpSet c.fp i [] j = []
    by_cases hj : j = i
    · subst hj; exact fpSet_same
    · rw [fpSet_ne hj]
      exact ok.non j fun e z => q e (by show (c.ρ.set i _)[j]? = _; rw [List.getElem?_set_ne (Ne.symm hj)]; exact z)
  · replace hb : b ∈ fpSet c.fp i [] j := hb
    have hj : j ≠ i := fun z => by
      subst z
      rw [show fpSet c.fp j [] j = [] from fpSet_same] at hb; cases hb
    rw [show fpSet c.fp i [] j = c.fp j from fpSet_ne hj] at hb
    obtain ⟨q1, q2⟩ := ok.out j b hb
    have hne : b ∉ c.fp i := fun z => hj (ok.disj j i b hb z)
    exact ⟨by show frzF c.F c.H (c.fp i) b = none; rw [frzF_out hne]; exact q1, q2⟩
  · replace h1 : b ∈ fpSet c.fp i [] j := h1
    replace h2 : b ∈ fpSet c.fp i [] k := h2
    by_cases hj : j = i
    · subst hj
      rw [show fpSet c.fp j [] j = [] from fpSet_same] at h1; cases h1
    · by_cases hk : k = i
      · subst hk
        rw [show fpSet c.fp k [] k = [] from fpSet_same] at h2; cases h2
      · rw [show fpSet c.fp i [] j = c.fp j from fpSet_ne hj] at h1
        rw [show fpSet c.fp i [] k = c.fp k from fpSet_ne hk] at h2
        exact ok.disj j k b h1 h2
  · have hne : b ∉ c.fp i := k3 i
    exact ⟨by show frzF c.F c.H (c.fp i) b = none; rw [frzF_out hne]; exact k1, rfl⟩
  · replace hb : b ∈ fpSet c.fp i [] j := hb
    by_cases hj : j = i
    · subst hj
      rw [show fpSet c.fp j [] j = [] from fpSet_same] at hb; cases hb
    · rw [show fpSet c.fp i [] j = c.fp j from fpSet_ne hj] at hb
      exact .inl ⟨j, hb⟩
  · have hj : j ≠ i := fun z => by subst z; rw [h] at q; cases q
    exact ⟨y, by show (c.ρ.set i _)[j]? = _; rw [List.getElem?_set_ne (Ne.symm hj)]; exact q, by rw [show ({ c with F := frzF c.F c.H (c.fp i), ρ := c.ρ.set i (some (.val d)), fp := fpSet c.fp i [] } : Cfg).fp j = c.fp j from fpSet_ne hj]; exact Grw.refl _ _, rfl⟩
/-- slot i takes what came: ft are its addresses, all of them new since c -/
theorem set_slot {c c1 : Cfg} (g : Go K mg c c1) {i : Nat} {e : Ent} {v : V} {ft : List Addr} (il : i < c1.ρ.length) (nb : ∀ d, c1.ρ[i]? ≠ some (some (.own true d)))
    (eo : EntOk K mg c1.F c1.H e v ft) (nt : ∀ d, e ≠ .own true d) (hf : ∀ b ∈ ft, c1.F b = none ∧ c1.H b ≠ none ∧ c.H b = none ∧ ∀ i, b ∉ c1.fp i) :
    Go K mg c { c1 with σ := c1.σ.set i (some v), ρ := c1.ρ.set i (some e), fp := fpSet c1.fp i ft } := by
  have hlen := g.ok.len
  refine ⟨⟨g.ok.tabs, g.ok.sub, by simpa using hlen, fun j x q => ?_, fun j q => ?_, fun j b hb => ?_, fun j k b h1 h2 => ?_, g.ok.tf⟩, g.fr, fun j b hb => ?_, fun j y q => ?_⟩
  · rcases set_get q with ⟨rfl, ex⟩ | ⟨hj, q'⟩
    · cases ex
      refine ⟨v, by show (c1.σ.set j _)[j]? = _; rw [List.getElem?_set_self (by omega)], ?_⟩
      show EntOk K mg c1.F c1.H e v (fpSet c1.fp j ft j)
      rw [fpSet_same]; exact eo
    · obtain ⟨w, hw, eo'⟩ := g.ok.slot j x q'
      refine ⟨w, by show (c1.σ.set i _)[j]? = _; rw [List.getElem?_set_ne (Ne.symm hj)]; exact hw, ?_⟩
      show EntOk K mg c1.F c1.H x w (fpSet c1.fp i ft j)
      rw [fpSet_ne hj]; exact eo'
  · show fpSet c1.fp i ft j = []
    by_cases hj : j = i
    · subst hj
      exact absurd (show (c1.ρ.set j (some e))[j]? = some (some e) by rw [List.getElem?_set_self il]) (q e)
    · rw [fpSet_ne hj]
      exact g.ok.non j fun e' z => q e' (by show (c1.ρ.set i _)[j]? = _; rw [List.getElem?_set_ne (Ne.symm hj)]; exact z)
  · replace hb : b ∈ fpSet c1.fp i ft j := hb
    by_cases hj : j = i
    · subst hj
      rw [show fpSet c1.fp j ft j = ft from fpSet_same] at hb
      exact ⟨(hf b hb).1, (hf b hb).2.1⟩
    · rw [show fpSet c1.fp i ft j = c1.fp j from fpSet_ne hj] at hb
      exact g.ok.out j b hb
  · replace h1 : b ∈ fpSet c1.fp i ft j := h1
    replace h2 : b ∈ fpSet c1.fp i ft k := h2
    by_cases hj : j = i
    · subst hj
      rw [show fpSet c1.fp j ft j = ft from fpSet_same] at h1
      by_cases hk : k = j
      · exact hk.symm
      · rw [show fpSet c1.fp j ft k = c1.fp k from fpSet_ne hk] at h2
        exact absurd h2 ((hf b h1).2.2.2 k)
    · rw [show fpSet c1.fp i ft j = c1.fp j from fpSet_ne hj] at h1
      by_cases hk : k = i
      · subst hk
        rw [show fpSet c1.fp k ft k = ft from fpSet_same] at h2
        exact absurd h1 ((hf b h2).2.2.2 j)
      · rw [show fpSet c1.fp i ft k = c1.fp k from fpSet_ne hk] at h2
        exact g.ok.disj j k b h1 h2
  · replace hb : b ∈ fpSet c1.fp i ft j := hb
    by_cases hj : j = i
    · subst hj
      rw [show fpSet c1.fp j ft j = ft from fpSet_same] at hb
      exact .inr (hf b hb).2.2.1
    · rw [show fpSet c1.fp i ft j = c1.fp j from fpSet_ne hj] at hb
      exact g.orig j b hb
  · obtain ⟨d', h1, h2, h3⟩ := g.bor j y q
    have hj : j ≠ i := fun z => by subst z; exact nb d' h1
    exact ⟨d', by show (c1.ρ.set i _)[j]? = _; rw [List.getElem?_set_ne (Ne.symm hj)]; exact h1, by rw [show ({ c1 with σ := c1.σ.set i (some v), ρ := c1.ρ.set i (some e), fp := fpSet c1.fp i ft } : Cfg).fp j = c1.fp j from fpSet_ne hj]; exact h2, by show (c1.σ.set i _)[j]? = _; rw [List.getElem?_set_ne (Ne.symm hj)]; exact h3⟩
/-- what slot i owns is changed; it may own more, new addresses -/
theorem write_slot2 {c : Cfg} (ok : Ok K mg c) {i : Nat} {b : Bool} {d d' : D} {v : V} {H' : Hp} {ft : List Addr} (h : c.ρ[i]? = some (some (.own b d))) (hv : c.σ[i]? = some (some v)) (o : Own K mg c.F H' d' v ft)
    (hk : ∀ a, a ∉ c.fp i → c.H a ≠ none → H' a = c.H a) (hs : ∀ a, c.H a ≠ none → H' a ≠ none) (hf : Grw (c.fp i) ft c.H) (ht : TupF c.F H') : Go K mg c { c with H := H', ρ := c.ρ.set i (some (.own b d')), fp := fpSet c.fp i ft } := by
  have il : i < c.ρ.length := (List.getElem?_eq_some_iff.mp h).1
  have fF : ∀ a ∈ ft, c.F a = none ∧ H' a ≠ none := fun a ha => by
    refine ⟨?_, ?_⟩
    · rcases hf.2 a ha with q | q
      · exact (ok.out i a q).1
      · exact fresh_F ok.sub q
    · obtain ⟨u, e, _⟩ := own_pl o a ha
      rw [e]; simp
  have nf : ∀ j a, j ≠ i → a ∈ c.fp j → a ∉ ft := fun j a hj ha z => by
    rcases hf.2 a z with q | q
    · exact hj (ok.disj j i a ha q)
    · exact (ok.out j a ha).2 q
  have keepF : ∀ a u, c.F a = some u → H' a = c.H a := fun a u ha => by
    obtain ⟨o', e, _⟩ := ok.sub a u ha
    exact hk a (fun z => by rw [(ok.out i a z).1] at ha; cases ha) (by rw [e]; simp)
  refine ⟨⟨tabs_keep ok.tabs fun a u e n => by
    show H' a = some u
    rw [hk a (fun z => by
      obtain ⟨v', hv', o'⟩ := ok.own h
      obtain ⟨u', e', n'⟩ := own_pl o' a z
      rw [e] at e'; cases e'
      exact n n') (by rw [e]; simp)]
    exact e, fun a u e => ?_, by simpa using ok.len, fun j x q => ?_, fun j q => ?_, fun j a ha => ?_, fun j k a h1 h2 => ?_, ht⟩, ⟨Mono.refl _, fun a h1 h2 h3 _ => ⟨h1, hk a (h3 i) h2⟩, fun a ha => hs a ha⟩, fun j a ha => ?_, fun j y q => ?_⟩
  · show ∃ o', H' a = some o' ∧ HLe u o'
    rw [keepF a u e]; exact ok.sub _ _ e
  · rcases set_get q with ⟨rfl, ex⟩ | ⟨hj, q'⟩
    · cases ex
      refine ⟨v, hv, ?_⟩
      show EntOk K mg c.F H' (.own b d') v (fpSet c.fp j ft j)
      rw [fpSet_same]; exact o
    · obtain ⟨w, hw, eo⟩ := ok.slot j x q'
      refine ⟨w, hw, ?_⟩
      show EntOk K mg c.F H' x w (fpSet c.fp i ft j)
      rw [fpSet_ne hj]
      exact eo.frame (Mono.refl _) fun a ha => hk a (fun z => hj (ok.disj j i a ha z)) (ok.out j a ha).2
  · show fpSet c.fp i ft j = []
    by_cases hj : j = i
    · subst hj
      exact absurd (show (c.ρ.set j (some (.own b d')))[j]? = some (some (.own b d')) by rw [List.getElem?_set_self il]) (q _)
    · rw [fpSet_ne hj]
      exact ok.non j fun e' z => q e' (by show (c.ρ.set i _)[j]? = _; rw [List.getElem?_set_ne (Ne.symm hj)]; exact z)
  · replace ha : a ∈ fpSet c.fp i ft j := ha
    by_cases hj : j = i
    · subst hj
      rw [show fpSet c.fp j ft j = ft from fpSet_same] at ha
      exact fF a ha
    · rw [show fpSet c.fp i ft j = c.fp j from fpSet_ne hj] at ha
      exact ⟨(ok.out j a ha).1, hs a (ok.out j a ha).2⟩
  · replace h1 : a ∈ fpSet c.fp i ft j := h1
    replace h2 : a ∈ fpSet c.fp i ft k := h2
    by_cases hj : j = i
    · subst hj
      rw [show fpSet c.fp j ft j = ft from fpSet_same] at h1
      by_cases hk : k = j
      · exact hk.symm
      · rw [show fpSet c.fp j ft k = c.fp k from fpSet_ne hk] at h2
        exact absurd h1 (nf k a hk h2)
    · rw [show fpSet c.fp i ft j = c.fp j from fpSet_ne hj] at h1
      by_cases hk : k = i
      · subst hk
        rw [show fpSet c.fp k ft k = ft from fpSet_same] at h2
        exact absurd h2 (nf j a hj h1)
      · rw [show fpSet c.fp i ft k = c.fp k from fpSet_ne hk] at h2
        exact ok.disj j k a h1 h2
  · replace ha : a ∈ fpSet c.fp i ft j := ha
    by_cases hj : j = i
    · subst hj
      rw [show fpSet c.fp j ft j = ft from fpSet_same] at ha
      rcases hf.2 a ha with q | q
      · exact .inl ⟨j, q⟩
      · exact .inr q
    · rw [show fpSet c.fp i ft j = c.fp j from fpSet_ne hj] at ha
      exact .inl ⟨j, ha⟩
  · by_cases hj : j = i
    · subst hj
      rw [h] at q; cases q
      refine ⟨d', by show (c.ρ.set j _)[j]? = _; rw [List.getElem?_set_self il], ?_, rfl⟩
      rw [show ({ c with H := H', ρ := c.ρ.set j (some (.own true d')), fp := fpSet c.fp j ft } : Cfg).fp j = ft from fpSet_same]
      exact hf
    · refine ⟨y, by show (c.ρ.set i _)[j]? = _; rw [List.getElem?_set_ne (Ne.symm hj)]; exact q, ?_, rfl⟩
      rw [show ({ c with H := H', ρ := c.ρ.set i (some (.own b d')), fp := fpSet c.fp i ft } : Cfg).fp j = c.fp j from fpSet_ne hj]
      exact Grw.refl _ _
/-- all tuples frozen -/
def tupCl (F H : Hp) : Hp := fun b => match H b with
  | some (.tup xs) => some (.tup xs)
  | _ => F b
theorem tupCl_tup {F H : Hp} {b : Addr} {xs : List V} (h : H b = some (.tup xs)) : tupCl F H b = some (.tup xs) := by unfold tupCl; rw [h]
theorem tupCl_not {F H : Hp} {b : Addr} (h : ∀ xs, H b ≠ some (.tup xs)) : tupCl F H b = F b := by
  unfold tupCl
  split
  next xs e => exact absurd e (h xs)
  next => rfl
theorem tupCl_cases (F H : Hp) (b : Addr) : (∃ xs, H b = some (.tup xs) ∧ tupCl F H b = some (.tup xs)) ∨ ((∀ xs, H b ≠ some (.tup xs)) ∧ tupCl F H b = F b) := by
  by_cases h : ∃ xs, H b = some (.tup xs)
  · obtain ⟨xs, h⟩ := h
    exact .inl ⟨xs, h, tupCl_tup h⟩
  · exact .inr ⟨fun xs z => h ⟨xs, z⟩, tupCl_not fun xs z => h ⟨xs, z⟩⟩
theorem tupCl_tf (F H : Hp) : TupF (tupCl F H) H := fun a xs h => tupCl_tup h
theorem tupCl_sub {F H : Hp} (s : Mono F H) : Mono (tupCl F H) H := fun b o e => by
  rcases tupCl_cases F H b with ⟨xs, h1, h2⟩ | ⟨_, h2⟩
  · rw [h2] at e; cases e; exact ⟨_, h1, .refl _⟩
  · rw [h2] at e; exact s b o e
theorem tupCl_mono {F H : Hp} (s : Mono F H) : Mono F (tupCl F H) := .of fun b o e => by
  rcases tupCl_cases F H b with ⟨xs, h1, h2⟩ | ⟨_, h2⟩
  · obtain ⟨o', e', l⟩ := s b o e
    rw [h1] at e'; cases e'
    rcases l with rfl | ⟨_, z, _⟩ | ⟨_, _, _, z⟩
    · exact h2
    · cases z
    · cases z
  · rw [h2]; exact e
theorem tf_upd {F H : Hp} {a : Addr} {o : HO} (t : TupF F H) (hn : ∀ xs, o ≠ .tup xs := by intro xs z; cases z) : TupF F (upd H a o) := fun b xs e => by
  by_cases z : b = a
  · subst z; rw [upd_same] at e; exact absurd (Option.some.inj e) (hn xs)
  · rw [upd_ne z] at e; exact t b xs e
theorem fpSet_id {fp : Nat → List Addr} {i : Nat} : fpSet fp i (fp i) = fp := by
  funext j
  unfold fpSet
  split
  · next h => rw [h]
  · rfl
/-- what slot i owns is changed -/
theorem write_slot {c : Cfg} (ok : Ok K mg c) {i : Nat} {b : Bool} {d d' : D} {v : V} {H' : Hp} (h : c.ρ[i]? = some (some (.own b d))) (hv : c.σ[i]? = some (some v)) (o : Own K mg c.F H' d' v (c.fp i))
    (hk : ∀ a, a ∉ c.fp i → H' a = c.H a) (hs : ∀ a ∈ c.fp i, H' a ≠ none) : Go K mg c { c with H := H', ρ := c.ρ.set i (some (.own b d')) } := by
  have := write_slot2 (ft := c.fp i) ok h hv o (fun a ha _ => hk a ha) (fun a ha => by
    by_cases hi : a ∈ c.fp i
    · exact hs a hi
    · rw [hk a hi]; exact ha) (Grw.refl _ _) (fun a xs e => by
    by_cases hi : a ∈ c.fp i
    · obtain ⟨u, e', pu⟩ := own_pl o a hi
      rw [e] at e'; cases e'; exact pu.elim
    · rw [hk a hi] at e; exact ok.tf a xs e)
  rw [fpSet_id] at this
  exact this
end
def peek (ρ : Env) : R → Option D
  | .val d => some d
  | .tmp d => some d
  | .slot i => match ρ[i]? with
    | some (some e) => some e.d
    | _ => none
def wV (w : WE) : WE := fun ρ Q Ep => w ρ (fun r ρ' => match r with
  | .tmp d => frz d (Q (.val d) ρ')
  | r => Q r ρ') Ep
def wK (w : WE) : WK := fun ρ Q Ep => w ρ (fun r ρ' => match r with
  | .val d => Q d ρ'
  | .tmp d => frz d (Q d ρ')
  | .slot i => match ρ'[i]? with
    | some (some (.val d)) => Q d ρ'
    | some (some (.own false d)) => frz d (Q d (ρ'.set i (some (.val d))))
    | _ => False) Ep
/-- data to be read now: frozen, or owned by somebody -/
def See (K : PySem.W.Frag) (mg : Str → Option Value) (F H : Hp) (d : D) (v : V) : Prop := Rep K mg F d v ∨ ∃ ft, Own K mg F H d v ft
def RRV (K : PySem.W.Frag) (mg : Str → Option Value) (c : Cfg) : R → V → Prop
  | .val d, v => Rep K mg c.F d v
  | .tmp _, _ => False
  | .slot i, v => c.σ[i]? = some (some v)
section
variable {K : PySem.W.Frag} {mg : Str → Option Value}
theorem RRV.go {c c' : Cfg} {r : R} {v : V} (h : RRV K mg c r v) (g : Go K mg c c') (e : c'.σ = c.σ) : RRV K mg c' r v := by
  cases r with
  | val d => exact Rep.mono K mg g.fr.mono _ _ h
  | tmp d => exact h
  | slot i =>
    show c'.σ[i]? = _
    rw [e]; exact h
theorem RRV.see {c : Cfg} {r : R} {v : V} {d : D} (h : RRV K mg c r v) (ok : Ok K mg c) (e : peek c.ρ r = some d) : See K mg c.F c.H d v := by
  cases r with
  | val d' => cases e; exact .inl h
  | tmp d' => exact h.elim
  | slot i =>
    cases hx : c.ρ[i]? with
    | none => simp [peek, hx] at e
    | some y =>
      cases y with
      | none => simp [peek, hx] at e
      | some x =>
        simp only [peek, hx, Option.some.injEq] at e
        obtain ⟨w, hw, eo⟩ := ok.slot i x hx
        have h' : c.σ[i]? = some (some v) := h
        rw [hw] at h'
        cases h'
        cases x with
        | val d' => cases e; exact .inl eo.1
        | own b d' => cases e; exact .inr ⟨_, eo⟩
end
section
variable {X : Cx} {XE : XK}
theorem runV {e : Expr} {w : WE} {t : TE} (s : ∀ (c : Cfg) (Qp : R → Env → Prop) (Ep : Ex → Env → Prop) (Q : VK), Ok X.K X.mg c → w c.ρ Qp Ep → XOk X.K X.mg c Ep XE → (∀ v c' r, Go X.K X.mg c c' → c'.σ = c.σ → RR X.K X.mg c c' r v → Qp r c'.ρ → Q v c'.H) → t c.σ c.H Q)
    {c : Cfg} {Qp : R → Env → Prop} {Ep : Ex → Env → Prop} {Q : VK} (ok : Ok X.K X.mg c) (h : wV w c.ρ Qp Ep) (x : XOk X.K X.mg c Ep XE) (k : ∀ v c' r, Go X.K X.mg c c' → c'.σ = c.σ → RRV X.K X.mg c' r v → Qp r c'.ρ → Q v c'.H) : t c.σ c.H Q := by
  refine s c _ Ep Q ok h x fun v c' r g e rr q => ?_
  cases r with
  | val d => exact k v c' (.val d) g e rr q
  | tmp d =>
    obtain ⟨q', F', g', rp⟩ := freeze_tmp g rr q
    exact k v { c' with F := F' } (.val d) g' e rp q'
  | slot i => exact k v c' (.slot i) g e rr q
theorem runK {e : Expr} {w : WE} {t : TE} (s : ∀ (c : Cfg) (Qp : R → Env → Prop) (Ep : Ex → Env → Prop) (Q : VK), Ok X.K X.mg c → w c.ρ Qp Ep → XOk X.K X.mg c Ep XE → (∀ v c' r, Go X.K X.mg c c' → c'.σ = c.σ → RR X.K X.mg c c' r v → Qp r c'.ρ → Q v c'.H) → t c.σ c.H Q)
    {c : Cfg} {Qp : D → Env → Prop} {Ep : Ex → Env → Prop} {Q : VK} (ok : Ok X.K X.mg c) (h : wK w c.ρ Qp Ep) (x : XOk X.K X.mg c Ep XE) (k : ∀ v c' d, Go X.K X.mg c c' → c'.σ = c.σ → Rep X.K X.mg c'.F d v → Qp d c'.ρ → Q v c'.H) : t c.σ c.H Q := by
  refine s c _ Ep Q ok h x fun v c' r g e rr q => ?_
  cases r with
  | val d => exact k v c' d g e rr q
  | tmp d =>
    obtain ⟨q', F', g', rp⟩ := freeze_tmp g rr q
    exact k v { c' with F := F' } d g' e rp q'
  | slot i =>
    have hv : c'.σ[i]? = some (some v) := rr
    dsimp only at q
    split at q
    next d hd =>
      obtain ⟨w', hw, rp, _⟩ := g.ok.val hd
      rw [hw] at hv; cases hv
      exact k _ c' d g e rp q
    next d hd =>
      obtain ⟨q', w', F', hw, rp, g'⟩ := freeze_slot g.ok hd q
      rw [hw] at hv; cases hv
      exact k _ { c' with F := F', ρ := c'.ρ.set i (some (.val d)), fp := fpSet c'.fp i [] } d (g.trans X.K X.mg g') e rp q'
    next => exact q.elim
end
end PL
namespace PL
open PySem PySem.Spec PyProof.Rows L2
variable [HasT]
section
variable {K : PySem.W.Frag} {mg : Str → Option Value}
/-- what a step makes -/
def NewR (K : PySem.W.Frag) (mg : Str → Option Value) (H F' H' : Hp) : R → V → Prop
  | .val d, v => Rep K mg F' d v
  | .tmp d, v => ∃ ft, Own K mg F' H' d v ft ∧ ∀ b ∈ ft, F' b = none ∧ H' b ≠ none ∧ H b = none
  | .slot _, _ => False
theorem newR_rr {c c1 : Cfg} (g : Go K mg c c1) {F' H' : Hp} {r : R} {v : V} (s : Step c1.F c1.H F' H') (n : NewR K mg c1.H F' H' r v) : RR K mg c { c1 with F := F', H := H' } r v := by
  cases r with
  | val d => exact n
  | tmp d =>
    obtain ⟨ft, o, h⟩ := n
    refine ⟨ft, o, fun b hb => ?_⟩
    obtain ⟨h1, h2, h3⟩ := h b hb
    refine ⟨h1, h2, ?_, fun i hi => (g.ok.out i b hi).2 h3⟩
    cases q : c.H b with
    | none => rfl
    | some o => exact absurd h3 (g.fr.grow b (by rw [q]; simp))
  | slot i => exact n.elim
theorem new_lst {F H : Hp} {p : Addr} {xs : List V} {ds : List D} (h : H p = none) (s : Mono F H) (r : RepL K mg F ds xs) : NewR K mg H F (upd H p (.lst xs)) (.tmp (.lst ds)) (.ref p) :=
  ⟨[p], ⟨p, xs, rfl, rfl, upd_same, r⟩, fun b hb => by
    have e : b = p := by simpa using hb
    subst e
    exact ⟨fresh_F s h, by rw [upd_same]; simp, h⟩⟩
theorem new_tup {F H : Hp} {p : Addr} {xs : List V} {ds : List D} (h : H p = none) (s : Mono F H) (r : RepL K mg F ds xs) : NewR K mg H (upd F p (.tup xs)) (upd H p (.tup xs)) (.val (.tup ds)) (.ref p) :=
  ⟨p, xs, rfl, SqT.of upd_same, r.mono K mg (mono_upd (fresh_F s h)) _ _⟩
theorem fin_val {F H : Hp} {Qg : R → Prop} {Q : VK} {d : D} {v : V} (s : Mono F H) (k : ∀ w F' H' res, Step F H F' H' → NewR K mg H F' H' res w → Qg res → Q w H') (r : Rep K mg F d v) (hg : Qg (.val d)) : Q v H :=
  k v F H (.val d) (Step.refl s) r hg
theorem See.lst {F H : Hp} {ds : List D} {v : V} (h : See K mg F H (.lst ds) v) (s : Mono F H) : ∃ a xs, v = .ref a ∧ H a = some (.lst xs) ∧ RepL K mg F ds xs := by
  rcases h with ⟨a, xs, e, h1, h2⟩ | ⟨ft, a, xs, e, _, h1, h2⟩
  · exact ⟨a, xs, e, s.lst h1, h2⟩
  · exact ⟨a, xs, e, h1, h2⟩
theorem See.tup {F H : Hp} {ds : List D} {v : V} (h : See K mg F H (.tup ds) v) : ∃ a xs, v = .ref a ∧ SqT K F a xs ∧ RepL K mg F ds xs := by
  rcases h with h | ⟨ft, h⟩
  · exact h
  · exact h.elim
theorem See.kst {F H : Hp} {ds : List D} {v : V} (h : See K mg F H (.kst ds) v) : ∃ a xs, v = .ref a ∧ SqL K F a xs ∧ RepL K mg F ds xs := by
  rcases h with h | ⟨ft, h⟩
  · exact h
  · exact h.elim
theorem See.int {F H : Hp} {i : Int} {v : V} (h : See K mg F H (.int i) v) : v = .int i := by
  rcases h with h | ⟨ft, h⟩
  · exact h
  · exact h.elim
theorem See.str {F H : Hp} {i : Str} {v : V} (h : See K mg F H (.str i) v) : v = .str i := by
  rcases h with h | ⟨ft, h⟩
  · exact h
  · exact h.elim
theorem See.bl {F H : Hp} {i : Bool} {v : V} (h : See K mg F H (.bl i) v) : v = .bl i := by
  rcases h with h | ⟨ft, h⟩
  · exact h
  · exact h.elim
theorem See.non {F H : Hp} {v : V} (h : See K mg F H .non v) : v = .non := by
  rcases h with h | ⟨ft, h⟩
  · exact h
  · exact h.elim
mutual
def toP : D → Option PyData
  | .non => some .none
  | .bl b => some (.bool b)
  | .int i => some (.int i)
  | .str x => some (.str x)
  | .tup ds => (toPs ds).map .tuple
  | .lst ds => (toPs ds).map .list
  | _ => none
def toPs : List D → Option (List PyData)
  | [] => some []
  | d :: ds => (toP d).bind fun p => (toPs ds).map fun r => p :: r
end
mutual
theorem dp_of {F H : Hp} (s : Mono F H) : ∀ (d : D) (v : V) (p : PyData), Rep K mg F d v → toP d = some p → Dp K H v p
  | .non, _, _, h, e => by cases e; rw [show _ = V.non from h]; exact .non
  | .bl b, _, _, h, e => by cases e; rw [show _ = V.bl b from h]; exact .bl _
  | .int i, _, _, h, e => by cases e; rw [show _ = V.int i from h]; exact .int _
  | .str x, _, _, h, e => by cases e; rw [show _ = V.str x from h]; exact .str _
  | .tup ds, _, p, h, e => by
    obtain ⟨a, xs, rfl, h1, h2⟩ := h
    cases q : toPs ds with
    | none => rw [toP, q] at e; cases e
    | some ps =>
      rw [toP, q] at e; cases e
      exact .tup (s.sqT K h1) (dps_of s ds xs ps h2 q)
  | .lst ds, _, p, h, e => by
    obtain ⟨a, xs, rfl, h1, h2⟩ := h
    cases q : toPs ds with
    | none => rw [toP, q] at e; cases e
    | some ps =>
      rw [toP, q] at e; cases e
      exact .lst (SqL.of (s.lst h1)) (dps_of s ds xs ps h2 q)
  | .dic _ _, _, _, _, e => by cases e
  | .dit _ _, _, _, _, e => by cases e
  | .dix _ _ _, _, _, _, e => by cases e
  | .obj _ _ _, _, _, _, e => by cases e
  | .exc _ _ _, _, _, _, e => by cases e
  | .kst _, _, _, _, e => by cases e
  | .draw, _, _, _, e => by cases e
  | .box _, _, _, _, e => by cases e
theorem dps_of {F H : Hp} (s : Mono F H) : ∀ (ds : List D) (xs : List V) (ps : List PyData), RepL K mg F ds xs → toPs ds = some ps → DpAll K H xs ps
  | [], _, _, h, e => by cases e; rw [show _ = [] from h]; exact .nil
  | d :: ds, _, ps, h, e => by
    obtain ⟨x, r, rfl, h1, h2⟩ := h
    cases q : toP d with
    | none => rw [toPs, q] at e; cases e
    | some p =>
      cases q2 : toPs ds with
      | none => rw [toPs, q, q2] at e; cases e
      | some qs =>
        rw [toPs, q, q2] at e; cases e
        exact .cons (dp_of s d x p h1 q) (dps_of s ds r qs h2 q2)
end
theorem See.dp {F H : Hp} {d : D} {v : V} {p : PyData} (h : See K mg F H d v) (s : Mono F H) (e : toP d = some p) : Dp K H v p := by
  rcases h with h | ⟨ft, h⟩
  · exact dp_of s d v p h e
  · cases d with
    | lst ds =>
      obtain ⟨a, xs, rfl, _, h1, h2⟩ := h
      cases q : toPs ds with
      | none => rw [toP, q] at e; cases e
      | some ps =>
        rw [toP, q] at e; cases e
        exact .lst (SqL.of h1) (dps_of s ds xs ps h2 q)
    | dic _ _ => cases e
    | dit _ _ => cases e
    | dix _ _ _ => cases e
    | obj _ _ _ => cases e
    | draw => cases e
    | box _ => cases e
    | _ => exact h.elim
end
/-- data in, what came out -/
abbrev G1 := D → (R → Prop) → Prop
abbrev G2 := D → D → (R → Prop) → Prop
abbrev GN := List D → (R → Prop) → Prop
def Op1 (K : PySem.W.Frag) (mg : Str → Option Value) (r : V → Hp → VK → Prop) (g : G1) : Prop := ∀ (F H : Hp) d v Qg Q, Mono F H → See K mg F H d v → g d Qg →
  (∀ w F' H' res, Step F H F' H' → NewR K mg H F' H' res w → Qg res → Q w H') → r v H Q
def Op2 (K : PySem.W.Frag) (mg : Str → Option Value) (r : R2) (g : G2) : Prop := ∀ (F H : Hp) d e v u Qg Q, Mono F H → See K mg F H d v → See K mg F H e u → g d e Qg →
  (∀ w F' H' res, Step F H F' H' → NewR K mg H F' H' res w → Qg res → Q w H') → r v u H Q
def SeeL (K : PySem.W.Frag) (mg : Str → Option Value) (F H : Hp) : List D → List V → Prop
  | [], xs => xs = []
  | d :: ds, xs => ∃ x r, xs = x :: r ∧ See K mg F H d x ∧ SeeL K mg F H ds r
def OpN (K : PySem.W.Frag) (mg : Str → Option Value) (r : List V → Hp → VK → Prop) (g : GN) : Prop := ∀ (F H : Hp) ds vs Qg Q, Mono F H → SeeL K mg F H ds vs → g ds Qg →
  (∀ w F' H' res, Step F H F' H' → NewR K mg H F' H' res w → Qg res → Q w H') → r vs H Q
def wVar (i : Nat) : WE := fun ρ Q _ => match ρ[i]? with
  | some (some (.val d)) => Q (.val d) ρ
  | some (some (.own _ _)) => Q (.slot i) ρ
  | _ => False
def wC (d : D) : WE := fun ρ Q _ => Q (.val d) ρ
def pk1 (ρ : Env) (r : R) (k : D → Prop) : Prop := match peek ρ r with
  | some d => k d
  | none => False
def wOp1 (g : G1) (wa : WE) : WE := fun ρ Q Ep => wV wa ρ (fun r ρ1 => pk1 ρ1 r fun d => g d fun s => Q s ρ1) Ep
def wOp2 (g : G2) (wa wb : WE) : WE := fun ρ Q Ep => wV wa ρ (fun r ρ1 => wV wb ρ1 (fun s ρ2 => pk1 ρ2 r fun d => pk1 ρ2 s fun e => g d e fun z => Q z ρ2) Ep) Ep
theorem pk1_of {ρ : Env} {r : R} {k : D → Prop} (h : pk1 ρ r k) : ∃ d, peek ρ r = some d ∧ k d := by
  unfold pk1 at h
  split at h
  next d e => exact ⟨d, e, h⟩
  next => exact h.elim
section
variable {X : Cx} {XE : XK}
theorem pd_var {i : Nat} {x : Str} {pos : Pos} (h : PE X (.Name x pos) (tVar i)) : PdE X XE (.Name x pos) (wVar i) := by
  refine ⟨_, h, fun c Qp Ep Q ok hw x k => ?_⟩
  unfold wVar at hw
  split at hw
  next d hd =>
    obtain ⟨v, hv, r, _⟩ := ok.val hd
    exact ⟨v, hv, k v c (.val d) (Go.refl _ _ ok) rfl r hw⟩
  next b d hd =>
    obtain ⟨v, hv, o⟩ := ok.own hd
    exact ⟨v, hv, k v c (.slot i) (Go.refl _ _ ok) rfl hv hw⟩
  next => exact hw.elim
theorem pd_c {e : Expr} {d : D} {v : V} (h : PE X e (tC v)) (r : ∀ F, Rep X.K X.mg F d v) : PdE X XE e (wC d) :=
  ⟨_, h, fun c Qp Ep Q ok hw x k => k v c (.val d) (Go.refl _ _ ok) rfl (r _) hw⟩
theorem pd_int {i j pos} : PdE X XE (.Constant (.int i) j pos) (wC (.int i)) := pd_c pe_int fun _ => rfl
theorem pd_bl {b j pos} : PdE X XE (.Constant (.bool b) j pos) (wC (.bl b)) := pd_c pe_bl fun _ => rfl
theorem pd_non {j pos} : PdE X XE (.Constant .none j pos) (wC .non) := pd_c pe_non fun _ => rfl
theorem pd_str {x j pos} : PdE X XE (.Constant (.str x) j pos) (wC (.str x)) := pd_c pe_str fun _ => rfl
theorem op2_run {r : R2} {g : G2} {ta tb : TE} {wa wb : WE} {a b : Expr} (ho : Op2 X.K X.mg r g)
    (sa : ∀ (c : Cfg) (Qp : R → Env → Prop) (Ep : Ex → Env → Prop) (Q : VK), Ok X.K X.mg c → wa c.ρ Qp Ep → XOk X.K X.mg c Ep XE → (∀ v c' r, Go X.K X.mg c c' → c'.σ = c.σ → RR X.K X.mg c c' r v → Qp r c'.ρ → Q v c'.H) → ta c.σ c.H Q)
    (sb : ∀ (c : Cfg) (Qp : R → Env → Prop) (Ep : Ex → Env → Prop) (Q : VK), Ok X.K X.mg c → wb c.ρ Qp Ep → XOk X.K X.mg c Ep XE → (∀ v c' r, Go X.K X.mg c c' → c'.σ = c.σ → RR X.K X.mg c c' r v → Qp r c'.ρ → Q v c'.H) → tb c.σ c.H Q)
    (c : Cfg) (Qp : R → Env → Prop) (Ep : Ex → Env → Prop) (Q : VK) (ok : Ok X.K X.mg c) (hw : wOp2 g wa wb c.ρ Qp Ep) (x : XOk X.K X.mg c Ep XE) (k : ∀ v c' r, Go X.K X.mg c c' → c'.σ = c.σ → RR X.K X.mg c c' r v → Qp r c'.ρ → Q v c'.H) :
    tOp r ta tb c.σ c.H Q := by
  refine runV (e := a) sa ok hw x fun v c1 r1 g1 e1 rr1 h1 => ?_
  rw [← e1]
  refine runV (e := b) sb g1.ok h1 (x.go X.K X.mg g1 e1) fun u c2 r2 g2 e2 rr2 h2 => ?_
  obtain ⟨d, hd, h2⟩ := pk1_of h2
  obtain ⟨e, he, h2⟩ := pk1_of h2
  have rr1' := rr1.go g2 e2
  refine ho c2.F c2.H d e v u _ _ g2.ok.sub (rr1'.see g2.ok hd) (rr2.see g2.ok he) h2 fun w F' H' res st nw hq => ?_
  have g3 := st.go g2.ok
  have g12 := g1.trans X.K X.mg g2
  exact k w { c2 with F := F', H := H' } res (g12.trans X.K X.mg g3) (e2.trans e1) (newR_rr g12 st nw) hq
theorem pd_op {op : Operator} {r : R2} {g : G2} {a b : Expr} {wa wb : WE} {pos : Pos} (ho : OpR X (binaryOp op) r) (hg : Op2 X.K X.mg r g) (ha : PdE X XE a wa) (hb : PdE X XE b wb) : PdE X XE (.BinOp a op b pos) (wOp2 g wa wb) := by
  obtain ⟨ta, pa, sa⟩ := ha
  obtain ⟨tb, pb, sb⟩ := hb
  exact ⟨_, pe_op ho pa pb, op2_run (a := a) (b := b) hg sa sb⟩
theorem pd_cmp {op : CmpOp} {r : R2} {g : G2} {a b : Expr} {wa wb : WE} {pos : Pos} (ho : OpR X (compareOp op) r) (hg : Op2 X.K X.mg r g) (ha : PdE X XE a wa) (hb : PdE X XE b wb) (hm : behindInMarks op b = false) : PdE X XE (.Compare a [op] [b] pos) (wOp2 g wa wb) := by
  obtain ⟨ta, pa, sa⟩ := ha
  obtain ⟨tb, pb, sb⟩ := hb
  exact ⟨_, pe_cmpR ho pa pb hm, op2_run (a := a) (b := b) hg sa sb⟩
theorem pd_ix {r : R2} {g : G2} {a b : Expr} {wa wb : WE} {pos : Pos} (hr : IxR X r) (hg : Op2 X.K X.mg r g) (ha : PdE X XE a wa) (hb : PdE X XE b wb) (hs : PlainIx b := by exact fun _ _ => rfl) : PdE X XE (.Subscript a b pos) (wOp2 g wa wb) := by
  obtain ⟨ta, pa, sa⟩ := ha
  obtain ⟨tb, pb, sb⟩ := hb
  exact ⟨_, pe_ix hr pa pb hs, op2_run (a := a) (b := b) hg sa sb⟩
theorem pd_un {op : UnaryOp} {r : V → Hp → VK → Prop} {g : G1} {a : Expr} {wa : WE} {pos : Pos} (ho : UnR X (unaryOp op) r) (hg : Op1 X.K X.mg r g) (ha : PdE X XE a wa) : PdE X XE (.UnaryOp op a pos) (wOp1 g wa) := by
  obtain ⟨ta, pa, sa⟩ := ha
  refine ⟨_, pe_un ho pa, fun c Qp Ep Q ok hw x k => ?_⟩
  refine runV (e := a) sa ok hw x fun v c1 r1 g1 e1 rr1 h1 => ?_
  obtain ⟨d, hd, h1⟩ := pk1_of h1
  refine hg c1.F c1.H d v _ _ g1.ok.sub (rr1.see g1.ok hd) h1 fun w F' H' res st nw hq => ?_
  exact k w { c1 with F := F', H := H' } res (g1.trans X.K X.mg (st.go g1.ok)) e1 (newR_rr g1 st nw) hq
theorem op2_or {r s : R2} {f : Value → Value → Sem Value} (h1 : OpR X f r) (h2 : OpR X f s) : OpR X f (fun x y H Q => r x y H Q ∨ s x y H Q) := by
  intro pins st σ H x y v u Q I rx ry h
  rcases h with h | h
  · exact h1 pins st σ H x y v u Q I rx ry h
  · exact h2 pins st σ H x y v u Q I rx ry h
end
section
variable {K : PySem.W.Frag} {mg : Str → Option Value}
def gI (f : Int → Int → D) : G2 := fun d e Q => match d, e with
  | .int i, .int j => Q (.val (f i j))
  | _, _ => False
theorem op2_int {f : Int → Int → D} {f' : Int → Int → V} (h : ∀ i j F, Rep K mg F (f i j) (f' i j)) : Op2 K mg (rI0 f') (gI f) := by
  intro F H d e v u Qg Q s h1 h2 hg k
  cases d <;> cases e <;> try exact hg.elim
  rename_i i j
  rw [h1.int, h2.int]
  exact ⟨i, j, rfl, rfl, fin_val s k (h i j F) hg⟩
/-- + -/
def gAdd : G2 := fun d e Q => match d, e with
  | .int i, .int j => Q (.val (.int (i + j)))
  | .lst xs, .lst ys => xs.length + ys.length ≤ sizeLine ∧ Q (.tmp (.lst (xs ++ ys)))
  | .tup xs, .tup ys => xs.length + ys.length ≤ sizeLine ∧ Q (.val (.tup (xs ++ ys)))
  | _, _ => False
def rAdd3 (K : PySem.W.Frag) : R2 := fun x y H Q => rI0 (fun i j => .int (i + j)) x y H Q ∨ (rCat x y H Q ∨ rCatA K x y H Q)
theorem op2_add : Op2 K mg (rAdd3 K) gAdd := by
  intro F H d e v u Qg Q s h1 h2 hg k
  cases d <;> cases e <;> try exact hg.elim
  · rename_i i j
    rw [h1.int, h2.int]
    exact .inl ⟨i, j, rfl, rfl, fin_val s k (d := .int (i + j)) rfl hg⟩
  · rename_i ds es
    obtain ⟨a, xs, rfl, ha, ra⟩ := h1.tup
    obtain ⟨b, ys, rfl, hb, rb⟩ := h2.tup
    have l1 := ra.len K mg
    have l2 := rb.len K mg
    have app := ra.app K mg rb
    have hz : ds.length + es.length ≤ sizeLine := hg.1
    refine .inr (.inr ⟨a, b, xs, ys, rfl, rfl, s.sqT K ha, s.sqT K hb, by omega, fun e => ?_, fun _ e => ?_, fun _ _ p hp => ?_⟩)
    · subst e
      have : ds = [] := List.length_eq_zero_iff.mp (by simpa using l1)
      subst this
      exact fin_val s k (d := .tup es) ⟨b, ys, rfl, hb, rb⟩ hg.2
    · subst e
      have : es = [] := List.length_eq_zero_iff.mp (by simpa using l2)
      subst this
      refine fin_val s k (d := .tup (ds ++ [])) ⟨a, xs, rfl, ha, ?_⟩ hg.2
      rw [List.append_nil]; exact ra
    · exact k _ _ _ _ (Step.tup' s hp) (new_tup hp s app) hg.2
  · rename_i ds es
    obtain ⟨a, xs, rfl, ha, ra⟩ := h1.lst s
    obtain ⟨b, ys, rfl, hb, rb⟩ := h2.lst s
    have l1 := ra.len K mg
    have l2 := rb.len K mg
    have hz : ds.length + es.length ≤ sizeLine := hg.1
    exact .inr (.inl ⟨a, b, xs, ys, rfl, rfl, ha, hb, by omega, fun p hp => k _ _ _ _ (Step.new s hp) (new_lst hp s (ra.app K mg rb)) hg.2⟩)
/-- * -/
def gMul : G2 := fun d e Q => match d, e with
  | .int i, .int j => CMul i j ∧ Q (.val (.int (i * j)))
  | _, _ => False
theorem op2_mul : Op2 K mg (rI CMul fun i j => .int (i * j)) gMul := by
  intro F H d e v u Qg Q s h1 h2 hg k
  cases d <;> cases e <;> try exact hg.elim
  rename_i i j
  rw [h1.int, h2.int]
  exact ⟨i, j, rfl, rfl, hg.1, fin_val s k (d := .int (i * j)) rfl hg.2⟩
/-- ==, != of data -/
def dEq (d e : D) : Option Bool := match toP d, toP e with
  | some p, some q => if SeqAt.shaped p && SeqAt.shaped q then some (PyData.eqv p q) else none
  | _, _ => none
def gEq (f : Bool → Bool) : G2 := fun d e Q => match dEq d e with
  | some b => Q (.val (.bl (f b)))
  | none => False
theorem op2_eq : Op2 K mg (rEqD K) (gEq id) := by
  intro F H d e v u Qg Q s h1 h2 hg k
  unfold gEq dEq at hg
  cases hp : toP d with
  | none => simp [hp] at hg
  | some p =>
    cases hq : toP e with
    | none => simp [hp, hq] at hg
    | some q =>
      simp only [hp, hq] at hg
      by_cases hs : (SeqAt.shaped p && SeqAt.shaped q) = true
      · rw [if_pos hs] at hg
        rw [Bool.and_eq_true] at hs
        exact ⟨p, q, h1.dp s hp, h2.dp s hq, hs.1, hs.2, fin_val s k (d := .bl _) rfl hg⟩
      · rw [if_neg hs] at hg; exact hg.elim
theorem op2_ne : Op2 K mg (rNeD K) (gEq not) := by
  intro F H d e v u Qg Q s h1 h2 hg k
  unfold gEq dEq at hg
  cases hp : toP d with
  | none => simp [hp] at hg
  | some p =>
    cases hq : toP e with
    | none => simp [hp, hq] at hg
    | some q =>
      simp only [hp, hq] at hg
      by_cases hs : (SeqAt.shaped p && SeqAt.shaped q) = true
      · rw [if_pos hs] at hg
        rw [Bool.and_eq_true] at hs
        exact ⟨p, q, h1.dp s hp, h2.dp s hq, hs.1, hs.2, fin_val s k (d := .bl _) rfl hg⟩
      · rw [if_neg hs] at hg; exact hg.elim
/-- x is None -/
def isNon : D → Bool
  | .non => true
  | .box d => isNon d
  | _ => false
def gIs (f : Bool → Bool) : G2 := fun d e Q => match e with
  | .non => Q (.val (.bl (f (isNon d))))
  | _ => False
theorem rep_non {F : Hp} : ∀ (d : D) (v : V), Rep K mg F d v → decide (v = .non) = isNon d
  | .non, _, h => by rw [show _ = V.non from h]; rfl
  | .bl b, _, h => by rw [show _ = V.bl b from h]; rfl
  | .int b, _, h => by rw [show _ = V.int b from h]; rfl
  | .str b, _, h => by rw [show _ = V.str b from h]; rfl
  | .tup ds, _, h => by obtain ⟨a, xs, rfl, _⟩ := h; rfl
  | .lst ds, _, h => by obtain ⟨a, xs, rfl, _⟩ := h; rfl
  | .dic ks ds, _, h => by obtain ⟨a, xs, rfl, _⟩ := h; rfl
  | .dit ks ds, _, h => by obtain ⟨a, xs, rfl, _⟩ := h; rfl
  | .dix W ks ds, _, h => by obtain ⟨a, xs, rfl, _⟩ := h; rfl
  | .obj c ks ds, _, h => by obtain ⟨a, C, dx, gs, rfl, _⟩ := h; rfl
  | .exc c ks ds, _, h => by obtain ⟨a, C, dd, gs, rfl, _⟩ := h; rfl
  | .kst ds, _, h => by obtain ⟨a, xs, rfl, _⟩ := h; rfl
  | .draw, _, h => h.elim
  | .box d, v, h => rep_non d v h
theorem see_non {F H : Hp} {d : D} {v : V} (h : See K mg F H d v) : decide (v = .non) = isNon d := by
  rcases h with h | ⟨ft, h⟩
  · exact rep_non d v h
  · cases d with
    | lst ds => obtain ⟨a, xs, rfl, _⟩ := h; rfl
    | dic ks ds => obtain ⟨a, xs, rfl, _⟩ := h; rfl
    | dit ks ds => obtain ⟨a, xs, rfl, _⟩ := h; rfl
    | dix W ks ds => obtain ⟨a, xs, rfl, _⟩ := h; rfl
    | obj c ks ds => obtain ⟨a, C, dx, gs, f2, g, rfl, _⟩ := h; rfl
    | draw => obtain ⟨a, l, rfl, _⟩ := h; rfl
    | box d =>
      rcases h with ⟨_, ⟨a, rfl⟩, ks, ds, rfl⟩ | ⟨ds, a, xs, rfl, rfl, _⟩ <;> rfl
    | _ => exact h.elim
theorem op2_isnot : Op2 K mg (fun x y H Q => y = .non ∧ Q (.bl (!decide (x = .non))) H) (gIs not) := by
  intro F H d e v u Qg Q s h1 h2 hg k
  cases e <;> try exact hg.elim
  exact ⟨h2.non, by rw [see_non h1]; exact fin_val s k (d := .bl _) rfl hg⟩
/-- c in s, one sign of a text -/
def gInS (f : Bool → Bool) : G2 := fun d e Q => match d, e with
  | .str x, .str z => match x.cps.toList with
    | [c] => Q (.val (.bl (f (decide (c ∈ z.cps.toList)))))
    | _ => False
  | _, _ => False
theorem op2_inS : Op2 K mg (fun x y H Q => ∃ (c : Nat) (z : Str), x = .str ⟨#[c]⟩ ∧ y = .str z ∧ Q (.bl (decide (c ∈ z.cps.toList))) H) (gInS id) := by
  intro F H d e v u Qg Q s h1 h2 hg k
  cases d <;> cases e <;> try exact hg.elim
  rename_i x z
  rw [h1.str, h2.str]
  unfold gInS at hg
  simp only at hg
  split at hg
  next c hc =>
    have ex : x = ⟨#[c]⟩ := by
      obtain ⟨⟨l⟩⟩ := x
      simp only at hc
      rw [hc]
    exact ⟨c, z, by rw [ex], rfl, fin_val s k (d := .bl _) rfl hg⟩
  next => exact hg.elim
/-- xs[i], t[i], s[i] -/
def gIx : G2 := fun d e Q => match d, e with
  | .lst xs, .int i => match atI xs i with
    | some x => Q (.val x)
    | none => False
  | .tup xs, .int i => match atI xs i with
    | some x => Q (.val x)
    | none => False
  | .str z, .int i => z.length ≤ sizeLine ∧ match atI z.cps.toList i with
    | some c => Q (.val (.str ⟨#[c]⟩))
    | none => False
  | _, _ => False
theorem atI_rep {F : Hp} {ds : List D} {xs : List V} {i : Int} {d : D} (r : RepL K mg F ds xs) (h : atI ds i = some d) : ∃ x, atI xs i = some x ∧ Rep K mg F d x := by
  unfold atI at h ⊢
  rw [← r.len K mg]
  cases q : ixN ds.length i with
  | none => rw [q] at h; cases h
  | some j =>
    rw [q] at h
    obtain ⟨x, hx, rx⟩ := r.get K mg (i := j) (d := d) h
    exact ⟨x, hx, rx⟩
theorem op2_ix : Op2 K mg (rIx K) gIx := by
  intro F H d e v u Qg Q s h1 h2 hg k
  cases d <;> cases e <;> try exact hg.elim
  · rename_i z i
    rw [h1.str, h2.int]
    obtain ⟨hz, hg⟩ := hg
    cases q : atI z.cps.toList i with
    | none => simp only [q] at hg
    | some c =>
      simp only [q] at hg
      exact .inr (.inr ⟨z, i, c, rfl, rfl, hz, q, fin_val s k (d := .str _) rfl hg⟩)
  · rename_i ds i
    obtain ⟨a, xs, rfl, ha, ra⟩ := h1.tup
    rw [h2.int]
    unfold gIx at hg
    cases q : atI ds i with
    | none => simp only [q] at hg
    | some d =>
      simp only [q] at hg
      obtain ⟨x, hx, rx⟩ := atI_rep ra q
      exact .inr (.inl ⟨a, xs, i, x, rfl, rfl, s.sqT K ha, hx, fin_val s k rx hg⟩)
  · rename_i ds i
    obtain ⟨a, xs, rfl, ha, ra⟩ := h1.lst s
    rw [h2.int]
    unfold gIx at hg
    cases q : atI ds i with
    | none => simp only [q] at hg
    | some d =>
      simp only [q] at hg
      obtain ⟨x, hx, rx⟩ := atI_rep ra q
      exact .inl ⟨a, xs, i, x, rfl, rfl, SqL.of ha, hx, fin_val s k rx hg⟩
end
end PL
namespace PL
open PySem PySem.Spec PyProof.Rows L2
variable [HasT]
/-- what an expression's soundness says -/
abbrev SoE (X : Cx) (XE : XK) (t : TE) (w : WE) : Prop := ∀ (c : Cfg) (Qp : R → Env → Prop) (Ep : Ex → Env → Prop) (Q : VK), Ok X.K X.mg c → w c.ρ Qp Ep → XOk X.K X.mg c Ep XE → (∀ v c' r, Go X.K X.mg c c' → c'.σ = c.σ → RR X.K X.mg c c' r v → Qp r c'.ρ → Q v c'.H) → t c.σ c.H Q
abbrev SoT (X : Cx) (XE : XK) (t : TT) (w : WT) : Prop := ∀ (c : Cfg) (Qp : Bool → Env → Prop) (Ep : Ex → Env → Prop) (Q : Bool → Hp → Prop), Ok X.K X.mg c → w c.ρ Qp Ep → XOk X.K X.mg c Ep XE → (∀ b c', Go X.K X.mg c c' → c'.σ = c.σ → Qp b c'.ρ → Q b c'.H) → t c.σ c.H Q
section
variable {X : Cx} {XE : XK}
theorem bl_of {c c' : Cfg} {b : Bool} {v : V} (h : RR X.K X.mg c c' (.val (.bl b)) v) : v = .bl b := h
theorem rr_bl {c c' : Cfg} {b : Bool} : RR X.K X.mg c c' (.val (.bl b)) (.bl b) := rfl
/-- a value that is a bool, as a test -/
def wB (w : WE) : WT := fun ρ Q Ep => w ρ (fun r ρ' => match r with
  | .val (.bl b) => Q b ρ'
  | _ => False) Ep
theorem bl_run {t : TE} {w : WE} (s : SoE X XE t w) {c : Cfg} {Qp : Bool → Env → Prop} {Ep : Ex → Env → Prop} {Q : VK} (ok : Ok X.K X.mg c) (h : wB w c.ρ Qp Ep) (x : XOk X.K X.mg c Ep XE)
    (k : ∀ b c', Go X.K X.mg c c' → c'.σ = c.σ → Qp b c'.ρ → Q (.bl b) c'.H) : t c.σ c.H Q := by
  refine s c _ Ep Q ok h x fun v c' r g e rr q => ?_
  cases r with
  | val d =>
    cases d with
    | bl b => cases bl_of rr; exact k b c' g e q
    | _ => exact q.elim
  | _ => exact q.elim
theorem pt_b {e : Expr} {w : WE} (h : PdE X XE e w) (he : ∀ whole, isTrue e X.env whole = (do let v ← whole; standAt e.pos; holding [v] (truthy v)) := by intro _; rfl) : PdT X XE e (wB w) := by
  obtain ⟨t, p, s⟩ := h
  refine ⟨_, pt_val p he, fun c Qp Ep Q ok hw x k => ?_⟩
  exact bl_run s ok hw x fun b c' g e q => ⟨b, rfl, k b c' g e q⟩
def wNotT (w : WT) : WT := fun ρ Q Ep => w ρ (fun b ρ' => Q (!b) ρ') Ep
theorem pt_n {a : Expr} {w : WT} {pos : Pos} (h : PdT X XE a w) : PdT X XE (.UnaryOp .Not a pos) (wNotT w) := by
  obtain ⟨t, p, s⟩ := h
  exact ⟨_, pt_not p, fun c Qp Ep Q ok hw x k => s c _ Ep _ ok hw x fun b c' g e q => k (!b) c' g e q⟩
def wAndT (wa wb : WT) : WT := fun ρ Q Ep => wa ρ (fun b ρ' => if b = true then wb ρ' Q Ep else Q false ρ') Ep
def wOrT (wa wb : WT) : WT := fun ρ Q Ep => wa ρ (fun b ρ' => if b = true then Q true ρ' else wb ρ' Q Ep) Ep
theorem pw_a {a b : Expr} {rest : List Expr} {pos : Pos} {wa wb : WT} (ha : PdT X XE a wa) (hb : PdW X XE (.BoolOp .And (b :: rest) pos) wb) : PdW X XE (.BoolOp .And (a :: b :: rest) pos) (wAndT wa wb) := by
  obtain ⟨ta, pa, sa⟩ := ha
  obtain ⟨tb, pb, sb⟩ := hb
  refine ⟨_, pw_and pa pb, fun c Qp Ep Q ok hw x k => ?_⟩
  refine sa c _ Ep _ ok hw x fun b c1 g1 e1 q => ?_
  cases b with
  | true =>
    rw [if_pos rfl] at q ⊢
    rw [← e1]
    exact sb c1 _ Ep _ g1.ok q (x.go X.K X.mg g1 e1) fun b c2 g2 e2 q2 => k b c2 (g1.trans X.K X.mg g2) (e2.trans e1) q2
  | false =>
    rw [if_neg Bool.false_ne_true] at q ⊢
    exact k false c1 g1 e1 q
theorem pw_a1 {a : Expr} {pos : Pos} {wa : WT} (ha : PdT X XE a wa) : PdW X XE (.BoolOp .And [a] pos) wa := by
  obtain ⟨ta, pa, sa⟩ := ha
  exact ⟨_, pw_and1 pa, sa⟩
theorem pw_o {a b : Expr} {rest : List Expr} {pos : Pos} {wa wb : WT} (ha : PdT X XE a wa) (hb : PdW X XE (.BoolOp .Or (b :: rest) pos) wb) : PdW X XE (.BoolOp .Or (a :: b :: rest) pos) (wOrT wa wb) := by
  obtain ⟨ta, pa, sa⟩ := ha
  obtain ⟨tb, pb, sb⟩ := hb
  refine ⟨_, pw_or pa pb, fun c Qp Ep Q ok hw x k => ?_⟩
  refine sa c _ Ep _ ok hw x fun b c1 g1 e1 q => ?_
  cases b with
  | true =>
    rw [if_pos rfl] at q ⊢
    exact k true c1 g1 e1 q
  | false =>
    rw [if_neg Bool.false_ne_true] at q ⊢
    rw [← e1]
    exact sb c1 _ Ep _ g1.ok q (x.go X.K X.mg g1 e1) fun b c2 g2 e2 q2 => k b c2 (g1.trans X.K X.mg g2) (e2.trans e1) q2
theorem pw_o1 {a : Expr} {pos : Pos} {wa : WT} (ha : PdT X XE a wa) : PdW X XE (.BoolOp .Or [a] pos) wa := by
  obtain ⟨ta, pa, sa⟩ := ha
  exact ⟨_, pw_or1 pa, sa⟩
theorem pt_w {e : Expr} {w : WT} (h : PdW X XE e w) : PdT X XE e w := by
  obtain ⟨t, p, s⟩ := h
  exact ⟨_, p.pt, s⟩
def wAnd (wa wb : WE) : WE := fun ρ Q Ep => wB wa ρ (fun b ρ' => if b = true then wb ρ' Q Ep else Q (.val (.bl false)) ρ') Ep
def wOr (wa wb : WE) : WE := fun ρ Q Ep => wB wa ρ (fun b ρ' => if b = true then Q (.val (.bl true)) ρ' else wb ρ' Q Ep) Ep
def wNot (wa : WE) : WE := fun ρ Q Ep => wB wa ρ (fun b ρ' => Q (.val (.bl (!b))) ρ') Ep
theorem rr_go {c c1 c2 : Cfg} {r : R} {v : V} (g : Go X.K X.mg c c1) (h : RR X.K X.mg c1 c2 r v) : RR X.K X.mg c c2 r v := by
  cases r with
  | val d => exact h
  | slot i => exact h
  | tmp d =>
    obtain ⟨ft, o, hf⟩ := h
    refine ⟨ft, o, fun b hb => ?_⟩
    obtain ⟨h1, h2, h3, h4⟩ := hf b hb
    refine ⟨h1, h2, ?_, h4⟩
    cases q : c.H b with
    | none => rfl
    | some o => exact absurd h3 (g.fr.grow b (by rw [q]; simp))
theorem pd_and {a b : Expr} {rest : List Expr} {pos : Pos} {wa wb : WE} (ha : PdE X XE a wa) (hb : PdE X XE (.BoolOp .And (b :: rest) pos) wb) : PdE X XE (.BoolOp .And (a :: b :: rest) pos) (wAnd wa wb) := by
  obtain ⟨ta, pa, sa⟩ := ha
  obtain ⟨tb, pb, sb⟩ := hb
  refine ⟨_, pe_and pa pb, fun c Qp Ep Q ok hw x k => ?_⟩
  refine bl_run sa ok hw x fun b c1 g1 e1 q => ⟨b, rfl, ?_⟩
  cases b with
  | true =>
    rw [if_pos rfl] at q ⊢
    rw [← e1]
    exact sb c1 _ Ep _ g1.ok q (x.go X.K X.mg g1 e1) fun v c2 r g2 e2 rr q2 => k v c2 r (g1.trans X.K X.mg g2) (e2.trans e1) (rr_go g1 rr) q2
  | false =>
    rw [if_neg Bool.false_ne_true] at q ⊢
    exact k _ c1 _ g1 e1 rr_bl q
theorem pd_or {a b : Expr} {rest : List Expr} {pos : Pos} {wa wb : WE} (ha : PdE X XE a wa) (hb : PdE X XE (.BoolOp .Or (b :: rest) pos) wb) : PdE X XE (.BoolOp .Or (a :: b :: rest) pos) (wOr wa wb) := by
  obtain ⟨ta, pa, sa⟩ := ha
  obtain ⟨tb, pb, sb⟩ := hb
  refine ⟨_, pe_or pa pb, fun c Qp Ep Q ok hw x k => ?_⟩
  refine bl_run sa ok hw x fun b c1 g1 e1 q => ⟨b, rfl, ?_⟩
  cases b with
  | true =>
    rw [if_pos rfl] at q ⊢
    exact k _ c1 _ g1 e1 rr_bl q
  | false =>
    rw [if_neg Bool.false_ne_true] at q ⊢
    rw [← e1]
    exact sb c1 _ Ep _ g1.ok q (x.go X.K X.mg g1 e1) fun v c2 r g2 e2 rr q2 => k v c2 r (g1.trans X.K X.mg g2) (e2.trans e1) (rr_go g1 rr) q2
theorem pd_one {op : BoolOp} {a : Expr} {pos : Pos} {wa : WE} (ha : PdE X XE a wa) : PdE X XE (.BoolOp op [a] pos) wa := by
  obtain ⟨ta, pa, sa⟩ := ha
  exact ⟨_, pe_one pa, sa⟩
theorem pd_not {a : Expr} {pos : Pos} {wa : WE} (ha : PdE X XE a wa) : PdE X XE (.UnaryOp .Not a pos) (wNot wa) := by
  obtain ⟨ta, pa, sa⟩ := ha
  refine ⟨_, pe_not pa, fun c Qp Ep Q ok hw x k => ?_⟩
  exact bl_run sa ok hw x fun b c1 g1 e1 q => ⟨b, rfl, k _ c1 _ g1 e1 rr_bl q⟩
def wIfE (wt : WT) (wa wb : WE) : WE := fun ρ Q Ep => wt ρ (fun b ρ' => if b = true then wa ρ' Q Ep else wb ρ' Q Ep) Ep
theorem pd_ife {t a b : Expr} {pos : Pos} {wt : WT} {wa wb : WE} (ht : PdT X XE t wt) (ha : PdE X XE a wa) (hb : PdE X XE b wb) : PdE X XE (.IfExp t a b pos) (wIfE wt wa wb) := by
  obtain ⟨tt, pt, s⟩ := ht
  obtain ⟨ta, pa, sa⟩ := ha
  obtain ⟨tb, pb, sb⟩ := hb
  refine ⟨_, pe_ifExp pt pa pb, fun c Qp Ep Q ok hw x k => ?_⟩
  refine s c _ Ep _ ok hw x fun b c1 g1 e1 q => ?_
  cases b with
  | true =>
    rw [if_pos rfl] at q ⊢
    rw [← e1]
    exact sa c1 _ Ep _ g1.ok q (x.go X.K X.mg g1 e1) fun v c2 r g2 e2 rr q2 => k v c2 r (g1.trans X.K X.mg g2) (e2.trans e1) (rr_go g1 rr) q2
  | false =>
    rw [if_neg Bool.false_ne_true] at q ⊢
    rw [← e1]
    exact sb c1 _ Ep _ g1.ok q (x.go X.K X.mg g1 e1) fun v c2 r g2 e2 rr q2 => k v c2 r (g1.trans X.K X.mg g2) (e2.trans e1) (rr_go g1 rr) q2
def wChain (g h : G2) (wa wb wc : WE) : WE := fun ρ Q Ep => wV wa ρ (fun r ρ1 => wV wb ρ1 (fun s ρ2 => pk1 ρ2 r fun d => pk1 ρ2 s fun e => g d e fun z => match z with
  | .val (.bl true) => wV wc ρ2 (fun u ρ3 => pk1 ρ3 s fun e => pk1 ρ3 u fun f => h e f fun z => Q z ρ3) Ep
  | .val (.bl false) => Q (.val (.bl false)) ρ2
  | _ => False) Ep) Ep
theorem chain_so {r r' : R2} {g h : G2} {a b d : Expr} {wa wb wc : WE} {ta tb tc : TE} (hg : Op2 X.K X.mg r g) (hh : Op2 X.K X.mg r' h) (sa : SoE X XE ta wa) (sb : SoE X XE tb wb) (sc : SoE X XE tc wc) : SoE X XE (tChain r r' ta tb tc) (wChain g h wa wb wc) := by
  intro c Qp Ep Q ok hw x k
  refine runV (e := a) sa ok hw x fun v c1 r1 g1 e1 rr1 h1 => ?_
  rw [← e1]
  refine runV (e := b) sb g1.ok h1 (x.go X.K X.mg g1 e1) fun u c2 r2 g2 e2 rr2 h2 => ?_
  obtain ⟨dd, hd, h2⟩ := pk1_of h2
  obtain ⟨ee, he, h2⟩ := pk1_of h2
  have g12 := g1.trans X.K X.mg g2
  refine hg c2.F c2.H dd ee v u _ _ g2.ok.sub ((rr1.go g2 e2).see g2.ok hd) (rr2.see g2.ok he) h2 fun w F' H' res st nw hq => ?_
  have g3 := st.go g2.ok
  have g123 := g12.trans X.K X.mg g3
  cases res with
  | val dz =>
    cases dz with
    | bl bb =>
      cases (show w = V.bl bb from nw)
      refine ⟨bb, rfl, ?_⟩
      cases bb with
      | true =>
        rw [if_pos rfl]
        have hq' : wV wc c2.ρ (fun u ρ3 => pk1 ρ3 r2 fun e => pk1 ρ3 u fun f => h e f fun z => Qp z ρ3) Ep := hq
        rw [← e2]
        refine runV (c := { c2 with F := F', H := H' }) (e := d) sc g3.ok hq' (x.go X.K X.mg g123 (e2.trans e1)) fun y c4 r4 g4 e4 rr4 h4 => ?_
        obtain ⟨e4', he4, h4⟩ := pk1_of h4
        obtain ⟨f4, hf4, h4⟩ := pk1_of h4
        have rr2' : RRV X.K X.mg { c2 with F := F', H := H' } r2 u := rr2.go g3 rfl
        refine hh c4.F c4.H e4' f4 u y _ _ g4.ok.sub ((rr2'.go g4 e4).see g4.ok he4) (rr4.see g4.ok hf4) h4 fun w' F2 H2 res' st' nw' hq2 => ?_
        have g5 := st'.go g4.ok
        have gg := g123.trans X.K X.mg g4
        exact k w' { c4 with F := F2, H := H2 } res' (gg.trans X.K X.mg g5) (show c4.σ = c.σ from e4.trans (e2.trans e1)) (newR_rr gg st' nw') hq2
      | false =>
        rw [if_neg Bool.false_ne_true]
        exact k _ { c2 with F := F', H := H' } _ g123 (e2.trans e1) rr_bl hq
    | _ => exact hq.elim
  | _ => exact hq.elim
theorem pd_chain {op op' : CmpOp} {r r' : R2} {g h : G2} {a b d : Expr} {wa wb wc : WE} {pos : Pos} (ho : OpR X (compareOp op) r) (ho' : OpR X (compareOp op') r') (hg : Op2 X.K X.mg r g) (hh : Op2 X.K X.mg r' h)
    (ha : PdE X XE a wa) (hb : PdE X XE b wb) (hc : PdE X XE d wc) (hm : lastMarks [op, op'] [b, d] = false := by with_unfolding_all rfl) : PdE X XE (.Compare a [op, op'] [b, d] pos) (wChain g h wa wb wc) := by
  obtain ⟨ta, pa, sa⟩ := ha
  obtain ⟨tb, pb, sb⟩ := hb
  obtain ⟨tc, pc, sc⟩ := hc
  exact ⟨_, pe_chain ho ho' pa pb pc hm, chain_so (a := a) (b := b) (d := d) hg hh sa sb sc⟩
/-- every one frozen -/
abbrev WL := Env → (List D → Env → Prop) → (Ex → Env → Prop) → Prop
def wKn : WL := fun ρ Q _ => Q [] ρ
def wKc (w : WE) (wr : WL) : WL := fun ρ Q Ep => wK w ρ (fun d ρ1 => wr ρ1 (fun ds ρ2 => Q (d :: ds) ρ2) Ep) Ep
def PdK (X : Cx) (XE : XK) (es : List Expr) (w : WL) : Prop := ∃ t, PA X es t ∧ ∀ (c : Cfg) (Qp : List D → Env → Prop) (Ep : Ex → Env → Prop) (Q : List V → Hp → Prop), Ok X.K X.mg c → w c.ρ Qp Ep → XOk X.K X.mg c Ep XE →
  (∀ vs c' ds, Go X.K X.mg c c' → c'.σ = c.σ → RepL X.K X.mg c'.F ds vs → ds.length = es.length → Qp ds c'.ρ → Q vs c'.H) → t c.σ c.H Q
theorem pk_nil : PdK X XE [] wKn := ⟨_, pa_nil, fun c Qp Ep Q ok hw x k => k [] c [] (Go.refl _ _ ok) rfl rfl rfl hw⟩
theorem pk_cons {e : Expr} {es : List Expr} {w : WE} {wr : WL} (h : PdE X XE e w) (hr : PdK X XE es wr) (hs : starEach (e :: es) X.env = (false, eval e X.env) :: starEach es X.env := by rfl) : PdK X XE (e :: es) (wKc w wr) := by
  obtain ⟨t, p, s⟩ := h
  obtain ⟨tr, pr, sr⟩ := hr
  refine ⟨_, pa_cons p pr hs, fun c Qp Ep Q ok hw x k => ?_⟩
  refine runK (e := e) s ok hw x fun v c1 d g1 e1 r1 h1 => ?_
  rw [← e1]
  refine sr c1 _ Ep _ g1.ok h1 (x.go X.K X.mg g1 e1) fun vs c2 ds g2 e2 r2 l2 h2 => ?_
  exact k (v :: vs) c2 (d :: ds) (g1.trans X.K X.mg g2) (e2.trans e1) (RepL.cons X.K X.mg (r1.mono X.K X.mg g2.fr.mono _ _) r2) (by simp [l2]) h2
/-- every one as it lies -/
abbrev WR := Env → (List R → Env → Prop) → (Ex → Env → Prop) → Prop
def wVn : WR := fun ρ Q _ => Q [] ρ
def wVc (w : WE) (wr : WR) : WR := fun ρ Q Ep => wV w ρ (fun d ρ1 => wr ρ1 (fun ds ρ2 => Q (d :: ds) ρ2) Ep) Ep
def RRVs (K : PySem.W.Frag) (mg : Str → Option Value) (c : Cfg) : List R → List V → Prop
  | [], xs => xs = []
  | r :: rs, xs => ∃ x t, xs = x :: t ∧ RRV K mg c r x ∧ RRVs K mg c rs t
def PdV (X : Cx) (XE : XK) (es : List Expr) (w : WR) : Prop := ∃ t, PA X es t ∧ ∀ (c : Cfg) (Qp : List R → Env → Prop) (Ep : Ex → Env → Prop) (Q : List V → Hp → Prop), Ok X.K X.mg c → w c.ρ Qp Ep → XOk X.K X.mg c Ep XE →
  (∀ vs c' rs, Go X.K X.mg c c' → c'.σ = c.σ → RRVs X.K X.mg c' rs vs → rs.length = es.length → Qp rs c'.ρ → Q vs c'.H) → t c.σ c.H Q
theorem pv_nil : PdV X XE [] wVn := ⟨_, pa_nil, fun c Qp Ep Q ok hw x k => k [] c [] (Go.refl _ _ ok) rfl rfl rfl hw⟩
theorem pv_cons {e : Expr} {es : List Expr} {w : WE} {wr : WR} (h : PdE X XE e w) (hr : PdV X XE es wr) (hs : starEach (e :: es) X.env = (false, eval e X.env) :: starEach es X.env := by rfl) : PdV X XE (e :: es) (wVc w wr) := by
  obtain ⟨t, p, s⟩ := h
  obtain ⟨tr, pr, sr⟩ := hr
  refine ⟨_, pa_cons p pr hs, fun c Qp Ep Q ok hw x k => ?_⟩
  refine runV (e := e) s ok hw x fun v c1 d g1 e1 r1 h1 => ?_
  rw [← e1]
  refine sr c1 _ Ep _ g1.ok h1 (x.go X.K X.mg g1 e1) fun vs c2 ds g2 e2 r2 l2 h2 => ?_
  exact k (v :: vs) c2 (d :: ds) (g1.trans X.K X.mg g2) (e2.trans e1) ⟨v, vs, rfl, r1.go g2 e2, r2⟩ (by simp [l2]) h2
def pkL (ρ : Env) : List R → (List D → Prop) → Prop
  | [], k => k []
  | r :: rs, k => pk1 ρ r fun d => pkL ρ rs fun ds => k (d :: ds)
theorem pkL_of {c : Cfg} (ok : Ok X.K X.mg c) : ∀ {rs : List R} {vs : List V} {k : List D → Prop}, RRVs X.K X.mg c rs vs → pkL c.ρ rs k → ∃ ds, SeeL X.K X.mg c.F c.H ds vs ∧ k ds
  | [], _, k, r, h => ⟨[], r, h⟩
  | r :: rs, _, k, hr, h => by
    obtain ⟨x, t, rfl, h1, h2⟩ := hr
    obtain ⟨d, hd, h⟩ := pk1_of h
    obtain ⟨ds, s, q⟩ := pkL_of ok h2 h
    exact ⟨d :: ds, ⟨x, t, rfl, h1.see ok hd, s⟩, q⟩
def wTup (w : WL) : WE := fun ρ Q Ep => w ρ (fun ds ρ' => Q (.val (.tup ds)) ρ') Ep
def wLst (w : WL) : WE := fun ρ Q Ep => w ρ (fun ds ρ' => Q (.tmp (.lst ds)) ρ') Ep
theorem pd_tup {es : List Expr} {x1} {pos : Pos} {w : WL} (h : PdK X XE es w) (hz : es.length ≤ sizeLine := by show _ ≤ 16777216; decide) : PdE X XE (.Tuple es x1 pos) (wTup w) := by
  obtain ⟨t, p, s⟩ := h
  refine ⟨_, pe_tup p, fun c Qp Ep Q ok hw x k => ?_⟩
  refine s c _ Ep _ ok hw x fun vs c1 ds g1 e1 r1 l1 h1 => ?_
  refine ⟨by rw [← r1.len X.K X.mg, l1]; exact hz, fun p hp => ?_⟩
  have st := Step.tup' (o := .tup vs) g1.ok.sub hp
  exact k _ { c1 with F := upd c1.F p (.tup vs), H := upd c1.H p (.tup vs) } _ (g1.trans X.K X.mg (st.go g1.ok)) e1 (newR_rr g1 st (new_tup hp g1.ok.sub r1)) h1
theorem pd_lst {es : List Expr} {pos : Pos} {w : WL} (h : PdK X XE es w) (hz : es.length ≤ sizeLine := by show _ ≤ 16777216; decide) : PdE X XE (.List es pos) (wLst w) := by
  obtain ⟨t, p, s⟩ := h
  refine ⟨_, pe_lst p, fun c Qp Ep Q ok hw x k => ?_⟩
  refine s c _ Ep _ ok hw x fun vs c1 ds g1 e1 r1 l1 h1 => ?_
  refine ⟨by rw [← r1.len X.K X.mg, l1]; exact hz, fun p hp => ?_⟩
  have st := Step.new (o := .lst vs) g1.ok.sub hp
  exact k _ { c1 with F := c1.F, H := upd c1.H p (.lst vs) } _ (g1.trans X.K X.mg (st.go g1.ok)) e1 (newR_rr g1 st (new_lst hp g1.ok.sub r1)) h1
abbrev WO := Env → (Option Int → Env → Prop) → (Ex → Env → Prop) → Prop
def PdO (X : Cx) (XE : XK) (e : Option Expr) (w : WO) : Prop := ∃ t, PO X e t ∧ ∀ (c : Cfg) (Qp : Option Int → Env → Prop) (Ep : Ex → Env → Prop) (Q : Option Int → Hp → Prop), Ok X.K X.mg c → w c.ρ Qp Ep → XOk X.K X.mg c Ep XE →
  (∀ o c', Go X.K X.mg c c' → c'.σ = c.σ → Qp o c'.ρ → Q o c'.H) → t c.σ c.H Q
def wNone : WO := fun ρ Q _ => Q none ρ
def wSome (w : WE) : WO := fun ρ Q Ep => w ρ (fun r ρ' => match r with
  | .val (.int i) => Q (some i) ρ'
  | _ => False) Ep
theorem pso_none : PdO X XE none wNone := ⟨_, po_none, fun c Qp Ep Q ok hw x k => k none c (Go.refl _ _ ok) rfl hw⟩
theorem pso_some {e : Expr} {w : WE} (h : PdE X XE e w) : PdO X XE (some e) (wSome w) := by
  obtain ⟨t, p, s⟩ := h
  refine ⟨_, po_some p, fun c Qp Ep Q ok hw x k => ?_⟩
  refine s c _ Ep _ ok hw x fun v c1 r g1 e1 rr q => ?_
  cases r with
  | val d =>
    cases d with
    | int i => exact ⟨i, rr, k (some i) c1 g1 e1 q⟩
    | _ => exact q.elim
  | _ => exact q.elim
def cut {α : Type} (xs : List α) (lo hi : Option Int) : List α := (xs.drop (HT.sIx xs.length 0 lo)).take (HT.sIx xs.length xs.length hi - HT.sIx xs.length 0 lo)
def gSl : D → Option Int → Option Int → (R → Prop) → Prop := fun d lo hi Q => match d with
  | .lst xs => Q (.tmp (.lst (cut xs lo hi)))
  | .tup xs => Q (.val (.tup (cut xs lo hi)))
  | _ => False
def wSl (w : WE) (wl wh : WO) : WE := fun ρ Q Ep => wV w ρ (fun r ρ1 => wl ρ1 (fun lo ρ2 => wh ρ2 (fun hi ρ3 => pk1 ρ3 r fun d => gSl d lo hi fun z => Q z ρ3) Ep) Ep) Ep
theorem cut_rep {K : PySem.W.Frag} {mg : Str → Option Value} {F : Hp} {ds : List D} {xs : List V} {lo hi : Option Int} (r : RepL K mg F ds xs) : RepL K mg F (cut ds lo hi) (cutV xs lo hi) := by
  unfold cut cutV
  rw [r.len K mg]
  exact RepL.take K mg _ (RepL.drop K mg _ r)
def rSl2 (K : PySem.W.Frag) : V → Option Int → Option Int → Hp → VK → Prop := fun x lo hi H Q => rSlL K x lo hi H Q ∨ rSlA K x lo hi H Q
theorem pd_slice {e : Expr} {lo hi : Option Expr} {p2 pos : Pos} {w : WE} {wl wh : WO} (h : PdE X XE e w) (hl : PdO X XE lo wl) (hh : PdO X XE hi wh) : PdE X XE (.Subscript e (.Slice lo hi none p2) pos) (wSl w wl wh) := by
  obtain ⟨t, p, s⟩ := h
  obtain ⟨tl, pl, sl⟩ := hl
  obtain ⟨th, ph, sh⟩ := hh
  refine ⟨_, pe_slice (r := rSl2 X.K) (sl_list.or sl_tupA) p pl ph, fun c Qp Ep Q ok hw x k => ?_⟩
  refine runV (e := e) s ok hw x fun v c1 r1 g1 e1 rr1 h1 => ?_
  rw [← e1]
  refine sl c1 _ Ep _ g1.ok h1 (x.go X.K X.mg g1 e1) fun lo' c2 g2 e2 h2 => ?_
  rw [← e2]
  have g12 := g1.trans X.K X.mg g2
  refine sh c2 _ Ep _ g2.ok h2 (x.go X.K X.mg g12 (e2.trans e1)) fun hi' c3 g3 e3 h3 => ?_
  have g := g12.trans X.K X.mg g3
  obtain ⟨d, hd, h3⟩ := pk1_of h3
  have see := ((rr1.go g2 e2).go g3 e3).see g3.ok hd
  cases d with
  | lst ds =>
    obtain ⟨a, xs, rfl, ha, ra⟩ := see.lst g3.ok.sub
    refine .inl ⟨a, xs, rfl, SqL.of ha, fun p hp => ?_⟩
    have st := Step.new (o := .lst (cutV xs lo' hi')) g3.ok.sub hp
    exact k _ { c3 with F := c3.F, H := upd c3.H p (.lst (cutV xs lo' hi')) } _ (g.trans X.K X.mg (st.go g3.ok)) (e3.trans (e2.trans e1)) (newR_rr g st (new_lst hp g3.ok.sub (cut_rep ra))) h3
  | tup ds =>
    obtain ⟨a, xs, rfl, ha, ra⟩ := see.tup
    refine .inr ⟨a, xs, rfl, g3.ok.sub.sqT X.K ha, fun hw => ?_, fun _ p hp => ?_⟩
    · have e : cut ds lo' hi' = ds := by
        have l := ra.len X.K X.mg
        unfold cut
        rw [l, hw.1, hw.2]
        simp [← l]
      refine k _ c3 (.val (.tup (cut ds lo' hi'))) g (e3.trans (e2.trans e1)) ?_ h3
      rw [e]
      exact ⟨a, xs, rfl, ha, ra⟩
    · have st := Step.tup' (o := .tup (cutV xs lo' hi')) g3.ok.sub hp
      exact k _ { c3 with F := upd c3.F p (.tup (cutV xs lo' hi')), H := upd c3.H p (.tup (cutV xs lo' hi')) } _ (g.trans X.K X.mg (st.go g3.ok)) (e3.trans (e2.trans e1)) (newR_rr g st (new_tup hp g3.ok.sub (cut_rep ra))) h3
  | _ => exact h3.elim
def wCall (g : GN) (w : WR) : WE := fun ρ Q Ep => w ρ (fun rs ρ' => pkL ρ' rs fun ds => g ds fun z => Q z ρ') Ep
theorem call_run {es : List Expr} {t : TA} {r : List V → Hp → VK → Prop} {g : GN} {w : WR} (hg : OpN X.K X.mg r g)
    (s : ∀ (c : Cfg) (Qp : List R → Env → Prop) (Ep : Ex → Env → Prop) (Q : List V → Hp → Prop), Ok X.K X.mg c → w c.ρ Qp Ep → XOk X.K X.mg c Ep XE → (∀ vs c' rs, Go X.K X.mg c c' → c'.σ = c.σ → RRVs X.K X.mg c' rs vs → rs.length = es.length → Qp rs c'.ρ → Q vs c'.H) → t c.σ c.H Q) :
    SoE X XE (tCB r t) (wCall g w) := by
  intro c Qp Ep Q ok hw x k
  refine s c _ Ep _ ok hw x fun vs c1 rs g1 e1 r1 _ h1 => ?_
  obtain ⟨ds, sl, h1⟩ := pkL_of g1.ok r1 h1
  refine hg c1.F c1.H ds vs _ _ g1.ok.sub sl h1 fun w' F' H' res st nw hq => ?_
  exact k w' { c1 with F := F', H := H' } res (g1.trans X.K X.mg (st.go g1.ok)) e1 (newR_rr g1 st nw) hq
theorem pd_callB {x : Str} {bid : String} {p pos : Pos} {e : Expr} {es : List Expr} {r : List V → Hp → VK → Prop} {g : GN} {w : WR} (hc : CallR X (.builtin bid) r) (hg : OpN X.K X.mg r g) (gl : Gl X x) (hm : X.mg x = none) (hv : bootBuiltins x = some (.builtin bid)) (ha : PdV X XE (e :: es) w)
    (hn : x ≠ "__name__" := by decide) (hdb : (x == ("__debug__" : Str)) = false := by decide)
    (he : starEach (e :: es) X.env = (false, eval e X.env) :: starEach es X.env := by rfl) (hpl : (backTo pos (starEach es X.env)).any (·.1) = false := by rfl) : PdE X XE (.Call (.Name x p) (e :: es) [] pos) (wCall g w) := by
  obtain ⟨t, pa, s⟩ := ha
  exact ⟨_, pe_callB hc gl hm hv pa hn hdb he hpl, call_run (es := e :: es) hg s⟩
theorem pd_callTy {x : Str} {T : String} {p pos : Pos} {e : Expr} {es : List Expr} {r : List V → Hp → VK → Prop} {g : GN} {w : WR} (hc : CallR X (.type T) r) (hg : OpN X.K X.mg r g) (gl : Gl X x) (hm : X.mg x = none) (hv : bootBuiltins x = some (.type T)) (ha : PdV X XE (e :: es) w)
    (hn : x ≠ "__name__" := by decide) (hdb : (x == ("__debug__" : Str)) = false := by decide)
    (he : starEach (e :: es) X.env = (false, eval e X.env) :: starEach es X.env := by rfl) (hpl : (backTo pos (starEach es X.env)).any (·.1) = false := by rfl) : PdE X XE (.Call (.Name x p) (e :: es) [] pos) (wCall g w) := by
  obtain ⟨t, pa, s⟩ := ha
  exact ⟨_, pe_callTy hc gl hm hv pa hn hdb he hpl, call_run (es := e :: es) hg s⟩
end
end PL
namespace PL
open PySem PySem.Spec PyProof.Rows L2
variable [HasT]
section
variable {K : PySem.W.Frag} {mg : Str → Option Value}
theorem seeL1 {F H : Hp} {d : D} {vs : List V} (h : SeeL K mg F H [d] vs) : ∃ v, vs = [v] ∧ See K mg F H d v := by
  obtain ⟨x, r, rfl, h1, h2⟩ := h
  rw [show r = [] from h2]
  exact ⟨x, rfl, h1⟩
theorem seeL2 {F H : Hp} {d e : D} {vs : List V} (h : SeeL K mg F H [d, e] vs) : ∃ v u, vs = [v, u] ∧ See K mg F H d v ∧ See K mg F H e u := by
  obtain ⟨x, r, rfl, h1, y, t, rfl, h2, h3⟩ := h
  rw [show t = [] from h3]
  exact ⟨x, y, rfl, h1, h2⟩
/-- len -/
def gLen : GN := fun ds Q => match ds with
  | [.str z] => z.length ≤ sizeLine ∧ Q (.val (.int z.length))
  | [.lst xs] => Q (.val (.int xs.length))
  | [.kst xs] => Q (.val (.int xs.length))
  | [.tup xs] => Q (.val (.int xs.length))
  | _ => False
theorem opn_len : OpN K mg (fun xs H Q => ∃ x n, xs = [x] ∧ LenV K x H n ∧ Q (.int n) H) gLen := by
  intro F H ds vs Qg Q s h hg k
  unfold gLen at hg
  split at hg
  next z =>
    obtain ⟨v, rfl, h1⟩ := seeL1 h
    rw [h1.str]
    exact ⟨_, _, rfl, ⟨hg.1, rfl⟩, fin_val s k (d := .int _) rfl hg.2⟩
  next ds =>
    obtain ⟨v, rfl, h1⟩ := seeL1 h
    obtain ⟨a, xs, rfl, ha, ra⟩ := h1.lst s
    exact ⟨_, _, rfl, .inl ⟨xs, SqL.of ha, rfl⟩, fin_val s k (d := .int xs.length) rfl (by rw [← ra.len K mg]; exact hg)⟩
  next ds =>
    obtain ⟨v, rfl, h1⟩ := seeL1 h
    obtain ⟨a, xs, rfl, ha, ra⟩ := h1.kst
    exact ⟨_, _, rfl, .inl ⟨xs, s.sqL K ha, rfl⟩, fin_val s k (d := .int xs.length) rfl (by rw [← ra.len K mg]; exact hg)⟩
  next ds =>
    obtain ⟨v, rfl, h1⟩ := seeL1 h
    obtain ⟨a, xs, rfl, ha, ra⟩ := h1.tup
    exact ⟨_, _, rfl, .inr ⟨xs, s.sqT K ha, rfl⟩, fin_val s k (d := .int xs.length) rfl (by rw [← ra.len K mg]; exact hg)⟩
  next => exact hg.elim
/-- all bools of a list -/
def blsD : List D → Option (List Bool)
  | [] => some []
  | .bl b :: r => (blsD r).map (b :: ·)
  | _ => none
def intsD : List D → Option (List Int)
  | [] => some []
  | .int b :: r => (intsD r).map (b :: ·)
  | _ => none
theorem intsD_map : ∀ (l : List Int), intsD (l.map .int) = some l
  | [] => rfl
  | b :: l => by simp [intsD, intsD_map l]
theorem blsD_rep {F : Hp} : ∀ {ds : List D} {xs : List V} {bs : List Bool}, RepL K mg F ds xs → blsD ds = some bs → xs = bs.map V.bl
  | [], _, _, h, e => by cases e; rw [show _ = [] from h]; rfl
  | d :: ds, _, bs, h, e => by
    obtain ⟨x, r, rfl, h1, h2⟩ := h
    cases d with
    | bl b =>
      cases q : blsD ds with
      | none => simp [blsD, q] at e
      | some bs' =>
        simp [blsD, q] at e
        subst e
        rw [show x = V.bl b from h1, blsD_rep h2 q]; rfl
    | _ => cases e
theorem intsD_rep {F : Hp} : ∀ {ds : List D} {xs : List V} {bs : List Int}, RepL K mg F ds xs → intsD ds = some bs → xs = bs.map V.int
  | [], _, _, h, e => by cases e; rw [show _ = [] from h]; rfl
  | d :: ds, _, bs, h, e => by
    obtain ⟨x, r, rfl, h1, h2⟩ := h
    cases d with
    | int b =>
      cases q : intsD ds with
      | none => simp [intsD, q] at e
      | some bs' =>
        simp [intsD, q] at e
        subst e
        rw [show x = V.int b from h1, intsD_rep h2 q]; rfl
    | _ => cases e
def gAll : GN := fun ds Q => match ds with
  | [.lst xs] => match blsD xs with
    | some bs => Q (.val (.bl (bs.all id)))
    | none => False
  | _ => False
def gAny : GN := fun ds Q => match ds with
  | [.lst xs] => match blsD xs with
    | some bs => Q (.val (.bl (bs.any id)))
    | none => False
  | _ => False
def gSum : GN := fun ds Q => match ds with
  | [.lst xs] => match intsD xs with
    | some bs => Q (.val (.int bs.sum))
    | none => False
  | _ => False
theorem opn_all : OpN K mg (rAll K) gAll := by
  intro F H ds vs Qg Q s h hg k
  unfold gAll at hg
  split at hg
  next ds =>
    obtain ⟨v, rfl, h1⟩ := seeL1 h
    obtain ⟨a, xs, rfl, ha, ra⟩ := h1.lst s
    split at hg
    next bs q =>
      cases blsD_rep ra q
      exact ⟨a, bs, rfl, SqL.of ha, fin_val s k (d := .bl _) rfl hg⟩
    next => exact hg.elim
  next => exact hg.elim
theorem opn_any : OpN K mg (rAny K) gAny := by
  intro F H ds vs Qg Q s h hg k
  unfold gAny at hg
  split at hg
  next ds =>
    obtain ⟨v, rfl, h1⟩ := seeL1 h
    obtain ⟨a, xs, rfl, ha, ra⟩ := h1.lst s
    split at hg
    next bs q =>
      cases blsD_rep ra q
      exact ⟨a, bs, rfl, SqL.of ha, fin_val s k (d := .bl _) rfl hg⟩
    next => exact hg.elim
  next => exact hg.elim
theorem opn_sum : OpN K mg (rSum K) gSum := by
  intro F H ds vs Qg Q s h hg k
  unfold gSum at hg
  split at hg
  next ds =>
    obtain ⟨v, rfl, h1⟩ := seeL1 h
    obtain ⟨a, xs, rfl, ha, ra⟩ := h1.lst s
    split at hg
    next bs q =>
      cases intsD_rep ra q
      exact ⟨a, bs, rfl, SqL.of ha, fin_val s k (d := .int _) rfl hg⟩
    next => exact hg.elim
  next => exact hg.elim
def gII (f : Int → Int → Int) : GN := fun ds Q => match ds with
  | [.int i, .int j] => Q (.val (.int (f i j)))
  | _ => False
theorem opn_ii {f : Int → Int → Int} : OpN K mg (fun xs H Q => ∃ i j, xs = [.int i, .int j] ∧ Q (.int (f i j)) H) (gII f) := by
  intro F H ds vs Qg Q s h hg k
  unfold gII at hg
  split at hg
  next i j =>
    obtain ⟨v, u, rfl, h1, h2⟩ := seeL2 h
    rw [h1.int, h2.int]
    exact ⟨i, j, rfl, fin_val s k (d := .int _) rfl hg⟩
  next => exact hg.elim
/-- tuple(xs), list(xs) -/
def gTuple : GN := fun ds Q => match ds with
  | [.lst xs] => Q (.val (.tup xs))
  | [.tup xs] => Q (.val (.tup xs))
  | _ => False
theorem opn_tuple : OpN K mg (fun xs H Q => ∃ p ys, xs = [.ref p] ∧ ((SqL K H p ys ∧ ∀ l, H l = none → Q (.ref l) (upd H l (.tup ys))) ∨ (SqT K H p ys ∧ Q (.ref p) H))) gTuple := by
  intro F H ds vs Qg Q s h hg k
  unfold gTuple at hg
  split at hg
  next ds =>
    obtain ⟨v, rfl, h1⟩ := seeL1 h
    obtain ⟨a, xs, rfl, ha, ra⟩ := h1.lst s
    exact ⟨a, xs, rfl, .inl ⟨SqL.of ha, fun p hp => k _ _ _ _ (Step.tup' s hp) (new_tup hp s ra) hg⟩⟩
  next ds =>
    obtain ⟨v, rfl, h1⟩ := seeL1 h
    obtain ⟨a, xs, rfl, ha, ra⟩ := h1.tup
    exact ⟨a, xs, rfl, .inr ⟨s.sqT K ha, fin_val s k (d := .tup ds) ⟨a, xs, rfl, ha, ra⟩ hg⟩⟩
  next => exact hg.elim
def gList : GN := fun ds Q => match ds with
  | [.lst xs] => Q (.tmp (.lst xs))
  | [.tup xs] => Q (.tmp (.lst xs))
  | _ => False
theorem opn_list : OpN K mg (fun xs H Q => ∃ p ys, xs = [.ref p] ∧ (SqL K H p ys ∨ SqT K H p ys) ∧ ∀ l, H l = none → Q (.ref l) (upd H l (.lst ys))) gList := by
  intro F H ds vs Qg Q s h hg k
  unfold gList at hg
  split at hg
  next ds =>
    obtain ⟨v, rfl, h1⟩ := seeL1 h
    obtain ⟨a, xs, rfl, ha, ra⟩ := h1.lst s
    exact ⟨a, xs, rfl, .inl (SqL.of ha), fun p hp => k _ _ _ _ (Step.new s hp) (new_lst hp s ra) hg⟩
  next ds =>
    obtain ⟨v, e, h'⟩ := seeL1 h
    subst e
    obtain ⟨a, xs, rfl, ha, ra⟩ := h'.tup
    exact ⟨a, xs, rfl, .inr (s.sqT K ha), fun p hp => k _ _ _ _ (Step.new s hp) (new_lst hp s ra) hg⟩
  next => exact hg.elim
inductive Ty where | non | bl | int | str | tup | lst | dic
def Ty.name : Ty → String
  | .non => "NoneType" | .bl => "bool" | .int => "int" | .str => "str" | .tup => "tuple" | .lst => "list" | .dic => "dict"
def isT : Ty → Ty → Bool
  | .non, .non => true | .bl, .bl => true | .bl, .int => true | .int, .int => true | .str, .str => true | .tup, .tup => true | .lst, .lst => true | .dic, .dic => true
  | _, _ => false
theorem kit_T : ∀ a b : Ty, kitB a.name b.name = some (isT a b) := by
  intro a b
  cases a <;> cases b <;> decide +kernel
def tyD : D → Option Ty
  | .non => some .non | .bl _ => some .bl | .int _ => some .int | .str _ => some .str | .tup _ => some .tup | .lst _ => some .lst | .dic _ _ => some .dic | .dit _ _ => none | .dix _ _ _ => none | .obj _ _ _ => none | .exc _ _ _ => none | .kst _ => none | .draw => some .dic | .box _ => none
theorem see_ty {F H : Hp} {d : D} {v : V} {t : Ty} (s : Mono F H) (h : See K mg F H d v) (e : tyD d = some t) : TyX K H v (.type t.name) := by
  cases d with
  | non => cases e; rw [h.non]; exact .base .non
  | bl b => cases e; rw [h.bl]; exact .base (.bl _)
  | int b => cases e; rw [h.int]; exact .base (.int _)
  | str b => cases e; rw [h.str]; exact .base (.str _)
  | tup ds =>
    cases e
    obtain ⟨a, xs, rfl, h1, _⟩ := h.tup
    rcases s.sqT K h1 with (h1 | ⟨o, h1⟩) | ⟨o, its, n, h1, h2, _⟩
    · exact .base (.tup h1)
    · exact .fTuple h1
    · exact .kTuple h1 h2
  | lst ds =>
    cases e
    obtain ⟨a, xs, rfl, h1, _⟩ := h.lst s
    exact .base (.lst h1)
  | dic ks ds =>
    cases e
    rcases h with ⟨a, kvs, rfl, h1, _⟩ | ⟨ft, a, kvs, rfl, _, h1, _⟩
    · rcases s.rd h1 with h1 | ⟨o, h1⟩
      · exact .base (.dK h1)
      · exact .fDict h1
    · exact .base (.dK h1)
  | dit ks ds => cases e
  | dix W ks ds => cases e
  | obj c fs ds => cases e
  | exc c fs ds => cases e
  | kst ds => cases e
  | box d => cases e
  | draw =>
    cases e
    rcases h with h | ⟨ft, a, l, rfl, _, ⟨_, ⟨c, rest, turn, mix, h1, _⟩, _⟩⟩
    · exact h.elim
    · exact .base (.dK h1)
end
def wIsi (f : D → Option Bool) (w : WE) : WE := fun ρ Q Ep => wV w ρ (fun r ρ' => pk1 ρ' r fun d => match f d with
  | some b => Q (.val (.bl b)) ρ'
  | none => False) Ep
section
variable {X : Cx} {XE : XK}
theorem pd_isi {f : D → Option Bool} {cv : V} {u : Value} {p pos : Pos} {a ec : Expr} {w : WE} (hf : ∀ F H d v b, Mono F H → See X.K X.mg F H d v → f d = some b → ∃ t, TyX X.K H v t ∧ PySem.W.kitOne X.K t u = some b)
    (hc : PE X ec (tC cv)) (hk : ClsV cv u) (gl : Gl X "isinstance") (hm : X.mg "isinstance" = none) (ha : PdE X XE a w)
    (he : starEach [a, ec] X.env = (false, eval a X.env) :: starEach [ec] X.env := by rfl) (he2 : starEach [ec] X.env = (false, eval ec X.env) :: starEach [] X.env := by rfl)
    (hpl : (backTo pos (starEach [ec] X.env)).any (·.1) = false := by rfl) : PdE X XE (.Call (.Name "isinstance" p) [a, ec] [] pos) (wIsi f w) := by
  obtain ⟨t, pa, s⟩ := ha
  refine ⟨_, pe_callB call_isi gl hm (by decide +kernel) (pa_cons pa (pa_cons hc pa_nil he2) he) (by decide) (by decide) he hpl, fun c Qp Ep Q ok hw x k => ?_⟩
  refine runV (e := a) s ok hw x fun v c1 r1 g1 e1 rr1 h1 => ?_
  obtain ⟨d, hd, h1⟩ := pk1_of h1
  split at h1
  next b hb =>
    obtain ⟨t, ty, kt⟩ := hf c1.F c1.H d v b g1.ok.sub (rr1.see g1.ok hd) hb
    exact ⟨v, cv, t, u, b, rfl, hk, ty, kt, k _ c1 _ g1 e1 rr_bl h1⟩
  next => exact h1.elim
theorem pd_isiT {f : D → Option Bool} {cs : List V} {us : List Value} {p pos p2 : Pos} {a : Expr} {es : List Expr} {x1} {t2 : TA} {w : WE} (hf : ∀ F H d v b, Mono F H → See X.K X.mg F H d v → f d = some b → ∃ t, TyX X.K H v t ∧ PySem.W.kitAny X.K t us = some b)
    (hc : PA X es t2) (ht2 : ∀ σ H Q, Q cs H → t2 σ H Q) (hk : Paired ClsV cs us) (hz : cs.length ≤ sizeLine) (gl : Gl X "isinstance") (hm : X.mg "isinstance" = none) (ha : PdE X XE a w)
    (he : starEach [a, .Tuple es x1 p2] X.env = (false, eval a X.env) :: starEach [.Tuple es x1 p2] X.env := by rfl) (he2 : starEach [.Tuple es x1 p2] X.env = (false, eval (.Tuple es x1 p2) X.env) :: starEach [] X.env := by rfl)
    (hpl : (backTo pos (starEach [.Tuple es x1 p2] X.env)).any (·.1) = false := by rfl) : PdE X XE (.Call (.Name "isinstance" p) [a, .Tuple es x1 p2] [] pos) (wIsi f w) := by
  obtain ⟨t, pa, s⟩ := ha
  refine ⟨_, pe_callB call_isiT gl hm (by decide +kernel) (pa_cons pa (pa_cons (pe_tup hc) pa_nil he2) he) (by decide) (by decide) he hpl, fun c Qp Ep Q ok hw x k => ?_⟩
  refine runV (e := a) s ok hw x fun v c1 r1 g1 e1 rr1 h1 => ?_
  obtain ⟨d, hd, h1⟩ := pk1_of h1
  split at h1
  next b hb =>
    refine ht2 _ _ _ ⟨hz, fun q hq => ?_⟩
    have st := Step.tup' (o := .tup cs) g1.ok.sub hq
    have g2 := st.go g1.ok
    obtain ⟨t, ty, kt⟩ := hf (upd c1.F q (.tup cs)) (upd c1.H q (.tup cs)) d v b st.sub ((rr1.go g2 rfl).see (c := { c1 with F := upd c1.F q (.tup cs), H := upd c1.H q (.tup cs) }) g2.ok hd) hb
    exact ⟨v, q, cs, t, us, b, rfl, upd_same, hk, ty, kt, k _ { c1 with F := upd c1.F q (.tup cs), H := upd c1.H q (.tup cs) } _ (g1.trans X.K X.mg g2) e1 rr_bl h1⟩
  next => exact h1.elim
def fT (t : Ty) : D → Option Bool := fun d => (tyD d).map fun s => isT s t
theorem fT_ok (t : Ty) (F H : Hp) (d : D) (v : V) (b : Bool) (s : Mono F H) (h : See X.K X.mg F H d v) (e : fT t d = some b) : ∃ u, TyX X.K H v u ∧ PySem.W.kitOne X.K u (.type t.name) = some b := by
  unfold fT at e
  cases q : tyD d with
  | none => rw [q] at e; cases e
  | some y =>
    rw [q] at e; cases e
    exact ⟨_, see_ty s h q, kit_ty (kit_T y t)⟩
def fT2 (t t' : Ty) : D → Option Bool := fun d => (tyD d).map fun s => isT s t || isT s t'
theorem fT2_ok (t t' : Ty) (F H : Hp) (d : D) (v : V) (b : Bool) (s : Mono F H) (h : See X.K X.mg F H d v) (e : fT2 t t' d = some b) : ∃ u, TyX X.K H v u ∧ PySem.W.kitAny X.K u [.type t.name, .type t'.name] = some b := by
  unfold fT2 at e
  cases q : tyD d with
  | none => rw [q] at e; cases e
  | some y =>
    rw [q] at e; cases e
    show ∃ u, TyX X.K H v u ∧ PySem.W.kitAny X.K u [.type t.name, .type t'.name] = some (isT y t || isT y t')
    refine ⟨_, see_ty s h q, kitAny_cons (kit_ty (kit_T y t)) (fun h => kitAny_cons (kit_ty (kit_T y t')) (fun h' => ?_) fun h' => ?_) fun h => ?_⟩
    · rw [h, h']; exact kitAny_nil
    · rw [h']; simp
    · rw [h]; simp
end
end PL
namespace PL
open PySem PySem.Spec PyProof.Rows L2
variable [HasT]
theorem passN {X : Cx} : Passes (L2N.CX X.prog X.w) X (fun _ _ _ => False) := fun _ _ _ _ _ _ _ ⟨_, _, _, _, _, _, _, _, _, _, _, _, z⟩ => z.elim
/-- what every rule may ask of the context -/
structure Cc (X : Cx) (XE : XK) (k : Nat) : Prop where
  calm : X.calm = true
  own : PassesOwn (model X.prog X.w) X.A X.env X.xe
  pas : Passes (L2N.CX X.prog X.w) X XE
  tak : L2N.Takes X (fun cls d _ H => XE cls d H)
  room : Room k X.A
section
variable {K : PySem.W.Frag} {mg : Str → Option Value}
theorem RT.go {c c1 c2 : Cfg} {r : R} {v : V} (g : Go K mg c c1) (h : RT K mg c1 c2 r v) : RT K mg c c2 r v := by
  cases r with
  | val d => exact h
  | slot i => exact h
  | tmp d =>
    obtain ⟨ft, o, hf⟩ := h
    refine ⟨ft, o, fun b hb => ?_⟩
    obtain ⟨h1, h2, h3, h4⟩ := hf b hb
    refine ⟨h1, h2, ?_, h4⟩
    rcases h3 with ⟨j, hj⟩ | e
    · exact g.orig j b hj
    · refine .inr ?_
      cases q : c.H b with
      | none => rfl
      | some o => exact absurd e (g.fr.grow b (by rw [q]; simp))
theorem RR.rt {c c2 : Cfg} {r : R} {v : V} (h : RR K mg c c2 r v) (ns : ∀ i, r ≠ .slot i) : RT K mg c c2 r v := by
  cases r with
  | val d => exact h
  | slot i => exact absurd rfl (ns i)
  | tmp d =>
    obtain ⟨ft, o, hf⟩ := h
    refine ⟨ft, o, fun b hb => ?_⟩
    obtain ⟨h1, h2, h3, h4⟩ := hf b hb
    exact ⟨h1, h2, .inr h3, h4⟩
theorem POk.go {c c1 : Cfg} {Dp : PEnds} {D : Ends} {XE : XK} (h : POk K mg c Dp D XE) (g : Go K mg c c1) : POk K mg c1 Dp D XE :=
  ⟨fun c' g' q => h.1 c' (g.trans K mg g') q, fun v c' r g' rr q => h.2.1 v c' r (g.trans K mg g') (rr.go g) q, fun c' g' q => h.2.2.1 c' (g.trans K mg g') q, fun c' g' q => h.2.2.2.1 c' (g.trans K mg g') q, h.2.2.2.2.go K mg g⟩
theorem POk.nx {c : Cfg} {Dp : PEnds} {D : Ends} {XE : XK} {n : Env → Prop} {N : L2.St → Hp → Prop} (h : POk K mg c Dp D XE) (hn : ∀ c', Go K mg c c' → n c'.ρ → N c'.σ c'.H) : POk K mg c { Dp with nx := n } { D with nx := N } XE :=
  ⟨hn, h.2.1, h.2.2.1, h.2.2.2.1, h.2.2.2.2⟩
/-- slot i forgets -/
theorem drop_slot {c : Cfg} (ok : Ok K mg c) {i : Nat} (nb : ∀ d, c.ρ[i]? ≠ some (some (.own true d))) : Go K mg c { c with ρ := c.ρ.set i none, fp := fpSet c.fp i [] } := by
  refine ⟨⟨ok.tabs, ok.sub, by simpa using ok.len, fun j x q => ?_, fun j q => ?_, fun j b hb => ?_, fun j k b h1 h2 => ?_, ok.tf⟩, Frm.refl _ _ _, fun j b hb => ?_, fun j y q => ?_⟩
  · rcases set_get q with ⟨rfl, ex⟩ | ⟨hj, q'⟩
    · cases ex
    · obtain ⟨w, hw, eo⟩ := ok.slot j x q'
      refine ⟨w, hw, ?_⟩
      show EntOk K mg c.F c.H x w (fpSet c.fp i [] j)
      rw [fpSet_ne hj]; exact eo
  · show fpSet c.fp i [] j = []
    by_cases hj : j = i
    · subst hj; exact fpSet_same
    · rw [fpSet_ne hj]
      exact ok.non j fun e z => q e (by show (c.ρ.set i _)[j]? = _; rw [List.getElem?_set_ne (Ne.symm hj)]; exact z)
  · replace hb : b ∈ fpSet c.fp i [] j := hb
    have hj : j ≠ i := fun z => by
      subst z
      rw [show fpSet c.fp j [] j = [] from fpSet_same] at hb; cases hb
    rw [show fpSet c.fp i [] j = c.fp j from fpSet_ne hj] at hb
    exact ok.out j b hb
  · replace h1 : b ∈ fpSet c.fp i [] j := h1
    replace h2 : b ∈ fpSet c.fp i [] k := h2
    by_cases hj : j = i
    · subst hj
      rw [show fpSet c.fp j [] j = [] from fpSet_same] at h1; cases h1
    · by_cases hk : k = i
      · subst hk
        rw [show fpSet c.fp k [] k = [] from fpSet_same] at h2; cases h2
      · rw [show fpSet c.fp i [] j = c.fp j from fpSet_ne hj] at h1
        rw [show fpSet c.fp i [] k = c.fp k from fpSet_ne hk] at h2
        exact ok.disj j k b h1 h2
  · replace hb : b ∈ fpSet c.fp i [] j := hb
    by_cases hj : j = i
    · subst hj
      rw [show fpSet c.fp j [] j = [] from fpSet_same] at hb; cases hb
    · rw [show fpSet c.fp i [] j = c.fp j from fpSet_ne hj] at hb
      exact .inl ⟨j, hb⟩
  · have hj : j ≠ i := fun z => by subst z; exact nb y q
    exact ⟨y, by show (c.ρ.set i _)[j]? = _; rw [List.getElem?_set_ne (Ne.symm hj)]; exact q, by rw [show ({ c with ρ := c.ρ.set i none, fp := fpSet c.fp i [] } : Cfg).fp j = c.fp j from fpSet_ne hj]; exact Grw.refl _ _, rfl⟩
end
def wSeq (a b : WS) : WS := fun D ρ => a { D with nx := fun ρ' => b D ρ' } ρ
def wNext : WS := fun D ρ => D.nx ρ
def wNever : WS := fun _ _ => False
def wBreak : WS := fun D ρ => D.bk ρ
def wExpr (w : WE) : WS := fun D ρ => w ρ (fun _ ρ' => D.nx ρ') D.ex
def wRet (w : WE) : WS := fun D ρ => w ρ (fun r ρ' => match r with
  | .slot i => match ρ'[i]? with
    | some (some (.val d)) => D.rt (.val d) ρ'
    | some (some (.own false d)) => D.rt (.tmp d) (ρ'.set i none)
    | _ => False
  | r => D.rt r ρ') D.ex
def wRetN : WS := fun D ρ => D.rt (.val .non) ρ
def wIf (wt : WT) (wa wb : WS) : WS := fun D ρ => wt ρ (fun b ρ' => if b = true then wa D ρ' else wb D ρ') D.ex
abbrev WG := D → Env → (Env → Prop) → Prop
abbrev WGs := List D → Env → (Env → Prop) → Prop
def wName (i : Nat) : WG := fun d ρ Q => match ρ[i]? with
  | some (some (.own true _)) => False
  | some _ => Q (ρ.set i (some (.val d)))
  | none => False
def wGn : WGs := fun ds ρ Q => match ds with
  | [] => Q ρ
  | _ => False
def wGc (w : WG) (wr : WGs) : WGs := fun ds ρ Q => match ds with
  | d :: r => w d ρ fun ρ' => wr r ρ' Q
  | [] => False
/-- a, b = .. -/
def wUnp (n : Nat) (ws : WGs) : WG := fun d ρ Q => match d with
  | .tup ds => ds.length = n ∧ ws ds ρ Q
  | .lst ds => ds.length = n ∧ ws ds ρ Q
  | _ => False
def wAsg (w : WE) (g : WG) : WS := fun D ρ => wK w ρ (fun d ρ' => g d ρ' D.nx) D.ex
/-- x = e -/
def wSet (i : Nat) (w : WE) : WS := fun D ρ => w ρ (fun r ρ' => match ρ'[i]? with
  | some (some (.own true _)) => False
  | some _ => match r with
    | .val d => D.nx (ρ'.set i (some (.val d)))
    | .tmp d => D.nx (ρ'.set i (some (.own false d)))
    | .slot j => match ρ'[j]? with
      | some (some (.val d)) => D.nx (ρ'.set i (some (.val d)))
      | some (some (.own false d)) => frz d (D.nx ((ρ'.set j (some (.val d))).set i (some (.val d))))
      | _ => False
  | none => False) D.ex
def wForL (wt : WG) (wb : WS) : List D → PEnds → Env → Prop
  | [], Dp, ρ => Dp.nx ρ
  | d :: ds, Dp, ρ => wt d ρ fun ρ1 => wb { Dp with nx := fun ρ' => wForL wt wb ds Dp ρ', ct := fun ρ' => wForL wt wb ds Dp ρ', bk := Dp.nx } ρ1
abbrev WI := Env → (List D → Env → Prop) → (Ex → Env → Prop) → Prop
def wFor (wi : WI) (wt : WG) (wb : WS) : WS := fun Dp ρ => wi ρ (fun ds ρ1 => wForL wt wb ds Dp ρ1) Dp.ex
def wWhileN (wt : WT) (wb : WS) : Nat → PEnds → Env → Prop
  | 0, _, _ => False
  | n + 1, Dp, ρ => wt ρ (fun b ρ' => if b = true then wb { Dp with nx := fun ρ' => wWhileN wt wb n Dp ρ', ct := fun ρ' => wWhileN wt wb n Dp ρ', bk := Dp.nx } ρ' else Dp.nx ρ') Dp.ex
def wWhile (wt : WT) (wb : WS) : WS := fun Dp ρ => ∃ n, wWhileN wt wb n Dp ρ
section
variable {X : Cx} {XE : XK}
theorem pss_c {a : Stmt} {r : List Stmt} {wa wr : WS} (ha : PdS X XE a wa) (hr : PdSs X XE r wr) : PdSs X XE (a :: r) (wSeq wa wr) := by
  obtain ⟨ta, pa, sa⟩ := ha
  obtain ⟨tr, pr, sr⟩ := hr
  refine ⟨_, pss_cons pa pr, fun c Dp D ok hw P => ?_⟩
  exact sa c _ _ ok hw (P.nx fun c1 g1 h1 => sr c1 Dp D g1.ok h1 (P.go g1))
theorem pss_1 {a : Stmt} {wa : WS} (ha : PdS X XE a wa) : PdSs X XE [a] wa := by
  obtain ⟨ta, pa, sa⟩ := ha
  exact ⟨_, pss_one pa, sa⟩
theorem pss_0 : PdSs X XE [] wNext := ⟨_, pss_nil, fun c Dp D ok hw P => P.1 c (Go.refl _ _ ok) hw⟩
theorem pst_never {a : Stmt} : PdS X XE a wNever := ⟨_, ps_never, fun c Dp D ok hw P => hw.elim⟩
theorem pst_expr {e : Expr} {pos : Pos} {w : WE} (h : PdE X XE e w) (hs : swapsWith e none pos.line X.env = pure false := by rfl) : PdS X XE (.Expr e pos) (wExpr w) := by
  obtain ⟨t, p, s⟩ := h
  exact ⟨_, ps_expr p hs, fun c Dp D ok hw P => s c _ _ _ ok hw (P.2.2.2.2.ex X.K X.mg) fun v c' r g e rr q => by rw [← e]; exact P.1 c' g q⟩
theorem pst_ret {e : Expr} {pos : Pos} {w : WE} (h : PdE X XE e w) : PdS X XE (.Return (some e) pos) (wRet w) := by
  obtain ⟨t, p, s⟩ := h
  refine ⟨_, ps_ret p, fun c Dp D ok hw P => s c _ _ _ ok hw (P.2.2.2.2.ex X.K X.mg) fun v c' r g e rr q => ?_⟩
  cases r with
  | val d => exact P.2.1 v c' (.val d) g rr q
  | tmp d => exact P.2.1 v c' (.tmp d) g (rr.rt fun i => R.noConfusion) q
  | slot i =>
    have hv : c'.σ[i]? = some (some v) := rr
    dsimp only at q
    split at q
    next d hd =>
      obtain ⟨w', hw', rp, _⟩ := g.ok.val hd
      rw [hw'] at hv; cases hv
      exact P.2.1 _ c' (.val d) g rp q
    next d hd =>
      obtain ⟨w', hw', o⟩ := g.ok.own hd
      rw [hw'] at hv; cases hv
      have g2 := drop_slot g.ok (i := i) fun d' z => by rw [hd] at z; cases z
      refine P.2.1 _ { c' with ρ := c'.ρ.set i none, fp := fpSet c'.fp i [] } (.tmp d) (g.trans X.K X.mg g2) ⟨c'.fp i, o, fun b hb => ?_⟩ q
      obtain ⟨h1, h2⟩ := g.ok.out i b hb
      refine ⟨h1, h2, g.orig i b hb, fun j hj => ?_⟩
      replace hj : b ∈ fpSet c'.fp i [] j := hj
      by_cases hji : j = i
      · subst hji
        rw [show fpSet c'.fp j [] j = [] from fpSet_same] at hj; cases hj
      · rw [show fpSet c'.fp i [] j = c'.fp j from fpSet_ne hji] at hj
        exact hji (g.ok.disj j i b hj hb)
    next => exact q.elim
theorem pst_if {t : Expr} {a b : List Stmt} {pos : Pos} {wt : WT} {wa wb : WS} (ht : PdT X XE t wt) (ha : PdSs X XE a wa) (hb : PdSs X XE b wb) : PdS X XE (.If t a b pos) (wIf wt wa wb) := by
  obtain ⟨tt, pt, st⟩ := ht
  obtain ⟨ta, pa, sa⟩ := ha
  obtain ⟨tb, pb, sb⟩ := hb
  refine ⟨_, ps_if pt pa pb, fun c Dp D ok hw P => ?_⟩
  refine st c _ _ _ ok hw (P.2.2.2.2.ex X.K X.mg) fun b c' g e q => ?_
  rw [← e]
  cases b with
  | true =>
    rw [if_pos rfl] at q ⊢
    exact sa c' Dp D g.ok q (P.go g)
  | false =>
    rw [if_neg Bool.false_ne_true] at q ⊢
    exact sb c' Dp D g.ok q (P.go g)
def PdG (X : Cx) (tg : Expr) (is_ : List Nat) (w : WG) : Prop := ∃ g, PG X tg g ∧ ∀ (c : Cfg) (d : D) (v : V) (Qp : Env → Prop) (Q : L2.St → Hp → Prop), Ok X.K X.mg c → Rep X.K X.mg c.F d v → w d c.ρ Qp →
  (∀ c', Go X.K X.mg c c' → Mono c.F c'.F → (∀ vs, (∀ i ∈ is_, i ∈ vs) → wipe c'.σ vs = wipe c.σ vs) → Qp c'.ρ → Q c'.σ c'.H) → g v c.σ c.H Q
def PdGs (X : Cx) (tg : List Expr) (is_ : List Nat) (w : WGs) : Prop := ∃ g, PGs X tg g ∧ ∀ (c : Cfg) (d : List D) (v : List V) (Qp : Env → Prop) (Q : L2.St → Hp → Prop), Ok X.K X.mg c → RepL X.K X.mg c.F d v → w d c.ρ Qp →
  (∀ c', Go X.K X.mg c c' → Mono c.F c'.F → (∀ vs, (∀ i ∈ is_, i ∈ vs) → wipe c'.σ vs = wipe c.σ vs) → Qp c'.ρ → Q c'.σ c'.H) → g v c.σ c.H Q
theorem wipe_set {σ : L2.St} {i : Nat} {x : Option V} : ∀ {vs : List Nat}, i ∈ vs → wipe (σ.set i x) vs = wipe σ vs
  | [], h => by cases h
  | v :: vs, h => by
    unfold wipe
    by_cases hv : i ∈ vs
    · rw [wipe_set hv]
    · have e : i = v := by
        rcases List.mem_cons.mp h with h | h
        · exact h
        · exact absurd h hv
      subst e
      have aux : ∀ (l : List Nat) (σ : L2.St), i ∉ l → wipe (σ.set i x) l = (wipe σ l).set i x := by
        intro l
        induction l with
        | nil => intro σ _; rfl
        | cons a l ih =>
          intro σ ha
          simp only [List.mem_cons, not_or] at ha
          unfold wipe
          rw [ih σ ha.2, List.set_comm _ _ ha.1]
      rw [aux vs σ hv, List.set_set]
theorem name_go {c : Cfg} {i : Nat} {d : D} {v : V} {Q : Env → Prop} (ok : Ok X.K X.mg c) (r : Rep X.K X.mg c.F d v) (h : wName i d c.ρ Q) :
    Q (c.ρ.set i (some (.val d))) ∧ Go X.K X.mg c { c with σ := c.σ.set i (some v), ρ := c.ρ.set i (some (.val d)), fp := fpSet c.fp i [] } := by
  unfold wName at h
  split at h
  next => exact h.elim
  next x hx e =>
    exact ⟨h, set_slot (Go.refl _ _ ok) (List.getElem?_eq_some_iff.mp e).1 (fun d' z => hx d' (by rw [e] at z; cases z; rfl)) (show EntOk X.K X.mg c.F c.H (.val d) v [] from ⟨r, rfl⟩) (fun d z => by cases z) fun b hb => by cases hb⟩
  next => exact h.elim
theorem pg_n {i : Nat} {x : Str} {pos : Pos} (hN : X.N.Nodup) (hi : X.N[i]? = some x := by rfl) (hx : Loc X.env.scope x := by first | exact Or.inl rfl | exact Or.inr rfl) (hf : X.fn x = true ∨ X.env.scope.names.lookup x = some .local := by first | exact .inl rfl | exact .inr rfl | assumption) : PdG X (.Name x pos) [i] (wName i) := by
  refine ⟨_, pg_name hN hi hx hf, fun c d v Qp Q ok r h k => ?_⟩
  obtain ⟨q, g⟩ := name_go ok r h
  exact k _ g (Mono.refl _) (fun vs h => wipe_set (h i (by simp))) q
theorem pgs_0 : PdGs X [] [] wGn := ⟨_, pgs_nil, fun c d v Qp Q ok r h k => by
  cases d with
  | nil => exact ⟨r, k c (Go.refl _ _ ok) (Mono.refl _) (fun _ _ => rfl) h⟩
  | cons => exact h.elim⟩
theorem pgs_c {e : Expr} {es : List Expr} {i1 i2 : List Nat} {w : WG} {wr : WGs} (h1 : PdG X e i1 w) (h2 : PdGs X es i2 wr) (hs : (assignEach (e :: es) X.env).map (·.2) = assign e X.env :: (assignEach es X.env).map (·.2) := by rfl) : PdGs X (e :: es) (i1 ++ i2) (wGc w wr) := by
  obtain ⟨t, p, s⟩ := h1
  obtain ⟨tr, pr, sr⟩ := h2
  refine ⟨_, pgs_cons p pr hs, fun c d v Qp Q ok r h k => ?_⟩
  cases d with
  | nil => exact h.elim
  | cons d ds =>
    obtain ⟨x, xs, rfl, r1, r2⟩ := r
    refine ⟨x, xs, rfl, s c d x _ _ ok r1 h fun c1 g1 e1 w1 q1 => ?_⟩
    exact sr c1 ds xs _ _ g1.ok (r2.mono X.K X.mg e1 _ _) q1 fun c2 g2 e2 w2 q2 => k c2 (g1.trans X.K X.mg g2) (e1.trans e2) (fun vs h => (w2 vs fun i hi => h i (List.mem_append_right _ hi)).trans (w1 vs fun i hi => h i (List.mem_append_left _ hi))) q2
theorem PG.or {tg : Expr} {a b : TG} (h1 : PG X tg a) (h2 : PG X tg b) : PG X tg (fun v σ H Q => a v σ H Q ∨ b v σ H Q) :=
  ⟨fun pins s σ H v u Q I r hw => by
    rcases hw with hw | hw
    · exact h1.run pins s σ H v u Q I r hw
    · exact h2.run pins s σ H v u Q I r hw⟩
theorem pg_u {es : List Expr} {kk n : Nat} {is_ : List Nat} {pos : Pos} {ws : WGs} (hc : X.calm = true) (h : PdGs X es is_ ws) (hn : (assignEach es X.env).length = n := by rfl) (hst : (assignEach es X.env).findIdx? (·.1) = none := by rfl) : PdG X (.Tuple es kk pos) is_ (wUnp n ws) := by
  obtain ⟨t, p, s⟩ := h
  refine ⟨_, PG.or (pg_tup hc p hn hst) (pg_unl hc p hn hst), fun c d v Qp Q ok r h k => ?_⟩
  cases d with
  | tup ds =>
    obtain ⟨a, xs, rfl, ha, ra⟩ := r
    exact .inl ⟨a, xs, rfl, ok.sub.sqT X.K ha, by rw [← ra.len X.K X.mg]; exact h.1, s c ds xs _ _ ok ra h.2 k⟩
  | lst ds =>
    obtain ⟨a, xs, rfl, ha, ra⟩ := r
    exact .inr ⟨a, xs, rfl, SqL.of (ok.sub.lst ha), by rw [← ra.len X.K X.mg]; exact h.1, s c ds xs _ _ ok ra h.2 k⟩
  | _ => exact h.elim
theorem pst_asg {tg e : Expr} {pos : Pos} {is_ : List Nat} {w : WE} {g : WG} (h : PdE X XE e w) (hg : PdG X tg is_ g) (hs : swapsWithSole [tg] e pos.line X.env = pure false := by rfl) (hw : swappedStores [tg] e X.env = pure none := by rfl) (ha : (assignEach [tg] X.env).map (·.2) = [assign tg X.env] := by rfl) : PdS X XE (.Assign [tg] e pos) (wAsg w g) := by
  obtain ⟨t, p, s⟩ := h
  obtain ⟨tg', pg, sg⟩ := hg
  refine ⟨_, ps_asg p pg hs hw ha, fun c Dp D ok hw P => ?_⟩
  refine runK (e := e) s ok hw (P.2.2.2.2.ex X.K X.mg) fun v c1 d g1 e1 r1 h1 => ?_
  rw [← e1]
  exact sg c1 d v _ _ g1.ok r1 h1 fun c2 g2 _ _ q => P.1 c2 (g1.trans X.K X.mg g2) q
theorem set_run {i : Nat} {t : TE} {w : WE} (s : SoE X XE t w) {c : Cfg} {Dp : PEnds} {D : Ends} (ok : Ok X.K X.mg c) (hw : wSet i w Dp c.ρ) (P : POk X.K X.mg c Dp D XE) : t c.σ c.H (fun v H' => D.nx (c.σ.set i (some v)) H') := by
  refine s c _ _ _ ok hw (P.2.2.2.2.ex X.K X.mg) fun v c' r g e rr q => ?_
  rw [← e]
  split at q
  next => exact q.elim
  next y hy ey =>
    have il := (List.getElem?_eq_some_iff.mp ey).1
    have nb : ∀ d', c'.ρ[i]? ≠ some (some (.own true d')) := fun d' z => hy d' (by rw [ey] at z; cases z; rfl)
    cases r with
    | val d => exact P.1 { c' with σ := c'.σ.set i (some v), ρ := c'.ρ.set i (some (.val d)), fp := fpSet c'.fp i [] } (set_slot g il nb (show EntOk X.K X.mg c'.F c'.H (.val d) v [] from ⟨rr, rfl⟩) (fun d z => by cases z) fun b hb => by cases hb) q
    | tmp d =>
      obtain ⟨ft, o, hf'⟩ := rr
      exact P.1 { c' with σ := c'.σ.set i (some v), ρ := c'.ρ.set i (some (.own false d)), fp := fpSet c'.fp i ft } (set_slot g il nb (show EntOk X.K X.mg c'.F c'.H (.own false d) v ft from o) (fun d z => by cases z) hf') q
    | slot j =>
      have hv : c'.σ[j]? = some (some v) := rr
      dsimp only at q
      split at q
      next d hd =>
        obtain ⟨w', hw', rp, _⟩ := g.ok.val hd
        rw [hw'] at hv; cases hv
        exact P.1 { c' with σ := c'.σ.set i (some _), ρ := c'.ρ.set i (some (.val d)), fp := fpSet c'.fp i [] } (set_slot g il nb (show EntOk X.K X.mg c'.F c'.H (.val d) _ [] from ⟨rp, rfl⟩) (fun d z => by cases z) fun b hb => by cases hb) q
      next d hd =>
        obtain ⟨q', w', F', hw', rp, g'⟩ := freeze_slot g.ok hd q
        rw [hw'] at hv; cases hv
        have gg := g.trans X.K X.mg g'
        refine P.1 { c' with F := F', σ := c'.σ.set i (some _), ρ := (c'.ρ.set j (some (.val d))).set i (some (.val d)), fp := fpSet (fpSet c'.fp j []) i [] } (set_slot (c1 := { c' with F := F', ρ := c'.ρ.set j (some (.val d)), fp := fpSet c'.fp j [] }) gg (by simpa using il) (fun d' z => ?_) (show EntOk X.K X.mg F' c'.H (.val d) _ [] from ⟨rp, rfl⟩) (fun d z => by cases z) fun b hb => by cases hb) q'
        rcases set_get z with ⟨_, z'⟩ | ⟨_, z'⟩
        · cases z'
        · exact nb d' z'
      next => exact q.elim
  next => exact q.elim
theorem pst_set {i : Nat} {x : Str} {e : Expr} {pos' pos : Pos} {w : WE} (hN : X.N.Nodup) (h : PdE X XE e w) (hi : X.N[i]? = some x := by rfl) (hx : Loc X.env.scope x := by first | exact Or.inl rfl | exact Or.inr rfl) (hs : swapsWith e (some (.Name x pos')) pos.line X.env = pure false := by rfl)
    (hf : X.fn x = true ∨ X.env.scope.names.lookup x = some .local := by first | exact .inl rfl | exact .inr rfl | assumption) : PdS X XE (.Assign [.Name x pos'] e pos) (wSet i w) := by
  obtain ⟨t, p, s⟩ := h
  exact ⟨_, ps_set hN hi hx p hs hf, fun c Dp D ok hw P => set_run s ok hw P⟩
end
end PL
namespace PL
open PySem PySem.Spec PyProof.Rows L2
variable [HasT]
section
variable {K : PySem.W.Frag} {mg : Str → Option Value}
/-- the walk J goes through these items wherever P holds of the frozen heap -/
structure ItOk (K : PySem.W.Frag) (mg : Str → Option Value) (J : It) (items : List D) (P : Hp → Prop) : Prop where
  item : ∀ (F H : Hp) i d, Mono F H → TupF F H → P F → items[i]? = some d → J.go i H ∧ ∀ x H', J.yld i H x H' → ∃ F', Step F H F' H' ∧ Rep K mg F' d x
  stop : ∀ (F H : Hp), Mono F H → P F → J.stop items.length H
  mono : ∀ F F', Mono F F' → P F → P F'
  len : items.length ≤ sizeLine
def HLen (H : Hp) : Prop := (∀ a xs, H a = some (.lst xs) → xs.length ≤ sizeLine) ∧ (∀ a xs, H a = some (.tup xs) → xs.length ≤ sizeLine)
theorem hlen_of {P : Program} {w : World} {H : Hp} {h : Heap} (x : HOk P w H h) : HLen H :=
  ⟨fun a xs e => (x a _ e).1, fun a xs e => (x a _ e).1⟩
theorem len_sqT {H : Hp} {a : Addr} {xs : List V} (hl : HLen H) (hf : ∀ a o xs, H a = some (.frz o (.tup xs)) → xs.length ≤ sizeLine) (h : SqT K H a xs) : xs.length ≤ sizeLine := by
  rcases h with (h | ⟨o, h⟩) | ⟨o, its, n, h1, h2, h3, h4, h5⟩
  · exact hl.2 a xs h
  · exact hf a o xs h
  · have := h5.length
    simp only [Array.length_toList] at this
    omega
theorem it_list {a : Addr} {xs : List V} {ds : List D} (hl : ds.length ≤ sizeLine) : ItOk K mg (Itl K a) ds (fun F => ∃ xs, F a = some (.lst xs) ∧ RepL K mg F ds xs) := by
  refine ⟨fun F H i d s _ ⟨xs, h, r⟩ e => ?_, fun F H s ⟨xs, h, r⟩ => ⟨xs, SqL.of (s.lst h), by rw [r.len K mg]; exact Nat.le_refl _⟩, fun F F' m ⟨xs, h, r⟩ => ⟨xs, m.lst h, r.mono K mg m _ _⟩, hl⟩
  obtain ⟨x, hx, rx⟩ := r.get K mg e
  refine ⟨⟨xs, x, SqL.of (s.lst h), hx⟩, fun y H' q => ?_⟩
  obtain ⟨rfl, q⟩ := q
  have := q xs (SqL.of (s.lst h))
  rw [hx] at this; cases this
  exact ⟨F, Step.refl s, rx⟩
theorem it_tup {a : Addr} {ds : List D} (hl : ds.length ≤ sizeLine) : ItOk K mg (Itt K a) ds (fun F => ∃ xs, SqT K F a xs ∧ RepL K mg F ds xs) := by
  refine ⟨fun F H i d s _ ⟨xs, h, r⟩ e => ?_, fun F H s ⟨xs, h, r⟩ => ⟨xs, s.sqT K h, by rw [r.len K mg]; exact Nat.le_refl _⟩, fun F F' m ⟨xs, h, r⟩ => ⟨xs, m.sqT K h, r.mono K mg m _ _⟩, hl⟩
  obtain ⟨x, hx, rx⟩ := r.get K mg e
  refine ⟨⟨xs, x, s.sqT K h, hx⟩, fun y H' q => ?_⟩
  obtain ⟨rfl, q⟩ := q
  have := q xs (s.sqT K h)
  rw [hx] at this; cases this
  exact ⟨F, Step.refl s, rx⟩
theorem it_range {lo : Int} {n : Nat} (hl : n ≤ sizeLine) : ItOk K mg (Itr lo n) ((List.range n).map fun i : Nat => D.int (lo + i)) (fun _ => True) := by
  refine ⟨fun F H i d s _ _ e => ?_, fun F H s _ => ?_, fun _ _ _ _ => True.intro, by simpa using hl⟩
  · have hi : i < n := by
      have := (List.getElem?_eq_some_iff.mp e).1
      simpa using this
    rw [List.getElem?_map, List.getElem?_range hi] at e
    cases e
    refine ⟨hi, fun x H' q => ?_⟩
    obtain ⟨rfl, rfl⟩ := q
    exact ⟨F, Step.refl s, rfl⟩
  · show n ≤ _
    simp
theorem it_str {z : Str} (hl : z.cps.size ≤ sizeLine) : ItOk K mg (Its z) (z.cps.toList.map fun c => D.str ⟨#[c]⟩) (fun _ => True) := by
  refine ⟨fun F H i d s _ _ e => ?_, fun F H s _ => ?_, fun _ _ _ _ => True.intro, by simpa using hl⟩
  · rw [List.getElem?_map] at e
    cases q : z.cps.toList[i]? with
    | none => rw [q] at e; cases e
    | some c =>
      rw [q] at e; cases e
      have hi := (List.getElem?_eq_some_iff.mp q).1
      have hi' : i < z.cps.size := by simpa using hi
      refine ⟨hi', fun x H' y => ?_⟩
      obtain ⟨rfl, c', hc, rfl⟩ := y
      have q' : z.cps[i]? = some c := by simpa using q
      rw [q'] at hc; cases hc
      exact ⟨F, Step.refl s, rfl⟩
  · show z.cps.size ≤ _
    simp
theorem step_pair {F H : Hp} (s : Mono F H) {T : Addr} {x y : V} {d e : D} (h : H T = none) (r1 : Rep K mg F d x) (r2 : Rep K mg F e y) : ∃ F', Step F H F' (upd H T (.tup [x, y])) ∧ Rep K mg F' (.tup [d, e]) (.ref T) := by
  refine ⟨upd F T (.tup [x, y]), Step.tup' s h, T, [x, y], rfl, SqT.of upd_same, ?_⟩
  exact RepL.mono K mg (mono_upd (fresh_F s h)) _ _ (RepL.cons K mg r1 (RepL.one K mg r2))
theorem it_enum {a : Addr} {ds : List D} (hl : ds.length ≤ sizeLine) : ItOk K mg (Ite K a) (ds.zipIdx.map fun p => D.tup [.int (p.2 : Nat), p.1]) (fun F => ∃ xs, F a = some (.lst xs) ∧ RepL K mg F ds xs) := by
  refine ⟨fun F H i d s _ ⟨xs, h, r⟩ e => ?_, fun F H s ⟨xs, h, r⟩ => ⟨xs, SqL.of (s.lst h), by simp [r.len K mg]⟩, fun F F' m ⟨xs, h, r⟩ => ⟨xs, m.lst h, r.mono K mg m _ _⟩, by simpa using hl⟩
  rw [List.getElem?_map, List.getElem?_zipIdx] at e
  cases q : ds[i]? with
  | none => rw [q] at e; cases e
  | some d' =>
    rw [q] at e
    simp only [Option.map_some, Option.some.injEq] at e
    subst e
    obtain ⟨x, hx, rx⟩ := r.get K mg q
    refine ⟨⟨xs, x, SqL.of (s.lst h), hx⟩, fun y H' z => ?_⟩
    obtain ⟨T, x', rfl, hT, rfl, hxs⟩ := z
    have := hxs xs (SqL.of (s.lst h))
    rw [hx] at this; cases this
    have r0 : Rep K mg F (.int ((0 + i : Nat) : Int)) (V.int (i : Nat)) := by show V.int _ = V.int _; simp
    exact step_pair s hT r0 rx
theorem get_zip {α β : Type} : ∀ {l : List α} {m : List β} {i : Nat} {p : α × β}, (l.zip m)[i]? = some p → l[i]? = some p.1 ∧ m[i]? = some p.2
  | [], _, _, _, e => by simp at e
  | _ :: _, [], _, _, e => by simp at e
  | a :: l, b :: m, 0, p, e => by simp at e; subst e; exact ⟨rfl, rfl⟩
  | a :: l, b :: m, i + 1, p, e => by
    have := get_zip (l := l) (m := m) (i := i) (p := p) (by simpa using e)
    simpa using this
theorem it_zipT {a b : Addr} {ds es : List D} (hl : ds.length ≤ sizeLine) : ItOk K mg (RZ.ItzT K a b) ((ds.zip es).map fun p => D.tup [p.1, p.2]) (fun F => (∃ xs, SqT K F a xs ∧ RepL K mg F ds xs) ∧ ∃ ys, SqT K F b ys ∧ RepL K mg F es ys) := by
  refine ⟨fun F H i d s _ ⟨⟨xs, h, r⟩, ys, h', r'⟩ e => ?_, fun F H s ⟨⟨xs, h, r⟩, ys, h', r'⟩ => ?_, fun F F' m ⟨⟨xs, h, r⟩, ys, h', r'⟩ => ⟨⟨xs, m.sqT K h, r.mono K mg m _ _⟩, ys, m.sqT K h', r'.mono K mg m _ _⟩, by simp; omega⟩
  · rw [List.getElem?_map] at e
    cases q : (ds.zip es)[i]? with
    | none => rw [q] at e; cases e
    | some p =>
      rw [q] at e; cases e
      obtain ⟨q1, q2⟩ := get_zip q
      obtain ⟨x, hx, rx⟩ := r.get K mg q1
      obtain ⟨y, hy, ry⟩ := r'.get K mg q2
      refine ⟨⟨xs, ys, x, y, s.sqT K h, s.sqT K h', hx, hy⟩, fun v H' z => ?_⟩
      obtain ⟨T, x', y', rfl, hT, rfl, hxs, hys⟩ := z
      have e1 := hxs xs (s.sqT K h)
      have e2 := hys ys (s.sqT K h')
      rw [hx] at e1; cases e1
      rw [hy] at e2; cases e2
      exact step_pair s hT rx ry
  · refine ⟨xs, ys, s.sqT K h, s.sqT K h', ?_⟩
    have l1 := r.len K mg
    have l2 := r'.len K mg
    simp only [List.length_map, List.length_zip]
    omega
theorem it_zipL {a b : Addr} {ds es : List D} (hl : ds.length ≤ sizeLine) : ItOk K mg (Itz K a b) ((ds.zip es).map fun p => D.tup [p.1, p.2]) (fun F => (∃ xs, F a = some (.lst xs) ∧ RepL K mg F ds xs) ∧ ∃ ys, F b = some (.lst ys) ∧ RepL K mg F es ys) := by
  refine ⟨fun F H i d s _ ⟨⟨xs, h, r⟩, ys, h', r'⟩ e => ?_, fun F H s ⟨⟨xs, h, r⟩, ys, h', r'⟩ => ?_, fun F F' m ⟨⟨xs, h, r⟩, ys, h', r'⟩ => ⟨⟨xs, m.lst h, r.mono K mg m _ _⟩, ys, m.lst h', r'.mono K mg m _ _⟩, by simp; omega⟩
  · rw [List.getElem?_map] at e
    cases q : (ds.zip es)[i]? with
    | none => rw [q] at e; cases e
    | some p =>
      rw [q] at e; cases e
      obtain ⟨q1, q2⟩ := get_zip q
      obtain ⟨x, hx, rx⟩ := r.get K mg q1
      obtain ⟨y, hy, ry⟩ := r'.get K mg q2
      refine ⟨⟨xs, ys, x, y, SqL.of (s.lst h), SqL.of (s.lst h'), hx, hy⟩, fun v H' z => ?_⟩
      obtain ⟨T, x', y', rfl, hT, rfl, hxs, hys⟩ := z
      have e1 := hxs xs (SqL.of (s.lst h))
      have e2 := hys ys (SqL.of (s.lst h'))
      rw [hx] at e1; cases e1
      rw [hy] at e2; cases e2
      exact step_pair s hT rx ry
  · refine ⟨xs, ys, SqL.of (s.lst h), SqL.of (s.lst h'), ?_⟩
    have l1 := r.len K mg
    have l2 := r'.len K mg
    simp only [List.length_map, List.length_zip]
    omega
end
def PdI (X : Cx) (XE : XK) (tg iter : Expr) (w : WI) : Prop := ∃ t, PI X tg iter t ∧ ∀ (c : Cfg) (Qp : List D → Env → Prop) (Ep : Ex → Env → Prop) (R : It → Hp → Prop), Ok X.K X.mg c → w c.ρ Qp Ep → XOk X.K X.mg c Ep XE →
  (∀ J items P c', Go X.K X.mg c c' → c'.σ = c.σ → ItOk X.K X.mg J items P → P c'.F → Qp items c'.ρ → R J c'.H) → t c.σ c.H R
section
variable {X : Cx} {XE : XK}
theorem PI.or {tg iter : Expr} {a b : TI} (h1 : PI X tg iter a) (h2 : PI X tg iter b) : PI X tg iter (fun σ H R => a σ H R ∨ b σ H R) :=
  ⟨fun pins s σ H R I hw => by
    rcases hw with hw | hw
    · exact h1.run pins s σ H R I hw
    · exact h2.run pins s σ H R I hw⟩
/-- lists and tuples have a largest length -/
def LenH (H : Hp) : Prop := HLen H ∧ ∀ a o xs, H a = some (.frz o (.tup xs)) → xs.length ≤ sizeLine
theorem PI.len {tg iter : Expr} {a : TI} (h : PI X tg iter a) : PI X tg iter (fun σ H R => a σ H fun J H1 => LenH H1 → R J H1) :=
  ⟨fun pins s σ H R I hw => by
    refine thn (h.run pins s σ H _ I hw) fun v s1 q => thn q fun itv s2 ⟨it, fp, tn, J, H', e, I', T, t0, hf, q⟩ => ?_
    exact ⟨it, fp, tn, J, H', e, I', T, t0, hf, q ⟨hlen_of I'.hok, fun a o xs e => by
      have := I'.hok a _ e
      exact this.2.1⟩⟩⟩
/-- over a list, a tuple, a text -/
def iAny (K : PySem.W.Frag) (tl : TE) : TI := fun σ H R => tl σ H fun x H1 => (∃ a xs, x = .ref a ∧ SqL K H1 a xs ∧ (LenH H1 → R (Itl K a) H1)) ∨ (∃ a xs, x = .ref a ∧ SqT K H1 a xs ∧ (LenH H1 → R (Itt K a) H1)) ∨ ∃ z, x = .str z ∧ R (Its z) H1
theorem lenH_of {pins : List (Addr × Obj)} {σ : L2.St} {H : Hp} {s : Shared} (I : Inv X pins σ H s) : LenH H := ⟨hlen_of I.hok, fun a o xs e => (I.hok a _ e).2.1⟩
theorem pi_any {tg l : Expr} {tl : TE} (hl : PE X l tl) : PI X tg l (iAny X.K tl) := by
  refine ⟨fun pins s σ H R I h => ?_⟩
  refine thn (hl.run pins s σ H _ I h) fun v s1 ⟨x, H1, I1, r1, q1⟩ => ?_
  have LH := lenH_of I1
  rcases q1 with ⟨a, xs, e, hq, q⟩ | ⟨a, xs, e, hq, q⟩ | ⟨z, e, q⟩
  · subst e
    cases r1
    obtain ⟨its, rv, p, hz⟩ := I1.list hq
    refine wpAny_pyIter_list p.isList ?_
    refine ⟨s1.heap.objs.size, [s1.heap.objs.size], _, _, H1, rfl, I1.kept (t' := s1.toks) fun b o e => Heap.get?_push_of_some _ e, turn_list a _, ⟨_, Heap.get?_push_size _ rfl, rfl, rfl⟩, fun b hb => ?_, q LH⟩
    have e : b = s1.heap.objs.size := by simpa using hb
    subst e
    exact I1.fpOk (Nat.le_refl _) (I1.hok.fresh (Nat.le_refl _))
  · subst e
    cases r1
    obtain ⟨its, rv, p, hz⟩ := I1.tuple hq
    refine wpAny_pyIter_tuple (show s1.heap.IsTuple a its.toArray from p) ?_
    refine ⟨s1.heap.objs.size, [s1.heap.objs.size], _, _, H1, rfl, I1.kept (t' := s1.toks) fun b o e => Heap.get?_push_of_some _ e, turn_tuple a _, ⟨_, Heap.get?_push_size _ rfl, rfl, rfl⟩, fun b hb => ?_, q LH⟩
    have e : b = s1.heap.objs.size := by simpa using hb
    subst e
    exact I1.fpOk (Nat.le_refl _) (I1.hok.fresh (Nat.le_refl _))
  · subst e
    obtain ⟨t, rfl⟩ := r1
    cases ha : z.cps.all (· < 128)
    · exact wpAny_pyIter_wide ha (pi_one (tk := s1.toks) I1 _ (turn_str _ z t "str_iterator" (.inr rfl)) ⟨_, Heap.get?_push_size _ rfl, rfl, rfl⟩ q)
    · exact wpAny_pyIter_ascii ha (pi_one (tk := s1.toks) I1 _ (turn_str _ z t "str_ascii_iterator" (.inl rfl)) ⟨_, Heap.get?_push_size _ rfl, rfl, rfl⟩ q)
def wSrc (w : WE) : WI := fun ρ Q Ep => wK w ρ (fun d ρ' => match d with
  | .lst ds => Q ds ρ'
  | .tup ds => Q ds ρ'
  | .str z => z.cps.size ≤ sizeLine ∧ Q (z.cps.toList.map fun c => D.str ⟨#[c]⟩) ρ'
  | _ => False) Ep
theorem LenH.lst {H : Hp} (h : LenH H) {F : Hp} (s : Mono F H) {a : Addr} {xs : List V} {ds : List D} (e : F a = some (.lst xs)) (r : RepL X.K X.mg F ds xs) : ds.length ≤ sizeLine := by
  rw [r.len X.K X.mg]; exact h.1.1 a xs (s.lst e)
theorem LenH.tup {H : Hp} (h : LenH H) {F : Hp} (s : Mono F H) {a : Addr} {xs : List V} {ds : List D} (e : SqT X.K F a xs) (r : RepL X.K X.mg F ds xs) : ds.length ≤ sizeLine := by
  rw [r.len X.K X.mg]; exact len_sqT h.1 h.2 (s.sqT X.K e)
theorem pi_src {tg e : Expr} {w : WE} (h : PdE X XE e w) : PdI X XE tg e (wSrc w) := by
  obtain ⟨t, p, s⟩ := h
  refine ⟨_, pi_any p, fun c Qp Ep R ok hw x k => ?_⟩
  refine runK (e := e) s ok hw x fun v c1 d g1 e1 r1 h1 => ?_
  cases d with
  | lst ds =>
    obtain ⟨a, xs, rfl, ha, ra⟩ := r1
    exact .inl ⟨a, xs, rfl, SqL.of (g1.ok.sub.lst ha), fun L => k _ ds _ c1 g1 e1 (it_list (xs := xs) (L.lst g1.ok.sub ha ra)) ⟨xs, ha, ra⟩ h1⟩
  | tup ds =>
    obtain ⟨a, xs, rfl, ha, ra⟩ := r1
    exact .inr (.inl ⟨a, xs, rfl, g1.ok.sub.sqT X.K ha, fun L => k _ ds _ c1 g1 e1 (it_tup (L.tup g1.ok.sub ha ra)) ⟨xs, ha, ra⟩ h1⟩)
  | str z => exact .inr (.inr ⟨z, r1, k _ _ _ c1 g1 e1 (it_str h1.1) True.intro h1.2⟩)
  | _ => exact h1.elim
/-- range(n), range(a, b) -/
def rangeD (lo hi : Int) : List D := (List.range (hi - lo).toNat).map fun i : Nat => D.int (lo + i)
def wRng1 (w : WE) : WI := fun ρ Q Ep => wK w ρ (fun d ρ' => match d with
  | .int j => (-(2 ^ 62) ≤ j ∧ j < 2 ^ 62 ∧ j.toNat ≤ sizeLine) ∧ Q (rangeD 0 j) ρ'
  | _ => False) Ep
def wRng2 (w u : WE) : WI := fun ρ Q Ep => wK w ρ (fun d ρ1 => wK u ρ1 (fun e ρ2 => match d, e with
  | .int i, .int j => (-(2 ^ 62) ≤ i ∧ i < 2 ^ 62 ∧ -(2 ^ 62) ≤ j ∧ j < 2 ^ 62 ∧ (j - i).toNat ≤ sizeLine) ∧ Q (rangeD i j) ρ2
  | _, _ => False) Ep) Ep
theorem pi_rng1 {tg a : Expr} {w : WE} {p pos : Pos} (hg : Gl X "range") (hm : X.mg "range" = none) (h : PdE X XE a w) (hs : starEach [a] X.env = (false, eval a X.env) :: starEach [] X.env := by rfl) (hs' : starEach [a] X.env = [(false, eval a X.env)] := by rfl) :
    PdI X XE tg (.Call (.Name "range" p) [a] [] pos) (wRng1 w) := by
  obtain ⟨t, pa, s⟩ := h
  refine ⟨_, pi_range1 hg hm (pa_cons pa pa_nil hs) hs', fun c Qp Ep R ok hw x k => ?_⟩
  refine runK (e := a) s ok hw x fun v c1 d g1 e1 r1 h1 => ?_
  cases d with
  | int j =>
    rw [show v = V.int j from r1]
    refine ⟨j, rfl, h1.1.1, h1.1.2.1, k _ (rangeD 0 j) (fun _ => True) c1 g1 e1 ?_ True.intro h1.2⟩
    unfold rangeD
    rw [Int.sub_zero]
    exact it_range h1.1.2.2
  | _ => exact h1.elim
theorem pi_rng2 {tg a b : Expr} {w u : WE} {p pos : Pos} (hg : Gl X "range") (hm : X.mg "range" = none) (h : PdE X XE a w) (h' : PdE X XE b u) (hs0 : starEach [a, b] X.env = (false, eval a X.env) :: starEach [b] X.env := by rfl) (hs1 : starEach [b] X.env = (false, eval b X.env) :: starEach [] X.env := by rfl)
    (hs : starEach [a, b] X.env = [(false, eval a X.env), (false, eval b X.env)] := by rfl) (hs2 : starEach [b] X.env = [(false, eval b X.env)] := by rfl) :
    PdI X XE tg (.Call (.Name "range" p) [a, b] [] pos) (wRng2 w u) := by
  obtain ⟨t, pa, s⟩ := h
  obtain ⟨t', pa', s'⟩ := h'
  refine ⟨_, pi_range2 hg hm (pa_cons pa (pa_cons pa' pa_nil hs1) hs0) hs hs2, fun c Qp Ep R ok hw x k => ?_⟩
  refine runK (e := a) s ok hw x fun v c1 d g1 e1 r1 h1 => ?_
  rw [← e1]
  refine runK (e := b) s' g1.ok h1 (x.go X.K X.mg g1 e1) fun v' c2 d' g2 e2 r2 h2 => ?_
  cases d with
  | int i =>
    cases d' with
    | int j =>
      rw [show v = V.int i from r1, show v' = V.int j from r2]
      exact ⟨i, j, rfl, ⟨h2.1.1, h2.1.2.1, h2.1.2.2.1, h2.1.2.2.2.1⟩, k _ (rangeD i j) _ c2 (g1.trans X.K X.mg g2) (e2.trans e1) (it_range h2.1.2.2.2.2) True.intro h2.2⟩
    | _ => exact h2.elim
  | _ => cases d' <;> exact h2.elim
/-- zip(a, b) of two lists, of two tuples -/
def zipD (xs ys : List D) : List D := (xs.zip ys).map fun p => D.tup [p.1, p.2]
def wZip (w u : WE) : WI := fun ρ Q Ep => wK w ρ (fun d ρ1 => wK u ρ1 (fun e ρ2 => match d, e with
  | .lst xs, .lst ys => Q (zipD xs ys) ρ2
  | .tup xs, .tup ys => Q (zipD xs ys) ρ2
  | _, _ => False) Ep) Ep
theorem pi_zip2 {a b : Expr} {w u : WE} {p pos tpos : Pos} {elts : List Expr} {kk : Nat} (hg : Gl X "zip") (hm : X.mg "zip" = none) (h : PdE X XE a w) (h' : PdE X XE b u)
    (hs : starEach [a, b] X.env = (false, eval a X.env) :: starEach [b] X.env := by rfl) (hs1 : starEach [b] X.env = (false, eval b X.env) :: starEach [] X.env := by rfl) (hpl : (backTo pos (starEach [b] X.env)).any (·.1) = false := by rfl) :
    PdI X XE (.Tuple elts kk tpos) (.Call (.Name "zip" p) [a, b] [] pos) (wZip w u) := by
  obtain ⟨t, pa, s⟩ := h
  obtain ⟨t', pa', s'⟩ := h'
  refine ⟨_, PI.len (RZ.pi_zipA hg hm (pa_cons pa (pa_cons pa' pa_nil hs1) hs) hs hpl), fun c Qp Ep R ok hw x k => ?_⟩
  refine runK (e := a) s ok hw x fun v c1 d g1 e1 r1 h1 => ?_
  rw [← e1]
  refine runK (e := b) s' g1.ok h1 (x.go X.K X.mg g1 e1) fun v' c2 d' g2 e2 r2 h2 => ?_
  have g := g1.trans X.K X.mg g2
  have r1' := Rep.mono X.K X.mg g2.fr.mono _ _ r1
  cases d with
  | lst ds =>
    cases d' with
    | lst es =>
      obtain ⟨a', xs, rfl, ha, ra⟩ := r1'
      obtain ⟨b', ys, rfl, hb, rb⟩ := r2
      exact ⟨a', b', xs, ys, rfl, .inl ⟨SqL.of (g2.ok.sub.lst ha), SqL.of (g2.ok.sub.lst hb), fun L => k _ (zipD ds es) _ c2 g (e2.trans e1) (it_zipL (L.lst g2.ok.sub ha ra)) ⟨⟨xs, ha, ra⟩, ys, hb, rb⟩ h2⟩⟩
    | _ => exact h2.elim
  | tup ds =>
    cases d' with
    | tup es =>
      obtain ⟨a', xs, rfl, ha, ra⟩ := r1'
      obtain ⟨b', ys, rfl, hb, rb⟩ := r2
      exact ⟨a', b', xs, ys, rfl, .inr ⟨g2.ok.sub.sqT X.K ha, g2.ok.sub.sqT X.K hb, fun L => k _ (zipD ds es) _ c2 g (e2.trans e1) (it_zipT (L.tup g2.ok.sub ha ra)) ⟨⟨xs, ha, ra⟩, ys, hb, rb⟩ h2⟩⟩
    | _ => exact h2.elim
  | _ => cases d' <;> exact h2.elim
theorem pst_for {k : Nat} {tg iter : Expr} {body : List Stmt} {pos : Pos} {is_ : List Nat} {wi : WI} {wt : WG} {wb : WS} (C : Cc X XE k) (hi : PdI X XE tg iter wi) (hg : PdG X tg is_ wt) (hb : PdSs X XE body wb)
    (hs : ∀ x, foldedSetIterable iter X.env x = pure x := by intro _; rfl) : PdS X XE (.For tg iter body [] pos) (wFor wi wt wb) := by
  obtain ⟨ti, pi, si⟩ := hi
  obtain ⟨g, pg, sg⟩ := hg
  obtain ⟨tb, pb, sb⟩ := hb
  refine ⟨_, ps_for C.own C.calm pi pg pb hs, fun c Dp D ok hw P => ?_⟩
  refine si c _ Dp.ex _ ok hw (P.2.2.2.2.ex X.K X.mg) fun J items Pi c1 g1 e1 it p1 h1 => ?_
  rw [← e1]
  refine ⟨fun i m σ H => ∃ c', Go X.K X.mg c c' ∧ c'.σ = σ ∧ c'.H = H ∧ m = items.length - i ∧ i ≤ items.length ∧ Pi c'.F ∧ wForL wt wb (items.drop i) Dp c'.ρ, ⟨_, c1, g1, rfl, rfl, rfl, Nat.zero_le _, p1, h1⟩, ?_⟩
  rintro i m σ H ⟨c', g', rfl, rfl, rfl, hi, p', h'⟩
  by_cases hlt : i < items.length
  · have ed : items.drop i = items[i] :: items.drop (i + 1) := by rw [List.drop_eq_getElem_cons hlt]
    rw [ed] at h'
    have gi : items[i]? = some items[i] := by simp [hlt]
    obtain ⟨q1, q2⟩ := it.item c'.F c'.H i items[i] g'.ok.sub g'.ok.tf p' gi
    refine .inr ⟨q1, fun σ2 H2 => ∃ c2, Go X.K X.mg c c2 ∧ c2.σ = σ2 ∧ c2.H = H2 ∧ Pi c2.F ∧ wForL wt wb (items.drop (i + 1)) Dp c2.ρ, fun σ2 H2 ⟨c2, a1, a2, a3, a4, a5⟩ => ⟨items.length - (i + 1), by omega, c2, a1, a2, a3, rfl, hlt, a4, a5⟩, fun v H' y => ?_⟩
    obtain ⟨F', st, r⟩ := q2 v H' y
    have g2 := st.go g'.ok
    have gg := g'.trans X.K X.mg g2
    refine sg { c' with F := F', H := H' } items[i] v _ _ g2.ok r h' fun c3 g3 e3 _ h3 => ?_
    have gg3 := gg.trans X.K X.mg g3
    have p3 : Pi c3.F := it.mono _ _ (st.mono.trans e3) p'
    have keepP : ∀ c4, Go X.K X.mg c3 c4 → Pi c4.F := fun c4 g4 => it.mono _ _ g4.fr.mono p3
    refine sb c3 _ _ g3.ok h3 ⟨fun c4 g4 h4 => ⟨c4, gg3.trans X.K X.mg g4, rfl, rfl, keepP c4 g4, h4⟩, fun v' c4 r' g4 rr h4 => P.2.1 v' c4 r' (gg3.trans X.K X.mg g4) (rr.go gg3) h4, fun c4 g4 h4 => P.1 c4 (gg3.trans X.K X.mg g4) h4, fun c4 g4 h4 => ⟨c4, gg3.trans X.K X.mg g4, rfl, rfl, keepP c4 g4, h4⟩, P.2.2.2.2.go X.K X.mg gg3⟩
  · have e : i = items.length := by omega
    subst e
    rw [List.drop_length] at h'
    exact .inl ⟨it.stop c'.F c'.H g'.ok.sub p', P.1 c' g' h'⟩
theorem pst_while {k : Nat} {t : Expr} {body : List Stmt} {pos : Pos} {wt : WT} {wb : WS} (C : Cc X XE k) (ht : PdT X XE t wt) (hb : PdSs X XE body wb) : PdS X XE (.While t body [] pos) (wWhile wt wb) := by
  obtain ⟨tt, pt, st⟩ := ht
  obtain ⟨tb, pb, sb⟩ := hb
  refine ⟨_, ps_while C.own pt pb, fun c Dp D ok hw P => ?_⟩
  obtain ⟨n, hw⟩ := hw
  refine ⟨fun m σ H => ∃ c', Go X.K X.mg c c' ∧ c'.σ = σ ∧ c'.H = H ∧ wWhileN wt wb m Dp c'.ρ, ⟨n, c, Go.refl _ _ ok, rfl, rfl, hw⟩, ?_⟩
  rintro m σ H ⟨c', g', rfl, rfl, h'⟩
  cases m with
  | zero => exact h'.elim
  | succ m =>
    refine st c' _ Dp.ex _ g'.ok h' ((P.2.2.2.2.go X.K X.mg g').ex X.K X.mg) fun b c2 g2 e2 h2 => ?_
    have gg := g'.trans X.K X.mg g2
    cases b with
    | true =>
      rw [if_pos rfl] at h2 ⊢
      refine ⟨fun σ2 H2 => ∃ c3, Go X.K X.mg c c3 ∧ c3.σ = σ2 ∧ c3.H = H2 ∧ wWhileN wt wb m Dp c3.ρ, fun σ2 H2 h3 => ⟨m, Nat.lt_succ_self _, h3⟩, ?_⟩
      rw [← e2]
      exact sb c2 _ _ g2.ok h2 ⟨fun c4 g4 h4 => ⟨c4, gg.trans X.K X.mg g4, rfl, rfl, h4⟩, fun v' c4 r' g4 rr h4 => P.2.1 v' c4 r' (gg.trans X.K X.mg g4) (rr.go gg) h4, fun c4 g4 h4 => P.1 c4 (gg.trans X.K X.mg g4) h4, fun c4 g4 h4 => ⟨c4, gg.trans X.K X.mg g4, rfl, rfl, h4⟩, P.2.2.2.2.go X.K X.mg gg⟩
    | false =>
      rw [if_neg Bool.false_ne_true] at h2 ⊢
      rw [← e2]
      exact P.1 c2 gg h2
end
structure BI where
  s : Shared
  H : Hp
  C : Addr
  cl : List (Str × Addr)
  fp : List Addr
abbrev bx (X : Cx) (scope : Scope) (i : BI) : Cx := X.blk i.s i.H scope (compEnvC scope i.cl i.C X.env) i.fp
section
variable {X : Cx} {XE : XK} {scope : Scope}
theorem Cc.blk {k : Nat} (C : Cc X XE k) (i : BI) : Cc (bx X scope i) E0 k := ⟨C.calm, PassesOwn.never, passN, fun _ _ ⟨_, _, _, _, _, _, _, _, _, _, _, _, _, _, _, _, z⟩ => False.elim z, C.room⟩
theorem uniE {e : Expr} {w : WE} (h : ∀ i, PdE (bx X scope i) E0 e w) : ∃ t, (∀ i, PE (bx X scope i) e t) ∧ SoE X E0 t w :=
  ⟨fun σ H Q => ∀ i, Classical.choose (h i) σ H Q, fun i => ⟨fun pins s σ H Q I hq => (Classical.choose_spec (h i)).1.run pins s σ H Q I (hq i)⟩,
    fun c Qp Ep Q ok hw x k i => (Classical.choose_spec (h i)).2 c Qp Ep Q ok hw x k⟩
theorem uniG {e : Expr} {is_ : List Nat} {w : WG} (h : ∀ i, PdG (bx X scope i) e is_ w) : ∃ t, (∀ i, PG (bx X scope i) e t) ∧ ∀ (c : Cfg) (d : D) (v : V) (Qp : Env → Prop) (Q : L2.St → Hp → Prop), Ok X.K X.mg c → Rep X.K X.mg c.F d v → w d c.ρ Qp →
    (∀ c', Go X.K X.mg c c' → Mono c.F c'.F → (∀ vs, (∀ i ∈ is_, i ∈ vs) → wipe c'.σ vs = wipe c.σ vs) → Qp c'.ρ → Q c'.σ c'.H) → t v c.σ c.H Q :=
  ⟨fun v σ H Q => ∀ i, Classical.choose (h i) v σ H Q, fun i => ⟨fun pins s σ H v u Q I r hq => (Classical.choose_spec (h i)).1.run pins s σ H v u Q I r (hq i)⟩,
    fun c d v Qp Q ok r hw k i => (Classical.choose_spec (h i)).2 c d v Qp Q ok r hw k⟩
def PdTs (X : Cx) (XE : XK) (es : List Expr) (w : WT) : Prop := ∃ t, PTs X es t ∧ SoT X XE t w
def wYes : WT := fun ρ Q _ => Q true ρ
theorem pts_0 : PdTs X XE [] wYes := ⟨_, pts_nil, fun c Qp Ep Q ok hw x k => k true c (Go.refl _ _ ok) rfl hw⟩
theorem pts_1 {e : Expr} {w : WT} (h : PdT X XE e w) : PdTs X XE [e] w := by
  obtain ⟨t, p, s⟩ := h
  exact ⟨_, pts_one p, s⟩
theorem uniT {es : List Expr} {w : WT} (h : ∀ i, PdTs (bx X scope i) E0 es w) : ∃ t, (∀ i, PTs (bx X scope i) es t) ∧ SoT X E0 t w :=
  ⟨fun σ H Q => ∀ i, Classical.choose (h i) σ H Q, fun i => ⟨fun pins s σ H Q I hq => (Classical.choose_spec (h i)).1.run pins s σ H Q I (hq i)⟩,
    fun c Qp Ep Q ok hw x k i => (Classical.choose_spec (h i)).2 c Qp Ep Q ok hw x k⟩
end
def wipeE : Env → List Nat → Env
  | ρ, [] => ρ
  | ρ, v :: vs => (wipeE ρ vs).set v none
def restE (ρ ρ1 : Env) : List Nat → Env
  | [] => ρ
  | v :: vs => (restE ρ ρ1 vs).set v ((ρ1[v]?).getD none)
def okW (ρ : Env) (vs : List Nat) : Bool := vs.all fun i => match ρ[i]? with
  | some none => true
  | some (some (.val _)) => true
  | _ => false
def wLcL (wt : WG) (tt : WT) (we : WE) (vs : List Nat) : List D → List D → Env → (R → Env → Prop) → Prop
  | [], acc, ρ, Q => Q (.tmp (.lst acc)) ρ
  | d :: ds, acc, ρ, Q => wt d ρ fun ρ1 => tt ρ1 (fun b ρ2 => if b = true then wK we ρ2 (fun y ρ3 => wLcL wt tt we vs ds (acc ++ [y]) (wipeE ρ3 vs) Q) (fun _ _ => False) else wLcL wt tt we vs ds acc (wipeE ρ2 vs) Q) (fun _ _ => False)
def wLc (wi : WI) (wt : WG) (tt : WT) (we : WE) (vs : List Nat) : WE := fun ρ Q Ep => wi ρ (fun ds ρ1 => okW ρ1 vs = true ∧ wLcL wt tt we vs ds [] (wipeE ρ1 vs) fun r ρ' => Q r (restE ρ' ρ1 vs)) Ep
theorem wipeE_len (ρ : Env) : ∀ vs, (wipeE ρ vs).length = ρ.length
  | [] => rfl
  | v :: vs => by unfold wipeE; rw [List.length_set, wipeE_len ρ vs]
theorem wipeE_out {ρ : Env} {i : Nat} : ∀ {vs : List Nat}, i ∉ vs → (wipeE ρ vs)[i]? = ρ[i]?
  | [], _ => rfl
  | v :: vs, h => by
    simp only [List.mem_cons, not_or] at h
    unfold wipeE
    rw [List.getElem?_set_ne (fun z => h.1 z.symm), wipeE_out h.2]
theorem wipeE_in {ρ : Env} {i : Nat} {e : Ent} : ∀ {vs : List Nat}, i ∈ vs → (wipeE ρ vs)[i]? ≠ some (some e)
  | [], h => by cases h
  | v :: vs, h => by
    unfold wipeE
    intro z
    rcases set_get z with ⟨rfl, z'⟩ | ⟨hn, z'⟩
    · cases z'
    · rcases List.mem_cons.mp h with h | h
      · exact hn h
      · exact wipeE_in h z'
theorem wipe_out {σ : L2.St} {i : Nat} : ∀ {vs : List Nat}, i ∉ vs → (wipe σ vs)[i]? = σ[i]?
  | [], _ => rfl
  | v :: vs, h => by
    simp only [List.mem_cons, not_or] at h
    unfold wipe
    rw [List.getElem?_set_ne (fun z => h.1 z.symm), wipe_out h.2]
theorem restE_len (ρ ρ1 : Env) : ∀ vs, (restE ρ ρ1 vs).length = ρ.length
  | [] => rfl
  | v :: vs => by unfold restE; rw [List.length_set, restE_len ρ ρ1 vs]
theorem restE_out {ρ ρ1 : Env} {i : Nat} : ∀ {vs : List Nat}, i ∉ vs → (restE ρ ρ1 vs)[i]? = ρ[i]?
  | [], _ => rfl
  | v :: vs, h => by
    simp only [List.mem_cons, not_or] at h
    unfold restE
    rw [List.getElem?_set_ne (fun z => h.1 z.symm), restE_out h.2]
theorem restE_in {ρ ρ1 : Env} {i : Nat} {e : Ent} : ∀ {vs : List Nat}, i ∈ vs → (restE ρ ρ1 vs)[i]? = some (some e) → ρ1[i]? = some (some e)
  | [], h, _ => by cases h
  | v :: vs, h, z => by
    unfold restE at z
    rcases set_get z with ⟨rfl, z'⟩ | ⟨hn, z'⟩
    · cases q : ρ1[i]? with
      | none => rw [q] at z'; cases z'
      | some o => rw [q] at z'; rw [show o = some e from z'.symm]
    · rcases List.mem_cons.mp h with h | h
      · exact absurd h hn
      · exact restE_in h z'
theorem okW_of {ρ : Env} {vs : List Nat} {i : Nat} {e : Ent} (h : okW ρ vs = true) (hi : i ∈ vs) (he : ρ[i]? = some (some e)) : ∃ d, e = .val d := by
  have := List.all_eq_true.mp h i hi
  rw [he] at this
  cases e with
  | val d => exact ⟨d, rfl⟩
  | own b d => cases this
def fpW (fp : Nat → List Addr) (vs : List Nat) : Nat → List Addr := fun j => if j ∈ vs then [] else fp j
section
variable {K : PySem.W.Frag} {mg : Str → Option Value}
/-- the slots vs are forgotten, the others are as they were -/
theorem wipe_go {c0 c : Cfg} {vs : List Nat} {σ' : L2.St} (g : Go K mg c0 c) (h0 : ∀ i ∈ vs, ∀ d, c0.ρ[i]? ≠ some (some (.own true d))) (hl : σ'.length = c.σ.length) (hs : ∀ i, i ∉ vs → σ'[i]? = c.σ[i]?) :
    Go K mg c0 { c with σ := σ', ρ := wipeE c.ρ vs, fp := fpW c.fp vs } := by
  have hin : ∀ j, j ∈ vs → fpW c.fp vs j = [] := fun j hj => by unfold fpW; rw [if_pos hj]
  have hout : ∀ j, j ∉ vs → fpW c.fp vs j = c.fp j := fun j hj => by unfold fpW; rw [if_neg hj]
  have mem : ∀ j b, b ∈ fpW c.fp vs j → j ∉ vs ∧ b ∈ c.fp j := fun j b hb => by
    by_cases hj : j ∈ vs
    · rw [hin j hj] at hb; cases hb
    · rw [hout j hj] at hb; exact ⟨hj, hb⟩
  refine ⟨⟨g.ok.tabs, g.ok.sub, by rw [wipeE_len, hl]; exact g.ok.len, fun i e h => ?_, fun i h => ?_, fun i b hb => g.ok.out i b (mem i b hb).2, fun i j b h1 h2 => g.ok.disj i j b (mem i b h1).2 (mem j b h2).2, g.ok.tf⟩, g.fr, fun i b hb => g.orig i b (mem i b hb).2, fun i d h => ?_⟩
  · by_cases hi : i ∈ vs
    · exact absurd h (wipeE_in hi)
    · have h' : c.ρ[i]? = some (some e) := by rw [← wipeE_out (vs := vs) hi]; exact h
      obtain ⟨v, hv, eo⟩ := g.ok.slot i e h'
      refine ⟨v, by show σ'[i]? = _; rw [hs i hi]; exact hv, ?_⟩
      show EntOk K mg c.F c.H e v (fpW c.fp vs i)
      rw [hout i hi]; exact eo
  · show fpW c.fp vs i = []
    by_cases hi : i ∈ vs
    · exact hin i hi
    · rw [hout i hi]
      exact g.ok.non i fun e z => h e (by show (wipeE c.ρ vs)[i]? = _; rw [wipeE_out hi]; exact z)
  · have hi : i ∉ vs := fun z => h0 i z d h
    obtain ⟨d', h1, h2, h3⟩ := g.bor i d h
    exact ⟨d', by show (wipeE c.ρ vs)[i]? = _; rw [wipeE_out hi]; exact h1, by rw [show ({ c with σ := σ', ρ := wipeE c.ρ vs, fp := fpW c.fp vs } : Cfg).fp i = c.fp i from hout i hi]; exact h2, (hs i hi).trans h3⟩
/-- the new list at D, which nobody knows yet, is changed -/
theorem list_go {c0 c : Cfg} {A : Addr} {o : HO} (g : Go K mg c0 c) (h0 : c0.H A = none) (hF : c.F A = none) (hfp : ∀ i, A ∉ c.fp i) (hpl : ∀ u, c.H A = some u → Pl u) (hnt : ∀ xs, o ≠ .tup xs := by intro xs z; cases z) : Go K mg c0 { c with H := upd c.H A o } := by
  have ne : ∀ i b, b ∈ c.fp i → b ≠ A := fun i b hb z => by subst z; exact hfp i hb
  refine ⟨⟨tabs_upd g.ok.tabs hpl, sub_upd_r g.ok.sub hF, g.ok.len, fun i e h => ?_, g.ok.non, fun i b hb => ?_, g.ok.disj, fun a xs e => by
    by_cases z : a = A
    · subst z
      have e' : upd c.H a o a = some (.tup xs) := e
      rw [upd_same] at e'; exact absurd (Option.some.inj e') (hnt xs)
    · have e' : upd c.H A o a = some (.tup xs) := e
      rw [upd_ne z] at e'; exact g.ok.tf a xs e'⟩, ⟨g.fr.mono, fun a h1 h2 h3 h4 => ?_, fun a h => ?_⟩, g.orig, g.bor⟩
  · obtain ⟨v, hv, eo⟩ := g.ok.slot i e h
    exact ⟨v, hv, eo.frame (Mono.refl _) fun b hb => upd_ne (ne i b hb)⟩
  · obtain ⟨q1, q2⟩ := g.ok.out i b hb
    exact ⟨q1, by show upd c.H A o b ≠ none; rw [upd_ne (ne i b hb)]; exact q2⟩
  · obtain ⟨q1, q2⟩ := g.fr.keep a h1 h2 h3 h4
    have hne : a ≠ A := fun z => by subst z; exact h2 h0
    exact ⟨q1, by show upd c.H A o a = _; rw [upd_ne hne]; exact q2⟩
  · show upd c.H A o a ≠ none
    have hne : a ≠ A := fun z => by subst z; exact h h0
    rw [upd_ne hne]; exact g.fr.grow a h
/-- the slots vs are as they were ahead -/
theorem rest_go {c c1 ce : Cfg} {vs : List Nat} (gc : Go K mg c c1) (g : Go K mg c1 ce) (ow : okW c1.ρ vs = true) (e1 : c1.σ = c.σ) (hn : ∀ i ∈ vs, ∀ e, ce.ρ[i]? ≠ some (some e)) (hl : c1.σ.length = ce.σ.length) (hs : ∀ i, i ∉ vs → c1.σ[i]? = ce.σ[i]?) :
    Go K mg c { ce with σ := c1.σ, ρ := restE ce.ρ c1.ρ vs } := by
  have gg := gc.trans K mg g
  refine ⟨⟨g.ok.tabs, g.ok.sub, by rw [restE_len, hl]; exact g.ok.len, fun i e h => ?_, fun i h => ?_, g.ok.out, g.ok.disj, g.ok.tf⟩, gg.fr, gg.orig, fun i d h => ?_⟩
  · by_cases hi : i ∈ vs
    · have h' := restE_in hi h
      obtain ⟨d, rfl⟩ := okW_of ow hi h'
      obtain ⟨v, hv, r, _⟩ := gc.ok.val h'
      exact ⟨v, hv, r.mono K mg g.fr.mono _ _, g.ok.non i (hn i hi)⟩
    · have h' : ce.ρ[i]? = some (some e) := by rw [← restE_out (vs := vs) hi]; exact h
      obtain ⟨v, hv, eo⟩ := g.ok.slot i e h'
      exact ⟨v, by show c1.σ[i]? = _; rw [hs i hi]; exact hv, eo⟩
  · by_cases hi : i ∈ vs
    · exact g.ok.non i (hn i hi)
    · exact g.ok.non i fun e z => h e (by show (restE ce.ρ c1.ρ vs)[i]? = _; rw [restE_out hi]; exact z)
  · obtain ⟨d1, h1, f1, s1⟩ := gc.bor i d h
    have hi : i ∉ vs := fun z => by
      obtain ⟨d', e⟩ := okW_of ow z h1
      cases e
    obtain ⟨d2, h2, f2, s2⟩ := g.bor i d1 h1
    exact ⟨d2, by show (restE ce.ρ c1.ρ vs)[i]? = _; rw [restE_out hi]; exact h2, f1.trans f2 fun x h => gc.fr.grow x h, by show c1.σ[i]? = _; rw [e1]⟩
end
section
variable {X : Cx} {XE : XK}
theorem lc_so {k : Nat} {elt : Expr} {own : List (Str × Nat)} {is_ : List Nat} {ti : TI} {g : TG} {t : TT} {te : TE} {wi : WI} {wt : WG} {tt : WT} {we : WE} (C : Cc X XE k)
    (si : ∀ (c : Cfg) (Qp : List D → Env → Prop) (Ep : Ex → Env → Prop) (R : It → Hp → Prop), Ok X.K X.mg c → wi c.ρ Qp Ep → XOk X.K X.mg c Ep XE →
      (∀ J items P c', Go X.K X.mg c c' → c'.σ = c.σ → ItOk X.K X.mg J items P → P c'.F → Qp items c'.ρ → R J c'.H) → ti c.σ c.H R)
    (sg : ∀ (c : Cfg) (d : D) (v : V) (Qp : Env → Prop) (Q : L2.St → Hp → Prop), Ok X.K X.mg c → Rep X.K X.mg c.F d v → wt d c.ρ Qp →
      (∀ c', Go X.K X.mg c c' → Mono c.F c'.F → (∀ vs, (∀ i ∈ is_, i ∈ vs) → wipe c'.σ vs = wipe c.σ vs) → Qp c'.ρ → Q c'.σ c'.H) → g v c.σ c.H Q)
    (st : SoT X E0 t tt) (se : SoE X E0 te we) (hv : ∀ i ∈ is_, i ∈ own.map (·.2)) : SoE X XE (tLc ti g t te (own.map (·.2))) (wLc wi wt tt we (own.map (·.2))) := by
  intro c Qp Ep Q okc hw x k
  generalize hvs : own.map (·.2) = vs at hv hw
  refine si c _ Ep _ okc hw x fun J items Pi c1 g1 e1 it p1 h1 => ?_
  obtain ⟨ow, h1⟩ := h1
  intro A hA
  have fA : c1.F A = none := fresh_F g1.ok.sub hA
  have nfp : ∀ i, A ∉ c1.fp i := fun i z => (g1.ok.out i A z).2 hA
  have g0 : Go X.K X.mg c1 { c1 with H := upd c1.H A (.lst []) } := list_go (Go.refl _ _ g1.ok) hA fA nfp (pl_none hA)
  have nbor : ∀ i ∈ vs, ∀ d, c1.ρ[i]? ≠ some (some (.own true d)) := fun i hi d z => by
    obtain ⟨d', e⟩ := okW_of ow hi z
    cases e
  have gw : Go X.K X.mg c1 { c1 with H := upd c1.H A (.lst []), σ := wipe c.σ vs, ρ := wipeE c1.ρ vs, fp := fpW c1.fp vs } :=
    wipe_go g0 nbor (by rw [wipe_length]; exact congrArg _ e1.symm) fun i hi => by rw [wipe_out hi]; exact congrArg (fun l : L2.St => l[i]?) e1.symm
  refine ⟨fun i m H => ∃ c' acc xs, Go X.K X.mg c1 c' ∧ c'.σ = wipe c.σ vs ∧ c'.H = H ∧ m = items.length - i ∧ i ≤ items.length ∧ Pi c'.F ∧ (∀ j ∈ vs, ∀ e, c'.ρ[j]? ≠ some (some e)) ∧ H A = some (.lst xs) ∧ RepL X.K X.mg c'.F acc xs ∧ c'.F A = none ∧ (∀ j, A ∉ c'.fp j) ∧ xs.length ≤ i ∧
    wLcL wt tt we vs (items.drop i) acc c'.ρ fun r ρ' => Qp r (restE ρ' c1.ρ vs),
    ⟨_, _, [], [], gw, rfl, rfl, rfl, Nat.zero_le _, p1, fun j hj e => wipeE_in hj, upd_same, rfl, fA, fun j z => ?_, Nat.le_refl _, h1⟩, ?_⟩
  · have z' : A ∈ fpW c1.fp vs j := z
    unfold fpW at z'
    split at z'
    · cases z'
    · exact nfp j z'
  rintro i m H ⟨c', acc, xs, g', es, rfl, rfl, hi, p', hn', hA', ra, fA', nf', hx', h'⟩
  by_cases hlt : i < items.length
  · have ed : items.drop i = items[i] :: items.drop (i + 1) := by rw [List.drop_eq_getElem_cons hlt]
    rw [ed] at h'
    have gi : items[i]? = some items[i] := by simp [hlt]
    obtain ⟨q1, q2⟩ := it.item c'.F c'.H i items[i] g'.ok.sub g'.ok.tf p' gi
    refine .inr ⟨q1, fun H2 => ∃ c2 acc2 xs2, Go X.K X.mg c1 c2 ∧ c2.σ = wipe c.σ vs ∧ c2.H = H2 ∧ Pi c2.F ∧ (∀ j ∈ vs, ∀ e, c2.ρ[j]? ≠ some (some e)) ∧ H2 A = some (.lst xs2) ∧ RepL X.K X.mg c2.F acc2 xs2 ∧ c2.F A = none ∧ (∀ j, A ∉ c2.fp j) ∧ xs2.length ≤ i + 1 ∧
      wLcL wt tt we vs (items.drop (i + 1)) acc2 c2.ρ fun r ρ' => Qp r (restE ρ' c1.ρ vs), fun H2 ⟨c2, a2, x2, b1, b2, b3, b4, b5, b6, b7, b8, b9, b10, b11⟩ => ⟨items.length - (i + 1), by omega, c2, a2, x2, b1, b2, b3, rfl, hlt, b4, b5, b6, b7, b8, b9, b10, b11⟩, fun v H' y => ?_⟩
    obtain ⟨F', stp, r⟩ := q2 v H' y
    have g2 := stp.go g'.ok
    have gg := g'.trans X.K X.mg g2
    have ew : wipe (wipe c.σ vs) vs = wipe c.σ vs := by
      have aux : ∀ (l : List Nat) (σ : L2.St), (∀ j ∈ l, ∀ y, σ[j]? ≠ some (some y)) → wipe σ l = σ := by
        intro l
        induction l with
        | nil => intro σ _; rfl
        | cons a l ih =>
          intro σ h
          unfold wipe
          rw [ih σ fun j hj => h j (List.mem_cons_of_mem _ hj)]
          apply List.ext_getElem?
          intro j
          by_cases hj : a = j
          · subst hj
            by_cases hl : a < σ.length
            · rw [List.getElem?_set_self hl]
              have e1 : σ[a]? = some σ[a] := by simp [hl]
              cases q : σ[a] with
              | none => rw [e1, q]
              | some y => exact absurd (e1.trans (congrArg some q)) (h a List.mem_cons_self y)
            · rw [List.getElem?_eq_none (by simpa using hl), List.getElem?_eq_none (by omega)]
          · rw [List.getElem?_set_ne hj]
      exact aux vs _ fun j hj y z => (wipe_some z).2 hj
    rw [← es]
    refine sg { c' with F := F', H := H' } items[i] v _ _ g2.ok r h' fun c3 g3 e3 w3 h3 => ?_
    have gg3 := gg.trans X.K X.mg g3
    have w3' : wipe c3.σ vs = wipe c.σ vs := (w3 vs hv).trans (by show wipe c'.σ vs = _; rw [es, ew])
    refine ⟨by rw [w3', es], ?_⟩
    refine st c3 _ _ _ g3.ok h3 (XOk.none X.K X.mg) fun b c4 g4 e4 h4 => ?_
    have gg4 := gg3.trans X.K X.mg g4
    -- what stands at A still stands
    have stay : ∀ c5, Go X.K X.mg { c' with F := F', H := H' } c5 → c5.F A = none ∧ c5.H A = some (.lst xs) ∧ ∀ j, A ∉ c5.fp j := fun c5 g5 => by
      have g6 := g2.trans X.K X.mg g5
      obtain ⟨k1, k2⟩ := g6.fr.keep A fA' (by rw [hA']; simp) nf' (nt_of hA' True.intro)
      refine ⟨k1, k2.trans hA', fun j z => ?_⟩
      rcases g6.orig j A z with ⟨j', hj⟩ | e
      · exact nf' j' hj
      · rw [hA'] at e; cases e
    have keepP : ∀ c5, Go X.K X.mg { c' with F := F', H := H' } c5 → Pi c5.F := fun c5 g5 => it.mono _ _ g5.fr.mono (it.mono _ _ stp.mono p')
    have hlen : ∀ c5, Go X.K X.mg c1 c5 → c5.σ.length = (wipe c.σ vs).length → True := fun _ _ _ => True.intro
    cases b with
    | true =>
      rw [if_pos rfl] at h4 ⊢
      rw [← e4]
      refine runK (e := elt) se g4.ok h4 (XOk.none X.K X.mg) fun v5 c5 d5 g5 e5 r5 h5 => ?_
      have gx := (g3.trans X.K X.mg g4).trans X.K X.mg g5
      have gg5 := gg4.trans X.K X.mg g5
      obtain ⟨s1, s2, s3⟩ := stay c5 gx
      refine ⟨xs, s2, Nat.lt_of_lt_of_le (Nat.lt_of_le_of_lt hx' hlt) it.len, ?_⟩
      have eσ : c5.σ = c3.σ := e5.trans e4
      have gl : Go X.K X.mg c1 { c5 with H := upd c5.H A (.lst (xs ++ [v5])) } := list_go gg5 hA s1 s3 (pl_some s2 True.intro)
      have w5 : wipe c5.σ vs = wipe c.σ vs := by rw [eσ, w3']
      have gw5 : Go X.K X.mg c1 { c5 with H := upd c5.H A (.lst (xs ++ [v5])), σ := wipe c.σ vs, ρ := wipeE c5.ρ vs, fp := fpW c5.fp vs } :=
        wipe_go gl nbor (by rw [← w5, wipe_length]) fun j hj => by rw [← w5, wipe_out hj]
      refine ⟨_, acc ++ [d5], xs ++ [v5], gw5, es.symm, rfl, keepP c5 gx, fun j hj e => wipeE_in hj, upd_same, ?_, s1, fun j z => ?_, by simp; omega, h5⟩
      · exact RepL.app X.K X.mg (ra.mono X.K X.mg (stp.mono.trans gx.fr.mono) _ _) (RepL.one X.K X.mg r5)
      · have z' : A ∈ fpW c5.fp vs j := z
        unfold fpW at z'
        split at z'
        · cases z'
        · exact s3 j z'
    | false =>
      rw [if_neg Bool.false_ne_true] at h4 ⊢
      have gx := g3.trans X.K X.mg g4
      obtain ⟨s1, s2, s3⟩ := stay c4 gx
      have w5 : wipe c4.σ vs = wipe c.σ vs := by rw [e4, w3']
      have gw5 : Go X.K X.mg c1 { c4 with σ := wipe c.σ vs, ρ := wipeE c4.ρ vs, fp := fpW c4.fp vs } :=
        wipe_go gg4 nbor (by rw [← w5, wipe_length]) fun j hj => by rw [← w5, wipe_out hj]
      refine ⟨_, acc, xs, gw5, es.symm, rfl, keepP c4 gx, fun j hj e => wipeE_in hj, s2, ra.mono X.K X.mg (stp.mono.trans gx.fr.mono) _ _, s1, fun j z => ?_, by omega, h4⟩
      have z' : A ∈ fpW c4.fp vs j := z
      unfold fpW at z'
      split at z'
      · cases z'
      · exact s3 j z'
  · have e : i = items.length := by omega
    subst e
    rw [List.drop_length] at h'
    refine .inl ⟨it.stop c'.F c'.H g'.ok.sub p', ?_⟩
    have ls : c1.σ.length = c'.σ.length := by rw [es, wipe_length, e1]
    have gr := rest_go g1 g' ow e1 hn' ls fun j hj => by rw [es, wipe_out hj, e1]
    refine k _ { c' with σ := c1.σ, ρ := restE c'.ρ c1.ρ vs } (.tmp (.lst acc)) gr e1 ⟨[A], ⟨A, xs, rfl, rfl, hA', ra⟩, fun b hb => ?_⟩ h'
    have eb : b = A := by simpa using hb
    subst eb
    refine ⟨fA', by show c'.H b ≠ none; rw [hA']; simp, ?_, nf'⟩
    cases q : c.H b with
    | none => rfl
    | some o => exact absurd hA (g1.fr.grow b (by rw [q]; simp))
theorem pd_lc {k : Nat} {elt tg iter : Expr} {ifs : List Expr} {scope : Scope} {own : List (Str × Nat)} {pos : Pos} {is_ : List Nat} {wi : WI} {wt : WG} {tt : WT} {we : WE} (C : Cc X XE k) (hN : X.N.Nodup) (hi : PdI X XE tg iter wi) (ok : BlkOk X.N X.env.scope scope own)
    (hg : ∀ i, PdG (bx X scope i) tg is_ wt) (ht : ∀ i, PdTs (bx X scope i) E0 ifs tt) (he : ∀ i, PdE (bx X scope i) E0 elt we) (hv : ∀ i ∈ is_, i ∈ own.map (·.2) := by decide) (hs : ∀ x, foldedSetIterable iter X.env x = pure x := by intro _; rfl) :
    PdE X XE (.ListComp elt [⟨tg, iter, ifs, 0⟩] scope pos) (wLc wi wt tt we (own.map (·.2))) := by
  obtain ⟨ti, pi, si⟩ := hi
  obtain ⟨g, pg, sg⟩ := uniG hg
  obtain ⟨t, pt, st⟩ := uniT ht
  obtain ⟨te, pe, se⟩ := uniE he
  exact ⟨_, pe_lc C.calm hN pi ok (fun s H C cl fp => pg ⟨s, H, C, cl, fp⟩) (fun s H C cl fp => pt ⟨s, H, C, cl, fp⟩) (fun s H C cl fp => pe ⟨s, H, C, cl, fp⟩) hs, lc_so (elt := elt) C si sg st se hv⟩
/-- x = [e for ..] -/
theorem pst_setLc {k i : Nat} {y : Str} {py : Pos} {elt tg iter : Expr} {ifs : List Expr} {scope : Scope} {own : List (Str × Nat)} {pos spos : Pos} {is_ : List Nat} {wi : WI} {wt : WG} {tt : WT} {we : WE} (C : Cc X XE k) (hN : X.N.Nodup) (hi : PdI X XE tg iter wi) (ok : BlkOk X.N X.env.scope scope own)
    (hg : ∀ i, PdG (bx X scope i) tg is_ wt) (ht : ∀ i, PdTs (bx X scope i) E0 ifs tt) (he : ∀ i, PdE (bx X scope i) E0 elt we)
    (hsw : swapsWith (.ListComp elt [⟨tg, iter, ifs, 0⟩] scope pos) (some (.Name y py)) spos.line X.env = pure true)
    (hy : X.N[i]? = some y := by rfl) (hyl : X.env.scope.names.lookup y = some .local := by rfl) (hv : ∀ i ∈ is_, i ∈ own.map (·.2) := by decide) (hs : ∀ x, foldedSetIterable iter X.env x = pure x := by intro _; rfl) :
    PdS X XE (.Assign [.Name y py] (.ListComp elt [⟨tg, iter, ifs, 0⟩] scope pos) spos) (wSet i (wLc wi wt tt we (own.map (·.2)))) := by
  obtain ⟨ti, pi, si⟩ := hi
  obtain ⟨g, pg, sg⟩ := uniG hg
  obtain ⟨t, pt, st⟩ := uniT ht
  obtain ⟨te, pe, se⟩ := uniE he
  exact ⟨_, ps_setLc C.calm hN hy hyl hsw pi ok (fun s H C cl fp => pg ⟨s, H, C, cl, fp⟩) (fun s H C cl fp => pt ⟨s, H, C, cl, fp⟩) (fun s H C cl fp => pe ⟨s, H, C, cl, fp⟩) hs, fun c Dp D okc hw P => set_run (lc_so (elt := elt) C si sg st se hv) okc hw P⟩
end
end PL
namespace PL
open PySem PySem.Spec PyProof.Rows L2
variable [HasT]
/-- what a def does, over pure data: arguments (frozen, or lent), what is handed back with the arguments as they are then, what is raised -/
abbrev FS := List Ent → (R → List Ent → Prop) → (Ex → List Ent → Prop) → Prop
section
variable (K : PySem.W.Frag) (mg : Str → Option Value)
/-- what is handed back; fp what the lent arguments own then -/
def RF (H F' H' : Hp) (fp : Nat → List Addr) : R → V → Prop
  | .val d, v => Rep K mg F' d v
  | .tmp d, v => ∃ ft, Own K mg F' H' d v ft ∧ ∀ b ∈ ft, F' b = none ∧ H' b ≠ none ∧ H b = none ∧ ∀ i, b ∉ fp i
  | .slot _, _ => False
/-- the arguments behind the call -/
structure CArgs (c : Cfg) (F' H' : Hp) (args args' : List Ent) (fp : Nat → List Addr) : Prop where
  len : args'.length = args.length
  own : ∀ i d, args[i]? = some (.own true d) → ∃ d' v, args'[i]? = some (.own true d') ∧ c.σ[i]? = some (some v) ∧ Own K mg F' H' d' v (fp i) ∧ (∀ b ∈ fp i, F' b = none ∧ H' b ≠ none) ∧ Grw (c.fp i) (fp i) c.H
  disj : ∀ i j b, b ∈ fp i → b ∈ fp j → i = j
def spOf (fs : FS) (n : Nat) : Sp := fun vs H Q E => ∃ (c : Cfg) (args : List Ent) (Qp : R → List Ent → Prop) (Ep : Ex → List Ent → Prop), Ok K mg c ∧ c.H = H ∧ c.σ = vs.map some ∧ c.ρ = args.map some ∧ args.length = n ∧ (∀ e ∈ args, ∀ d, e ≠ .own false d) ∧
  fs args Qp Ep ∧ (∀ x cls d F' H' args' fp, Frm c.fp c.F c.H F' H' → Mono F' H' → TupF F' H' → LamX.Tabs HasT.T H' → CArgs K mg c F' H' args args' fp → ExOk K mg F' H' x cls d → XNew c.H F' fp d → Ep x args' → E cls d H') ∧ ∀ v F' H' r args' fp, Frm c.fp c.F c.H F' H' → Mono F' H' → TupF F' H' → LamX.Tabs HasT.T H' → CArgs K mg c F' H' args args' fp → RF K mg c.H F' H' fp r v → Qp r args' → Q v H'
end
def outA : List Ent → Env → List Ent
  | [], _ => []
  | .val d :: r, ρ => .val d :: outA r ρ.tail
  | .own b d :: r, ρ => (match ρ with
    | some e :: _ => e
    | _ => .own b d) :: outA r ρ.tail
theorem outA_len : ∀ (args : List Ent) (ρ : Env), (outA args ρ).length = args.length
  | [], _ => rfl
  | .val d :: r, ρ => by simp [outA, outA_len r]
  | .own b d :: r, ρ => by simp [outA, outA_len r]
theorem outA_own : ∀ (args : List Ent) (ρ : Env) (i : Nat) (b : Bool) (d : D) (e : Ent), args[i]? = some (.own b d) → ρ[i]? = some (some e) → (outA args ρ)[i]? = some e
  | [], _, _, _, _, _, h, _ => by simp at h
  | .val d :: r, ρ, 0, b, d', e, h, _ => by simp at h
  | .own b d :: r, ρ, 0, b', d', e, h, h' => by
    cases ρ with
    | nil => simp at h'
    | cons x ρ => simp at h'; subst h'; rfl
  | .val d :: r, ρ, i + 1, b, d', e, h, h' => by
    cases ρ with
    | nil => simp at h'
    | cons x ρ => exact outA_own r ρ i b d' e (by simpa using h) (by simpa using h')
  | .own b d :: r, ρ, i + 1, b', d', e, h, h' => by
    cases ρ with
    | nil => simp at h'
    | cons x ρ => exact outA_own r ρ i b' d' e (by simpa using h) (by simpa using h')
def envOf (args : List Ent) (m : Nat) : Env := args.map some ++ List.replicate (m - args.length) none
section
variable {P : Program} {w : World} {K : PySem.W.Frag} {mg : Str → Option Value} {base : Heap}
/-- a body over pure data keeps the def's promise -/
theorem fn_core {X : Cx} {E : XK} {N ps : List Str} {ws : WS} {fs : FS} {t : TS} (so : ∀ (c : Cfg) (Dp : PEnds) (De : Ends), Ok X.K X.mg c → ws Dp c.ρ → POk X.K X.mg c Dp De E → t De c.σ c.H)
    (spec : ∀ args Qp Ep, fs args Qp Ep → args.length = ps.length ∧ ws { nx := fun ρ => Qp (.val .non) (outA args ρ), rt := fun r ρ => Qp r (outA args ρ), ex := fun x ρ => Ep x (outA args ρ) } (envOf args N.length))
    {vs : List V} {H : Hp} {Q : VK} (h : spOf X.K X.mg fs ps.length vs H Q E) : t { nx := fun _ H' => Q .non H', rt := Q } (L2.start N vs) H := by
    obtain ⟨c, args, Qp, Ep, ok, rfl, h1, h2, h3, h4, h5, h6, h7⟩ := h
    obtain ⟨l1, l2⟩ := spec args Qp Ep h5
    have lv : vs.length = args.length := by
      have := ok.len
      rw [h1, h2] at this
      simpa using this.symm
    let c0 : Cfg := { c with σ := L2.start N vs, ρ := envOf args N.length }
    have pre1 : ∀ (i : Nat) (e : Ent), c0.ρ[i]? = some (some e) → c.ρ[i]? = some (some e) := fun i e q => by
      have q' : (envOf args N.length)[i]? = some (some e) := q
      unfold envOf at q'
      by_cases hi : i < args.length
      · rw [List.getElem?_append_left (by simpa using hi)] at q'
        rw [h2]; exact q'
      · rw [List.getElem?_append_right (by simpa using hi), List.getElem?_replicate] at q'
        split at q' <;> cases q'
    have pre2 : ∀ (i : Nat) (e : Ent), c.ρ[i]? = some (some e) → c0.ρ[i]? = some (some e) := fun i e q => by
      show (envOf args N.length)[i]? = _
      unfold envOf
      rw [h2] at q
      have hi : i < (args.map some).length := (List.getElem?_eq_some_iff.mp q).1
      rw [List.getElem?_append_left hi]; exact q
    have preσ : ∀ i : Nat, i < args.length → c0.σ[i]? = c.σ[i]? := fun i hi => by
      show (L2.start N vs)[i]? = _
      unfold L2.start
      rw [h1, List.getElem?_append_left (by simp; omega)]
    have ilt : ∀ (i : Nat) (e : Ent), c.ρ[i]? = some (some e) → i < args.length := fun i e q => by
      rw [h2] at q
      have := (List.getElem?_eq_some_iff.mp q).1
      simpa using this
    have ok0 : Ok X.K X.mg c0 := by
      refine ⟨ok.tabs, ok.sub, ?_, fun i e q => ?_, fun i q => ok.non i fun e z => q e (pre2 i e z), ok.out, ok.disj, ok.tf⟩
      · show (envOf args N.length).length = (L2.start N vs).length
        unfold envOf L2.start
        simp [lv]
      · obtain ⟨v, hv, eo⟩ := ok.slot i e (pre1 i e q)
        exact ⟨v, by rw [preσ i (ilt i e (pre1 i e q))]; exact hv, eo⟩
    have cargs : ∀ c', Go X.K X.mg c0 c' → CArgs X.K X.mg c c'.F c'.H args (outA args c'.ρ) c'.fp := fun c' g => by
      refine ⟨outA_len _ _, fun i d hd => ?_, g.ok.disj⟩
      have hρ : c.ρ[i]? = some (some (.own true d)) := by rw [h2, List.getElem?_map, hd]; rfl
      obtain ⟨d', e1, e2, e3⟩ := g.bor i d (pre2 i _ hρ)
      obtain ⟨v', hv', o⟩ := g.ok.own e1
      refine ⟨d', v', outA_own args c'.ρ i true d _ hd e1, ?_, o, fun b hb => g.ok.out i b hb, e2⟩
      rw [← preσ i (ilt i _ hρ), ← e3]; exact hv'
    have fin : ∀ v c' r, Go X.K X.mg c0 c' → RT X.K X.mg c0 c' r v → Qp r (outA args c'.ρ) → Q v c'.H := fun v c' r g rr q => by
      refine h7 v c'.F c'.H r (outA args c'.ρ) c'.fp g.fr g.ok.sub g.ok.tf g.ok.tabs (cargs c' g) ?_ q
      · cases r with
        | val d => exact rr
        | slot i => exact rr.elim
        | tmp d =>
          obtain ⟨ft, o, hf⟩ := rr
          refine ⟨ft, o, fun b hb => ?_⟩
          obtain ⟨k1, k2, k3, k4⟩ := hf b hb
          refine ⟨k1, k2, ?_, k4⟩
          rcases k3 with ⟨j, hj⟩ | e
          · exfalso
            have : ∃ e, c.ρ[j]? = some (some e) := Classical.byContradiction fun z => by
              have := ok.non j fun e q => z ⟨e, q⟩
              rw [show c0.fp j = c.fp j from rfl, this] at hj; cases hj
            obtain ⟨e, he⟩ := this
            cases e with
            | val d' =>
              obtain ⟨_, _, _, hz⟩ := ok.val he
              rw [show c0.fp j = c.fp j from rfl, hz] at hj; cases hj
            | own bb d' =>
              cases bb with
              | false =>
                have hm : Ent.own false d' ∈ args := by
                  rw [h2] at he
                  rw [List.getElem?_map] at he
                  cases q : args[j]? with
                  | none => rw [q] at he; cases he
                  | some a => rw [q] at he; cases he; exact List.mem_of_getElem? q
                exact h4 _ hm d' rfl
              | true =>
                obtain ⟨d2, _, e2, _⟩ := g.bor j d' (pre2 j _ he)
                exact k4 j (e2.1 b hj)
          · exact e
    refine so c0 _ _ ok0 l2 ⟨fun c' g q => fin .non c' (.val .non) g rfl q, fin, fun _ _ q => q.elim, fun _ _ q => q.elim, fun x cls d c' g o n q => h6 x cls d c'.F c'.H (outA args c'.ρ) c'.fp g.fr g.ok.sub g.ok.tf g.ok.tabs (cargs c' g) o n q⟩
/-- a def keeps its promise, by its body over pure data -/
theorem fn_pdC {x qual : Str} {prm : Arguments} {st : Stmt} {dvs0 : List V} {kws0 : List (Str × V)} {f : Addr} {fd : FuncData} {N ps : List Str} {k : Nat} {ws : WS} {fs : FS} (F : FunD K x qual prm (defBody st) (defScope st) dvs0 kws0 f fd) (S : FnScope N ps (defScope st))
    (body : ∀ (A : Around) (outer : List PySem.Env) (s : Shared) (H : Hp) (E : XK), Cc (cxOf (L2N.CX P w) P w K mg base N qual (defScope st) f fd.code A outer s H E) E k → PdSs (cxOf (L2N.CX P w) P w K mg base N qual (defScope st) f fd.code A outer s H E) E (defBody st) ws)
    (spec : ∀ args Qp Ep, fs args Qp Ep → args.length = ps.length ∧ ws { nx := fun ρ => Qp (.val .non) (outA args ρ), rt := fun r ρ => Qp r (outA args ρ), ex := fun x ρ => Ep x (outA args ρ) } (envOf args N.length)) :
    FnOk P w K mg base (L2N.CX P w) (k + 1) f fd ps (spOf K mg fs ps.length) := by
  obtain ⟨oc, od, dV, kV, doc, pm, an, cdv, ct, osl, rfl, lk, hcd, _, _⟩ := F.ex
  refine fn_of (CX := L2N.CX P w) lk hcd S (fun vs H Q E h => ?_) (fun A outer s H vs Q E hr h => ?_)
  · obtain ⟨c, args, Qp, Ep, ok, rfl, h1, h2, h3, _⟩ := h
    have := ok.len
    rw [h1, h2] at this
    simp at this
    omega
  · obtain ⟨t, ht, so⟩ := body A outer s H E
      ⟨rfl, passes_of rfl, fun pins σ H' s' e s'' I q => L2N.passes_call (L2N.takes_of rfl rfl rfl rfl) (fun _ _ _ _ z => z) pins σ H' s' e s'' I q, L2N.takes_of rfl rfl rfl rfl, hr⟩
    exact ⟨t, ht, fn_core so spec h⟩
/-- a def keeps its promise, by its body over pure data -/
theorem fn_pd {x qual : Str} {prm : Arguments} {st : Stmt} {dvs0 : List V} {kws0 : List (Str × V)} {f : Addr} {fd : FuncData} {N ps : List Str} {k : Nat} {ws : WS} {fs : FS} (F : FunD K x qual prm (defBody st) (defScope st) dvs0 kws0 f fd) (S : FnScope N ps (defScope st))
    (body : ∀ (cdv : Value) (A : Around) (outer : List PySem.Env) (s : Shared) (H : Hp) (E : XK), Cc (cxOf (L2N.CX P w) P w K mg base N qual (defScope st) f cdv A outer s H E) E k → PdSs (cxOf (L2N.CX P w) P w K mg base N qual (defScope st) f cdv A outer s H E) E (defBody st) ws)
    (spec : ∀ args Qp Ep, fs args Qp Ep → args.length = ps.length ∧ ws { nx := fun ρ => Qp (.val .non) (outA args ρ), rt := fun r ρ => Qp r (outA args ρ), ex := fun x ρ => Ep x (outA args ρ) } (envOf args N.length)) :
    FnOk P w K mg base (L2N.CX P w) (k + 1) f fd ps (spOf K mg fs ps.length) := by
  exact fn_pdC F S (fun A outer s H E => body fd.code A outer s H E) spec
end
def argOf (ρ : Env) : R → Option Ent
  | .val d => some (.val d)
  | .tmp _ => none
  | .slot j => match ρ[j]? with
    | some (some (.val d)) => some (.val d)
    | some (some (.own _ d)) => some (.own true d)
    | _ => none
def toArgs (ρ : Env) : List R → (List Ent → Prop) → Prop
  | [], k => k []
  | r :: rs, k => match argOf ρ r with
    | some a => toArgs ρ rs fun as => k (a :: as)
    | none => False
def isSlot (j : Nat) : R → Bool
  | .slot i => i == j
  | _ => false
def anySlot : R → Bool
  | .slot _ => true
  | _ => false
/-- no slot twice -/
def ndS : List R → Bool
  | [] => true
  | .slot j :: rs => !(rs.any (isSlot j)) && ndS rs
  | _ :: rs => ndS rs
def findOwn : List R → List Ent → Nat → Option D
  | .slot i :: rs, .own _ d :: as, j => if i = j then some d else findOwn rs as j
  | _ :: rs, _ :: as, j => findOwn rs as j
  | _, _, _ => none
theorem findOwn_tl {i j : Nat} {rs : List R} (h : i ≠ j) : ∀ {as : List Ent}, findOwn (.slot i :: rs) as j = findOwn rs as.tail j
  | [] => by
    cases rs with
    | nil => rfl
    | cons r rs => cases r <;> rfl
  | .val d :: as => rfl
  | .own _ d :: as => by
    show (if i = j then some d else findOwn rs as j) = _
    rw [if_neg h]; rfl
def backE (rs : List R) (as : List Ent) (j : Nat) : Option Ent → Option Ent
  | some (.own b d) => match findOwn rs as j with
    | some d' => some (.own b d')
    | none => some (.own b d)
  | e => e
def backA (rs : List R) (as : List Ent) (ρ : Env) : Env := match rs.any anySlot with
  | true => ρ.mapIdx (backE rs as)
  | false => ρ
theorem ndS_of : ∀ {rs : List R} {i i' : Nat} {j : Nat}, ndS rs = true → rs[i]? = some (.slot j) → rs[i']? = some (.slot j) → i = i'
  | [], _, _, _, _, h, _ => by simp at h
  | r :: rs, 0, 0, _, _, _, _ => rfl
  | r :: rs, i + 1, i' + 1, j, h, h1, h2 => by
    have hn : ndS rs = true := by
      cases r with
      | slot k => simp [ndS] at h; exact h.2
      | _ => exact h
    exact congrArg Nat.succ (ndS_of (j := j) hn (by simpa using h1) (by simpa using h2))
  | r :: rs, 0, i' + 1, j, h, h1, h2 => by
    simp at h1; subst h1
    simp only [ndS, Bool.and_eq_true, Bool.not_eq_true', List.any_eq_false] at h
    have := h.1 (.slot j) (List.mem_of_getElem? (by simpa using h2))
    simp [isSlot] at this
  | r :: rs, i + 1, 0, j, h, h1, h2 => by
    simp at h2; subst h2
    simp only [ndS, Bool.and_eq_true, Bool.not_eq_true', List.any_eq_false] at h
    have := h.1 (.slot j) (List.mem_of_getElem? (by simpa using h1))
    simp [isSlot] at this
theorem findOwn_some : ∀ {rs : List R} {as : List Ent} {j : Nat} {d : D}, findOwn rs as j = some d → ∃ (i : Nat) (b : Bool), rs[i]? = some (.slot j) ∧ as[i]? = some (.own b d)
  | [], _, _, _, h => by simp [findOwn] at h
  | r :: rs, [], _, _, h => by cases r <;> simp [findOwn] at h
  | r :: rs, a :: as, j, d, h => by
    by_cases hc : ∃ i b d', r = .slot i ∧ a = .own b d'
    · obtain ⟨i, b, d', rfl, rfl⟩ := hc
      unfold findOwn at h
      by_cases e : i = j
      · rw [if_pos e] at h; cases h
        exact ⟨0, b, by rw [e]; rfl, rfl⟩
      · rw [if_neg e] at h
        obtain ⟨i', b', h1, h2⟩ := findOwn_some h
        exact ⟨i' + 1, b', by simpa using h1, by simpa using h2⟩
    · have e : findOwn (r :: rs) (a :: as) j = findOwn rs as j := by
        cases r with
        | slot i =>
          cases a with
          | own b d' => exact absurd ⟨i, b, d', rfl, rfl⟩ hc
          | val d' => rfl
        | _ => rfl
      rw [e] at h
      obtain ⟨i', b', h1, h2⟩ := findOwn_some h
      exact ⟨i' + 1, b', by simpa using h1, by simpa using h2⟩
theorem findOwn_none : ∀ {rs : List R} {as : List Ent} {j i : Nat} {b : Bool} {d : D}, findOwn rs as j = none → rs[i]? = some (.slot j) → as[i]? ≠ some (.own b d)
  | [], _, _, _, _, _, _, h => by simp at h
  | r :: rs, [], _, i, _, _, _, _ => by simp
  | r :: rs, a :: as, j, 0, b, d, h, h1 => by
    intro z
    simp at h1 z
    subst h1 z
    simp [findOwn] at h
  | r :: rs, a :: as, j, i + 1, b, d, h, h1 => by
    intro z
    have h' : findOwn rs as j = none := by
      cases r with
      | slot k =>
        cases a with
        | own b' d' =>
          unfold findOwn at h
          split at h
          · cases h
          · exact h
        | val d' => exact h
      | _ => exact h
    exact findOwn_none h' (by simpa using h1) (by simpa using z)
theorem backA_get {rs : List R} {as : List Ent} {ρ : Env} {j : Nat} : (backA rs as ρ)[j]? = (ρ[j]?).map (backE rs as j) := by
  unfold backA
  split
  · rw [List.getElem?_mapIdx]
  · rename_i h
    have nof : findOwn rs as j = none := by
      cases q : findOwn rs as j with
      | none => rfl
      | some d =>
        obtain ⟨i, b, h1, _⟩ := findOwn_some q
        have := List.any_eq_false.mp h (.slot j) (List.mem_of_getElem? h1)
        simp [anySlot] at this
    cases q : ρ[j]? with
    | none => rfl
    | some e =>
      cases e with
      | none => rfl
      | some e =>
        cases e with
        | val d => rfl
        | own b d => simp [backE, nof]
theorem backA_len {rs : List R} {as : List Ent} {ρ : Env} : (backA rs as ρ).length = ρ.length := by
  unfold backA
  split
  · simp
  · rfl
section
variable {K : PySem.W.Frag} {mg : Str → Option Value}
def ArgRel (K : PySem.W.Frag) (mg : Str → Option Value) (c : Cfg) : R → V → Ent → Prop
  | .val d, v, a => a = .val d ∧ Rep K mg c.F d v
  | .tmp _, _, _ => False
  | .slot j, v, a => c.σ[j]? = some (some v) ∧ ((∃ d, c.ρ[j]? = some (some (.val d)) ∧ a = .val d) ∨ ∃ b d, c.ρ[j]? = some (some (.own b d)) ∧ a = .own true d)
theorem toArgs_of {c : Cfg} : ∀ {rs : List R} {vs : List V} {k : List Ent → Prop}, RRVs K mg c rs vs → toArgs c.ρ rs k → ∃ args, k args ∧ args.length = rs.length ∧ vs.length = rs.length ∧ ∀ (i : Nat) (r : R), rs[i]? = some r → ∃ v a, vs[i]? = some v ∧ args[i]? = some a ∧ ArgRel K mg c r v a
  | [], _, k, r, h => ⟨[], h, rfl, by rw [show _ = [] from r]; rfl, fun i r e => by simp at e⟩
  | r :: rs, _, k, hr, h => by
    obtain ⟨x, t, rfl, h1, h2⟩ := hr
    unfold toArgs at h
    split at h
    next a ha =>
      obtain ⟨args, q, l1, l2, q2⟩ := toArgs_of h2 h
      refine ⟨a :: args, q, by simp [l1], by simp [l2], fun i r' e => ?_⟩
      cases i with
      | zero =>
        simp at e; subst e
        refine ⟨x, a, rfl, rfl, ?_⟩
        cases r with
        | val d => cases ha; exact ⟨rfl, h1⟩
        | tmp d => cases ha
        | slot j =>
          unfold argOf at ha
          simp only at ha
          split at ha
          next d hd => cases ha; exact ⟨h1, .inl ⟨d, hd, rfl⟩⟩
          next b d hd => cases ha; exact ⟨h1, .inr ⟨b, d, hd, rfl⟩⟩
          next => cases ha
      | succ i =>
        obtain ⟨v, a', e1, e2, e3⟩ := q2 i r' (by simpa using e)
        exact ⟨v, a', by simpa using e1, by simpa using e2, e3⟩
    next => exact h.elim
/-- the call itself: from the caller's configuration to the callee's promise, and back -/
theorem call_coreP {fs : FS} {n : Nat} {c : Cfg} {rs : List R} {vs dvs : List V} {dds : List D} {Pp : R → List Ent → Prop} {Xp : Ex → List Ent → Prop} {Q : VK} {E : XK} (ok : Ok K mg c) (hr : RRVs K mg c rs vs) (hd : ∀ F, RepL K mg F dds dvs) (hn : rs.length + dds.length = n)
    (h : toArgs c.ρ rs fun args => ndS rs = true ∧ fs (args ++ dds.map .val) Pp Xp)
    (x : ∀ y cls d c' args', Go K mg c c' → c'.σ = c.σ → ExOk K mg c'.F c'.H y cls d → XNew c.H c'.F c'.fp d → c'.ρ = backA rs args' c.ρ → Xp y args' → E cls d c'.H)
    (k : ∀ v c' r args', Go K mg c c' → c'.σ = c.σ → RR K mg c c' r v → c'.ρ = backA rs args' c.ρ → Pp r args' → Q v c'.H) : spOf K mg fs n (vs ++ dvs) c.H Q E := by
  obtain ⟨args, ⟨nd, hf⟩, la, lv, pw⟩ := toArgs_of hr h
  have ld := (hd c.F).len K mg
  let fpc : Nat → List Addr := fun i => match rs[i]? with
    | some (.slot j) => c.fp j
    | _ => []
  have fpc_slot : ∀ i j : Nat, rs[i]? = some (.slot j) → fpc i = c.fp j := fun i j e => by show (match rs[i]? with | some (.slot j) => c.fp j | _ => []) = _; rw [e]
  have fpc_mem : ∀ i b, b ∈ fpc i → ∃ j, rs[i]? = some (.slot j) ∧ b ∈ c.fp j := fun i b hb => by
    have hb' : b ∈ (match rs[i]? with | some (.slot j) => c.fp j | _ => []) := hb
    split at hb'
    next j e => exact ⟨j, e, hb'⟩
    next => cases hb'
  have getA : ∀ i, i < rs.length → (args ++ dds.map Ent.val)[i]? = args[i]? := fun i hi => List.getElem?_append_left (by omega)
  have getV : ∀ i, i < rs.length → (vs ++ dvs)[i]? = vs[i]? := fun i hi => List.getElem?_append_left (by omega)
  let cc : Cfg := { F := c.F, H := c.H, σ := (vs ++ dvs).map some, ρ := (args ++ dds.map Ent.val).map some, fp := fpc }
  have okc : Ok K mg cc := by
    refine ⟨ok.tabs, ok.sub, by show (List.map some (args ++ dds.map Ent.val)).length = (List.map some (vs ++ dvs)).length; simp [la, lv, ld], fun i e q => ?_, fun i q => ?_, fun i b hb => ?_, fun i j b h1 h2 => ?_, ok.tf⟩
    · have q' : (args ++ dds.map Ent.val)[i]? = some e := by
        have q0 : (List.map some (args ++ dds.map Ent.val))[i]? = some (some e) := q
        rw [List.getElem?_map] at q0
        cases z : (args ++ dds.map Ent.val)[i]? with
        | none => rw [z] at q0; cases q0
        | some a => rw [z] at q0; cases q0; rfl
      by_cases hi : i < rs.length
      · obtain ⟨v, a, e1, e2, e3⟩ := pw i rs[i] (by simp [hi])
        rw [getA i hi, e2] at q'; cases q'
        refine ⟨v, by show (List.map some (vs ++ dvs))[i]? = _; rw [List.getElem?_map, getV i hi, e1]; rfl, ?_⟩
        cases hr' : rs[i] with
        | val d =>
          rw [hr'] at e3
          obtain ⟨rfl, rp⟩ := e3
          refine ⟨rp, ?_⟩
          show (match rs[i]? with | some (.slot j) => c.fp j | _ => []) = []
          rw [show rs[i]? = some (.val d) by simp [hi, hr']]
        | tmp d => rw [hr'] at e3; exact e3.elim
        | slot j =>
          rw [hr'] at e3
          obtain ⟨hv, e3⟩ := e3
          have hs : rs[i]? = some (.slot j) := by simp [hi, hr']
          rcases e3 with ⟨d, hd', rfl⟩ | ⟨b, d, hd', rfl⟩
          · obtain ⟨v', hv', rp, hz⟩ := ok.val hd'
            rw [hv] at hv'; cases hv'
            exact ⟨rp, (fpc_slot i j hs).trans hz⟩
          · obtain ⟨v', hv', o⟩ := ok.own hd'
            rw [hv] at hv'; cases hv'
            show Own K mg c.F c.H d v (fpc i)
            rw [fpc_slot i j hs]; exact o
      · rw [List.getElem?_append_right (by omega), List.getElem?_map] at q'
        cases z : dds[i - args.length]? with
        | none => rw [z] at q'; cases q'
        | some d =>
          rw [z] at q'; cases q'
          obtain ⟨v, hv, rv⟩ := (hd c.F).get K mg z
          refine ⟨v, ?_, rv, ?_⟩
          · show (List.map some (vs ++ dvs))[i]? = _
            rw [List.getElem?_map, List.getElem?_append_right (by omega), show i - vs.length = i - args.length by omega, hv]; rfl
          · show (match rs[i]? with | some (.slot j) => c.fp j | _ => []) = []
            rw [List.getElem?_eq_none (by omega)]
    · show (match rs[i]? with | some (.slot j) => c.fp j | _ => []) = []
      split
      next j hs =>
        have hi := (List.getElem?_eq_some_iff.mp hs).1
        obtain ⟨v, a, e1, e2, e3⟩ := pw i _ hs
        exact absurd (show (List.map some (args ++ dds.map Ent.val))[i]? = some (some a) by rw [List.getElem?_map, getA i hi, e2]; rfl) (q a)
      next => rfl
    · obtain ⟨j, _, hb'⟩ := fpc_mem i b hb
      exact ok.out j b hb'
    · obtain ⟨j1, s1, m1⟩ := fpc_mem i b h1
      obtain ⟨j2, s2, m2⟩ := fpc_mem j b h2
      have := ok.disj j1 j2 b m1 m2
      subst this
      exact ndS_of nd s1 s2
  have key : ∀ (F' H' : Hp) (args' : List Ent) (fpa : Nat → List Addr), Frm cc.fp cc.F cc.H F' H' → Mono F' H' → TupF F' H' → LamX.Tabs HasT.T H' → CArgs K mg cc F' H' (args ++ dds.map Ent.val) args' fpa →
      ∃ fpn : Nat → List Addr, Go K mg c { c with F := F', H := H', ρ := backA rs args' c.ρ, fp := fpn } ∧ ∀ j b, b ∈ fpn j → (∃ i, rs[i]? = some (R.slot j) ∧ b ∈ fpa i) ∨ ((∀ i, rs[i]? ≠ some (R.slot j)) ∧ b ∈ c.fp j) := fun F' H' args' fpa fr sb tf' tb ca => by
    have fr' : Frm c.fp c.F c.H F' H' := ⟨fr.mono, fun a h1 h2 h3 h4 => fr.keep a h1 h2 (fun i hi => by
      obtain ⟨j, _, hb⟩ := fpc_mem i a hi
      exact h3 j hb) h4, fr.grow⟩
    -- what the slots own behind the call
    let fpn : Nat → List Addr := fun j => match rs.findIdx? (isSlot j) with
      | some i => match c.ρ[j]? with
        | some (some (.own _ _)) => fpa i
        | _ => c.fp j
      | none => c.fp j
    have at_of : ∀ (j i : Nat), rs[i]? = some (R.slot j) → rs.findIdx? (isSlot j) = some i := fun j i hi => by
      have il := (List.getElem?_eq_some_iff.mp hi).1
      rw [List.findIdx?_eq_some_iff_getElem]
      refine ⟨il, by rw [List.getElem?_eq_getElem il] at hi; rw [Option.some.inj hi]; simp [isSlot], fun i' hi' => ?_⟩
      intro z
      have : rs[i']? = some (R.slot j) := by
        rw [List.getElem?_eq_getElem (by omega)]
        cases q : rs[i'] with
        | slot k => rw [q] at z; simp [isSlot] at z; rw [z]
        | _ => rw [q] at z; cases z
      have := ndS_of nd this hi
      omega
    have fpn_lent : ∀ (j i : Nat) (b : Bool) (d : D), rs[i]? = some (R.slot j) → c.ρ[j]? = some (some (.own b d)) → fpn j = fpa i := fun j i b d hi hρ => by
      show (match rs.findIdx? (isSlot j) with | some i => (match c.ρ[j]? with | some (some (.own _ _)) => fpa i | _ => c.fp j) | none => c.fp j) = _
      rw [at_of j i hi, hρ]
    have fpn_other : ∀ (j : Nat), (∀ i, rs[i]? ≠ some (R.slot j)) → fpn j = c.fp j := fun j hj => by
      show (match rs.findIdx? (isSlot j) with | some i => (match c.ρ[j]? with | some (some (.own _ _)) => fpa i | _ => c.fp j) | none => c.fp j) = _
      cases q : rs.findIdx? (isSlot j) with
      | none => rfl
      | some i =>
        exfalso
        obtain ⟨il, h1, _⟩ := List.findIdx?_eq_some_iff_getElem.mp q
        refine hj i ?_
        rw [List.getElem?_eq_getElem il]
        cases q' : rs[i] with
        | slot k => rw [q'] at h1; simp [isSlot] at h1; rw [h1]
        | _ => rw [q'] at h1; cases h1
    have fpn_not : ∀ (j : Nat), (∀ b d, c.ρ[j]? ≠ some (some (.own b d))) → fpn j = c.fp j := fun j hj => by
      show (match rs.findIdx? (isSlot j) with | some i => (match c.ρ[j]? with | some (some (.own _ _)) => fpa i | _ => c.fp j) | none => c.fp j) = _
      split
      · split
        next b d z => exact absurd z (hj b d)
        next => rfl
      · rfl
    -- a slot that owns: lent, or as it was
    have own : ∀ (j : Nat) (b : Bool) (d : D), c.ρ[j]? = some (some (.own b d)) → ∃ d' v', backE rs args' j (some (.own b d)) = some (.own b d') ∧ c.σ[j]? = some (some v') ∧ Own K mg F' H' d' v' (fpn j) ∧ (∀ a ∈ fpn j, F' a = none ∧ H' a ≠ none) ∧ Grw (c.fp j) (fpn j) c.H := fun j b d hρ => by
      obtain ⟨v0, hv0, o0⟩ := ok.own hρ
      by_cases hs : ∃ i : Nat, rs[i]? = some (R.slot j)
      · obtain ⟨i, hi⟩ := hs
        have il := (List.getElem?_eq_some_iff.mp hi).1
        obtain ⟨v1, a, e1, e2, e3⟩ := pw i _ hi
        obtain ⟨hv1, e3⟩ := e3
        rw [hv0] at hv1; cases hv1
        rcases e3 with ⟨d', h', _⟩ | ⟨b', d', h', rfl⟩
        · rw [hρ] at h'; cases h'
        · rw [hρ] at h'; cases h'
          obtain ⟨d2, v2, f1, f2, f3, f4, f5⟩ := ca.own i d (by rw [getA i il]; exact e2)
          have f2' : (List.map some (vs ++ dvs))[i]? = some (some v2) := f2
          rw [List.getElem?_map, getV i il, e1] at f2'
          cases f2'
          have ef : findOwn rs args' j = some d2 := by
            cases q' : findOwn rs args' j with
            | none => exact absurd f1 (findOwn_none q' hi)
            | some d3 =>
              obtain ⟨i', b', s1, s2⟩ := findOwn_some q'
              have := ndS_of nd hi s1
              subst this
              rw [f1] at s2; cases s2; rfl
          refine ⟨d2, v0, by simp [backE, ef], hv0, ?_, ?_, ?_⟩
          · rw [fpn_lent j i b d hi hρ]; exact f3
          · rw [fpn_lent j i b d hi hρ]; exact f4
          · rw [fpn_lent j i b d hi hρ, ← fpc_slot i j hi]; exact f5
      · have ef : findOwn rs args' j = none := by
          cases q' : findOwn rs args' j with
          | none => rfl
          | some d3 =>
            obtain ⟨i', b', s1, _⟩ := findOwn_some q'
            exact absurd ⟨i', s1⟩ hs
        have en := fpn_other j fun i z => hs ⟨i, z⟩
        have kp : ∀ a ∈ c.fp j, F' a = none ∧ H' a = c.H a := fun a ha => by
          obtain ⟨o1, o2⟩ := ok.out j a ha
          obtain ⟨u0, hu0, pu0⟩ := own_pl o0 a ha
          exact fr.keep a o1 o2 (fun i hi => by
            obtain ⟨j', s, hb⟩ := fpc_mem i a hi
            have := ok.disj j j' a ha hb
            subst this
            exact hs ⟨i, s⟩) (nt_of hu0 pu0)
        refine ⟨d, v0, by simp [backE, ef], hv0, ?_, ?_, ?_⟩
        · rw [en]; exact o0.frame K mg fr.mono fun a ha => (kp a ha).2
        · rw [en]; exact fun a ha => ⟨(kp a ha).1, by rw [(kp a ha).2]; exact (ok.out j a ha).2⟩
        · rw [en]; exact Grw.refl _ _
    have slotOwn : ∀ j b, b ∈ fpn j → ∃ bb d, c.ρ[j]? = some (some (.own bb d)) := fun j b hb => Classical.byContradiction fun z => by
      rw [fpn_not j fun bb d q => z ⟨bb, d, q⟩] at hb
      have : ∃ e, c.ρ[j]? = some (some e) := Classical.byContradiction fun z => by
        have := ok.non j fun e q => z ⟨e, q⟩
        rw [this] at hb; cases hb
      obtain ⟨e, he⟩ := this
      cases e with
      | val d =>
        obtain ⟨_, _, _, hz⟩ := ok.val he
        rw [hz] at hb; cases hb
      | own b' d => exact z ⟨b', d, he⟩
    have lentOr : ∀ j b, b ∈ fpn j → (∃ i, rs[i]? = some (R.slot j) ∧ b ∈ fpa i) ∨ ((∀ i, rs[i]? ≠ some (R.slot j)) ∧ b ∈ c.fp j) := fun j b hb => by
      obtain ⟨bb, d, hρ⟩ := slotOwn j b hb
      by_cases hs : ∃ i : Nat, rs[i]? = some (R.slot j)
      · obtain ⟨i, hi⟩ := hs
        exact .inl ⟨i, hi, by rw [← fpn_lent j i bb d hi hρ]; exact hb⟩
      · have hs' : ∀ i, rs[i]? ≠ some (R.slot j) := fun i z => hs ⟨i, z⟩
        exact .inr ⟨hs', by rw [← fpn_other j hs']; exact hb⟩
    have fpn_grw : ∀ j, Grw (c.fp j) (fpn j) c.H := fun j => by
      by_cases hz : ∃ bb d, c.ρ[j]? = some (some (.own bb d))
      · obtain ⟨bb, d, hρ⟩ := hz
        obtain ⟨_, _, _, _, _, _, g⟩ := own j bb d hρ
        exact g
      · rw [fpn_not j fun bb d q => hz ⟨bb, d, q⟩]; exact Grw.refl _ _
    have g : Go K mg c { c with F := F', H := H', ρ := backA rs args' c.ρ, fp := fpn } := by
      refine ⟨⟨tb, sb, by rw [backA_len]; exact ok.len, fun j e q' => ?_, fun j q' => ?_, fun j b hb => ?_, fun j j' b h1 h2 => ?_, tf'⟩, fr', fun j b hb => ?_, fun j d hρ => ?_⟩
      · have q2 : (c.ρ[j]?).map (backE rs args' j) = some (some e) := by rw [← backA_get]; exact q'
        cases z : c.ρ[j]? with
        | none => rw [z] at q2; cases q2
        | some y =>
          rw [z] at q2
          cases y with
          | none => cases q2
          | some y =>
            cases y with
            | val d =>
              cases q2
              obtain ⟨v', hv', rp, hz⟩ := ok.val z
              exact ⟨v', hv', rp.mono K mg fr.mono _ _, (fpn_not j fun bb dd q => by rw [z] at q; cases q).trans hz⟩
            | own b d =>
              obtain ⟨d', v', b1, b2, b3, b4⟩ := own j b d z
              have : e = .own b d' := by
                have q3 : backE rs args' j (some (.own b d)) = some e := Option.some.inj q2
                rw [b1] at q3; exact (Option.some.inj q3).symm
              subst this
              exact ⟨v', b2, b3⟩
      · show fpn j = []
        rw [fpn_not j fun b d z => by
          obtain ⟨d', v', b1, _⟩ := own j b d z
          exact q' (.own b d') (by show (backA rs args' c.ρ)[j]? = _; rw [backA_get, z]; exact congrArg some b1)]
        refine ok.non j fun e z => ?_
        cases e with
        | val d => exact q' (.val d) (by show (backA rs args' c.ρ)[j]? = _; rw [backA_get, z]; rfl)
        | own b d =>
          obtain ⟨d', v', b1, _⟩ := own j b d z
          exact q' (.own b d') (by show (backA rs args' c.ρ)[j]? = _; rw [backA_get, z]; exact congrArg some b1)
      · obtain ⟨bb, d, hρ⟩ := slotOwn j b hb
        obtain ⟨d', v', _, _, _, b4, _⟩ := own j bb d hρ
        exact b4 b hb
      · rcases lentOr j b h1 with ⟨i, hi, m1⟩ | ⟨n1, m1⟩
        · rcases lentOr j' b h2 with ⟨i', hi', m2⟩ | ⟨n2, m2⟩
          · have := ca.disj i i' b m1 m2
            subst this
            rw [hi] at hi'; cases hi'; rfl
          · rcases (fpn_grw j).2 b h1 with q | q
            · exact ok.disj j j' b q m2
            · exact absurd q (ok.out j' b m2).2
        · rcases (fpn_grw j').2 b h2 with q | q
          · exact ok.disj j j' b m1 q
          · exact absurd q (ok.out j b m1).2
      · rcases (fpn_grw j).2 b hb with q | q
        · exact .inl ⟨j, q⟩
        · exact .inr q
      · obtain ⟨d', v', b1, _⟩ := own j true d hρ
        exact ⟨d', by show (backA rs args' c.ρ)[j]? = _; rw [backA_get, hρ]; exact congrArg some b1, fpn_grw j, rfl⟩
    exact ⟨fpn, g, lentOr⟩
  refine ⟨cc, args ++ dds.map Ent.val, _, Xp, okc, rfl, rfl, rfl, by simp; omega, fun e he d => ?_, hf, fun y cls dd F' H' args' fpa fr sb tf' tb ca eo xn q => ?_, fun v F' H' r args' fpa fr sb tf' tb ca rf q => ?_⟩
  · rcases List.mem_append.mp he with he | he
    · obtain ⟨i, hi, rfl⟩ := List.mem_iff_getElem.mp he
      obtain ⟨v, a, e1, e2, e3⟩ := pw i rs[i] (by simp [show i < rs.length by omega])
      have e2' : args[i] = a := by
        rw [List.getElem?_eq_getElem hi] at e2
        exact Option.some.inj e2
      rw [e2']
      cases hr' : rs[i]'(by omega) with
      | val d' => rw [hr'] at e3; rw [e3.1]; intro z; cases z
      | tmp d' => rw [hr'] at e3; exact e3.elim
      | slot j =>
        rw [hr'] at e3
        rcases e3.2 with ⟨d', _, rfl⟩ | ⟨b, d', _, rfl⟩ <;> (intro z; cases z)
    · obtain ⟨d', _, rfl⟩ := List.mem_map.mp he
      intro z; cases z
  · obtain ⟨fpn, g, lo⟩ := key F' H' args' fpa fr sb tf' tb ca
    refine x y cls dd { c with F := F', H := H', ρ := backA rs args' c.ρ, fp := fpn } args' g rfl eo (fun b e => ?_) rfl q
    obtain ⟨n1, n2, n3⟩ := xn b e
    refine ⟨n1, n2, fun j hj => ?_⟩
    rcases lo j b hj with ⟨i, _, m1⟩ | ⟨_, m1⟩
    · exact n3 i m1
    · exact (ok.out j b m1).2 n1
  · obtain ⟨fpn, g, lentOr⟩ := key F' H' args' fpa fr sb tf' tb ca
    refine k v { c with F := F', H := H', ρ := backA rs args' c.ρ, fp := fpn } r args' g rfl ?_ rfl q
    cases r with
    | val d => exact rf
    | slot i => exact rf.elim
    | tmp d =>
      obtain ⟨ft, o, hf'⟩ := rf
      refine ⟨ft, o, fun b hb => ?_⟩
      obtain ⟨k1, k2, k3, k4⟩ := hf' b hb
      refine ⟨k1, k2, k3, fun j hj => ?_⟩
      rcases lentOr j b hj with ⟨i, _, m1⟩ | ⟨_, m1⟩
      · exact k4 i m1
      · exact (ok.out j b m1).2 k3
theorem call_core {fs : FS} {n : Nat} {c : Cfg} {rs : List R} {vs dvs : List V} {dds : List D} {Qp : R → Env → Prop} {Ep : Ex → Env → Prop} {Q : VK} {E : XK} (ok : Ok K mg c) (hr : RRVs K mg c rs vs) (hd : ∀ F, RepL K mg F dds dvs) (hn : rs.length + dds.length = n)
    (h : toArgs c.ρ rs fun args => ndS rs = true ∧ fs (args ++ dds.map .val) (fun r args' => Qp r (backA rs args' c.ρ)) (fun y args' => Ep y (backA rs args' c.ρ))) (x : XOk K mg c Ep E)
    (k : ∀ v c' r, Go K mg c c' → c'.σ = c.σ → RR K mg c c' r v → Qp r c'.ρ → Q v c'.H) : spOf K mg fs n (vs ++ dvs) c.H Q E :=
  call_coreP ok hr hd hn h (fun y cls d c' args' g e o n eρ q => x y cls d c' g e o n (by rw [eρ]; exact q)) fun v c' r args' g e rr eρ q => k v c' r g e rr (by rw [eρ]; exact q)
end
end PL
namespace PL
open PySem PySem.Spec PyProof.Rows L2
variable [HasT]
/-- f(..): dds the defaults -/
def wCallF (fs : FS) (dds : List D) (wr : WR) : WE := fun ρ Q Ep => wr ρ (fun rs ρ' => toArgs ρ' rs fun args => ndS rs = true ∧ fs (args ++ dds.map .val) (fun r args' => Q r (backA rs args' ρ')) (fun y args' => Ep y (backA rs args' ρ'))) Ep
/-- o.m(..) -/
def wMeth (cn : Str) (m : Str) (fs : FS) (dds : List D) (wo : WE) (wr : WR) : WE := fun ρ Q Ep => wV wo ρ (fun r0 ρ0 => pk1 ρ0 r0 fun d0 => (match d0 with
  | .obj c fn _ => c = cn ∧ fn.contains m = false
  | _ => False) ∧ wr ρ0 (fun rs ρ' => toArgs ρ' (r0 :: rs) fun args => ndS (r0 :: rs) = true ∧ fs (args ++ dds.map .val) (fun r args' => Q r (backA (r0 :: rs) args' ρ')) (fun y args' => Ep y (backA (r0 :: rs) args' ρ'))) Ep) Ep
/-- C(..) -/
def wMake (cn : Str) (fs : FS) (dds : List D) (wr : WR) : WE := fun ρ Q Ep => wr ρ (fun rs ρ' => toArgs ρ' rs fun args => ndS rs = true ∧ fs (.own true (.obj cn [] []) :: (args ++ dds.map .val)) (fun r args' => match r, args' with
  | .val .non, .own true d :: rest => frz d (Q (.val d) (backA rs rest ρ'))
  | _, _ => False) (fun y args' => Ep y (backA rs args'.tail ρ'))) Ep
def fldD : List Str → List D → Str → Option D
  | f :: fs, d :: ds, g => if g = f then some d else fldD fs ds g
  | _, _, _ => none
/-- is what came frozen? -/
def frzR (ρ : Env) : R → Bool
  | .val _ => true
  | .slot i => match ρ[i]? with
    | some (some (.val _)) => true
    | _ => false
  | .tmp _ => false
/-- a field that is read; a box is read of frozen objects alone -/
def fldQ (b : Bool) (x : D) (k : D → Prop) : Prop := if isBx x = true then b = true ∧ k (unB x) else k x
def wFld (cn f : Str) (w : WE) : WE := fun ρ Q Ep => wV w ρ (fun r ρ' => pk1 ρ' r fun d => match d with
  | .obj c fs ds => c = cn ∧ match fldD fs ds f with
    | some x => fldQ (frzR ρ' r) x fun y => Q (.val y) ρ'
    | none => False
  | _ => False) Ep
def putN : List Str → Str → List Str
  | [], f => [f]
  | g :: r, f => if g = f then f :: r else g :: putN r f
def putD : List Str → List D → Str → D → List D
  | g :: r, x :: ds, f, d => if g = f then d :: ds else x :: putD r ds f d
  | _, _, _, d => [d]
/-- slot i's object: o.f = e -/
def wSetF (i : Nat) (cn f : Str) (w : WE) : WS := fun Dp ρ => wK w ρ (fun d ρ' => match ρ'[i]? with
  | some (some (.own b (.obj c fs ds))) => c = cn ∧ fs.length < 1000 ∧ isBx d = false ∧ Dp.nx (ρ'.set i (some (.own b (.obj c (putN fs f) (putD fs ds f d)))))
  | _ => False) Dp.ex
section
variable {K : PySem.W.Frag} {mg : Str → Option Value}
theorem fld_rep {F : Hp} {f : Str} {d : D} : ∀ {fs : List Str} {ds : List D} {gs : List (Str × V)}, gs.map (·.1) = fs → RepL K mg F ds (gs.map (·.2)) → fldD fs ds f = some d → ∃ v, gs.lookup f = some v ∧ Rep K mg F d v
  | [], _, _, _, _, h => by cases h
  | g :: fs, [], _, _, _, h => by cases h
  | g :: fs, x :: ds, [], e, _, _ => by cases e
  | g :: fs, x :: ds, (a, v) :: gs, e, r, h => by
    simp only [List.map_cons, List.cons.injEq] at e
    obtain ⟨rfl, e⟩ := e
    obtain ⟨y, t, e2, r1, r2⟩ := r
    simp only [List.map_cons, List.cons.injEq] at e2
    obtain ⟨rfl, rfl⟩ := e2
    unfold fldD at h
    by_cases hf : f = a
    · rw [if_pos hf] at h; cases h
      exact ⟨v, by simp [List.lookup, hf], r1⟩
    · rw [if_neg hf] at h
      obtain ⟨u, hu, ru⟩ := fld_rep e r2 h
      refine ⟨u, ?_, ru⟩
      have : (f == a) = false := by simpa using hf
      simp [List.lookup, this, hu]
theorem lookup_no {m : Str} : ∀ {gs : List (Str × V)}, (gs.map (·.1)).contains m = false → gs.lookup m = none
  | [], _ => rfl
  | (a, v) :: gs, h => by
    simp only [List.map_cons, List.contains_cons, Bool.or_eq_false_iff] at h
    simp [List.lookup, h.1, lookup_no h.2]
theorem fld_box {F H : Hp} {f : Str} {d : D} : ∀ {fs : List Str} {ds : List D} {gs : List (Str × V)} {ft : List Addr}, gs.map (·.1) = fs → BoxL K mg F H ds (gs.map (·.2)) ft → fldD fs ds f = some d → isBx d = false → ∃ v, gs.lookup f = some v ∧ Rep K mg F d v
  | [], _, _, _, _, _, h, _ => by cases h
  | g :: fs, [], _, _, _, _, h, _ => by cases h
  | g :: fs, x :: ds, [], _, e, _, _, _ => by cases e
  | g :: fs, x :: ds, (a, v) :: gs, ft, e, r, h, hb => by
    simp only [List.map_cons, List.cons.injEq] at e
    obtain ⟨rfl, e⟩ := e
    obtain ⟨y, t, e2, r1⟩ := r
    simp only [List.map_cons, List.cons.injEq] at e2
    obtain ⟨rfl, rfl⟩ := e2
    have rest : ∃ f2, BoxL K mg F H ds (gs.map (·.2)) f2 := by
      by_cases hx : isBx x = true
      · rw [if_pos hx] at r1
        obtain ⟨_, f2, _, _, r2⟩ := r1
        exact ⟨f2, r2⟩
      · rw [if_neg hx] at r1
        exact ⟨ft, r1.2⟩
    unfold fldD at h
    by_cases hf : f = a
    · rw [if_pos hf] at h; cases h
      rw [if_neg (by rw [hb]; simp)] at r1
      exact ⟨v, by simp [List.lookup, hf], r1.1⟩
    · rw [if_neg hf] at h
      obtain ⟨f2, r2⟩ := rest
      obtain ⟨u, hu, ru⟩ := fld_box e r2 h hb
      refine ⟨u, ?_, ru⟩
      have : (f == a) = false := by simpa using hf
      simp [List.lookup, this, hu]
/-- an own object's field is stored to: data, or a new box -/
theorem put_box {F H : Hp} {f : Str} {d : D} {v : V} {f0 : List Addr} (rv : BoxL K mg F H [d] [v] f0) : ∀ {fs : List Str} {ds : List D} {gs : List (Str × V)} {ft : List Addr}, gs.map (·.1) = fs → BoxL K mg F H ds (gs.map (·.2)) ft → ∃ f2 g, BoxL K mg F H (putD fs ds f d) ((putF f v gs).map (·.2)) f2 ∧ (putF f v gs).map (·.1) = putN fs f ∧ (f2 ++ g).Perm (f0 ++ ft)
  | [], ds, [], ft, e, r => by
    cases ds with
    | nil =>
      obtain ⟨_, rfl⟩ := r
      exact ⟨f0, [], rv, rfl, .refl _⟩
    | cons => obtain ⟨y, t, e2, _⟩ := r; cases e2
  | [], _, _ :: _, _, e, _ => by cases e
  | g :: fs, _, [], _, e, _ => by cases e
  | g :: fs, [], (a, u) :: gs, _, e, r => by cases (show _ = [] from r.1)
  | g :: fs, x :: ds, (a, u) :: gs, ft, e, r => by
    simp only [List.map_cons, List.cons.injEq] at e
    obtain ⟨rfl, e⟩ := e
    obtain ⟨y, t, e2, r1⟩ := r
    simp only [List.map_cons, List.cons.injEq] at e2
    obtain ⟨rfl, rfl⟩ := e2
    by_cases hf : a = f
    · subst hf
      have e1 : putF a v ((a, u) :: gs) = (a, v) :: gs := by show (if a = a then _ else _) = _; rw [if_pos rfl]
      rw [e1]
      simp only [putN, putD, if_true]
      obtain ⟨z, w, ez, rz⟩ := rv
      simp only [List.cons.injEq] at ez
      obtain ⟨rfl, rfl⟩ := ez
      have joined : ∀ f3, BoxL K mg F H ds (gs.map (·.2)) f3 → BoxL K mg F H (d :: ds) (v :: gs.map (·.2)) (f0 ++ f3) := fun f3 q => by
        refine ⟨v, _, rfl, ?_⟩
        by_cases hd : isBx d = true
        · rw [if_pos hd] at rz ⊢
          obtain ⟨a0, f4, rfl, o1, _, rfl⟩ := rz
          exact ⟨a0, f3, rfl, o1, q⟩
        · rw [if_neg hd] at rz ⊢
          obtain ⟨r0, _, rfl⟩ := rz
          exact ⟨r0, q⟩
      by_cases hx : isBx x = true
      · rw [if_pos hx] at r1
        obtain ⟨a1, f2, rfl, _, r2⟩ := r1
        refine ⟨f0 ++ f2, [a1], joined f2 r2, by simp [e], ?_⟩
        rw [List.append_assoc]
        exact List.Perm.append_left f0 (List.perm_append_comm (l₁ := f2) (l₂ := [a1]))
      · rw [if_neg hx] at r1
        exact ⟨f0 ++ ft, [], joined ft r1.2, by simp [e], by simp⟩
    · have e1 : putF f v ((a, u) :: gs) = (a, u) :: putF f v gs := by show (if a = f then _ else _) = _; rw [if_neg hf]
      rw [e1]
      simp only [putN, putD, if_neg hf]
      by_cases hx : isBx x = true
      · rw [if_pos hx] at r1
        obtain ⟨a1, f2, rfl, o1, r2⟩ := r1
        obtain ⟨f3, g3, i1, i2, i3⟩ := put_box rv e r2
        refine ⟨a1 :: f3, g3, ⟨u, _, rfl, by rw [if_pos hx]; exact ⟨a1, f3, rfl, o1, i1⟩⟩, by simp [i2], ?_⟩
        exact (List.Perm.cons a1 i3).trans List.perm_middle.symm
      · rw [if_neg hx] at r1
        obtain ⟨f3, g3, i1, i2, i3⟩ := put_box rv e r1.2
        exact ⟨f3, g3, ⟨u, _, rfl, by rw [if_neg hx]; exact ⟨r1.1, i1⟩⟩, by simp [i2], i3⟩
theorem See.obj {F H : Hp} {c : Str} {fs : List Str} {ds : List D} {v : V} (h : See K mg F H (.obj c fs ds) v) (s : Mono F H) : ∃ a C dx gs, v = .ref a ∧ mg c = some (.ref C) ∧ H a = some (.ins C dx gs) ∧ gs.map (·.1) = fs := by
  rcases h with ⟨a, C, dx, gs, e, h0, h1, h2, h3⟩ | ⟨ft, a, C, dx, gs, f2, g, e, _, _, h0, h1, h2, h3⟩
  · exact ⟨a, C, dx, gs, e, h0, s.ins h1, h2⟩
  · exact ⟨a, C, dx, gs, e, h0, h1, h2⟩
theorem unB_rep {F : Hp} {d : D} {v : V} (h : Rep K mg F d v) : Rep K mg F (unB d) v := by
  cases d <;> exact h
theorem frzR_rep {c : Cfg} {r : R} {v : V} {d : D} (rr : RRV K mg c r v) (ok : Ok K mg c) (e : peek c.ρ r = some d) (h : frzR c.ρ r = true) : Rep K mg c.F d v := by
  cases r with
  | val d' => cases e; exact rr
  | tmp d' => cases h
  | slot i =>
    unfold frzR at h
    simp only at h
    split at h
    next d' hd =>
      have e' : peek c.ρ (.slot i) = some d' := by unfold peek; simp only [hd]; rfl
      rw [e'] at e; cases e
      obtain ⟨v', hv', rp, _⟩ := ok.val hd
      have hr : c.σ[i]? = some (some v) := rr
      rw [hr] at hv'; cases hv'
      exact rp
    next => cases h
end
section
variable {X : Cx} {XE : XK} {k : Nat}
theorem pd_call {j : Nat} {x : Str} {f : Addr} {fd : FuncData} {ps : List Str} {p pos : Pos} {e : Expr} {es : List Expr} {fs : FS} {dds : List D} {dvs : List V} {ds : List Value} {w : WR} (C : Cc X XE k) (F : FnOk X.prog X.w X.K X.mg X.base (L2N.CX X.prog X.w) j f fd ps (spOf X.K X.mg fs ps.length)) (hj : j ≤ k)
    (hm : X.mg x = some (.ref f)) (hk : PySem.W.keepIn X.K (.ref f) = true) (hb : Binds X.K fd ps ds) (hd : Vals dvs ds) (hD : ∀ F, RepL X.K X.mg F dds dvs) (ha : PdV X XE (e :: es) w) (hl : (e :: es).length + dds.length = ps.length := by rfl)
    (gl : Gl X x := by rfl) (hdb : (x == ("__debug__" : Str)) = false := by decide) (he : starEach (e :: es) X.env = (false, eval e X.env) :: starEach es X.env := by rfl) (hpl : (backTo pos (starEach es X.env)).any (·.1) = false := by rfl) :
    PdE X XE (.Call (.Name x p) (e :: es) [] pos) (wCallF fs dds w) := by
  obtain ⟨t, pa, s⟩ := ha
  refine ⟨_, pe_call (E := XE) F (C.room.mono hj) gl hm hk hb hd C.pas pa hdb he hpl, fun c Qp Ep Q ok hw x k => ?_⟩
  refine s c _ Ep _ ok hw x fun vs c1 rs g1 e1 r1 l1 h1 => ?_
  exact call_core g1.ok r1 hD (by rw [l1]; exact hl) h1 (x.go X.K X.mg g1 e1) fun v c2 r g2 e2 rr q => k v c2 r (g1.trans X.K X.mg g2) (e2.trans e1) (rr_go g1 rr) q
/-- o.m(e, ..) -/
theorem meth_run {cn m : Str} {o : Expr} {es : List Expr} {Cl : Addr} {fs : FS} {n : Nat} {dds : List D} {dvs : List V} {wo : WE} {w : WR} {ta : TE} {t : TA} (hC : X.mg cn = some (.ref Cl)) (hD : ∀ F, RepL X.K X.mg F dds dvs) (so : SoE X XE ta wo) (hl : es.length + 1 + dds.length = n)
    (s : ∀ (c : Cfg) (Qp : List R → Env → Prop) (Ep : Ex → Env → Prop) (Q : List V → Hp → Prop), Ok X.K X.mg c → w c.ρ Qp Ep → XOk X.K X.mg c Ep XE → (∀ vs c' rs, Go X.K X.mg c c' → c'.σ = c.σ → RRVs X.K X.mg c' rs vs → rs.length = es.length → Qp rs c'.ρ → Q vs c'.H) → t c.σ c.H Q) :
    SoE X XE (tMeth Cl m (spOf X.K X.mg fs n) dvs XE ta t) (wMeth cn m fs dds wo w) := by
  intro c Qp Ep Q ok hw x k
  refine runV (e := o) so ok hw x fun v0 c0 r0 g0 e0 rr0 h0 => ?_
  obtain ⟨d0, hd0, h0, hw2⟩ := pk1_of h0
  have see := rr0.see g0.ok hd0
  cases d0 with
  | obj cc fn dd =>
    obtain ⟨a, C', dx, gs, rfl, hc, ha, hg⟩ := see.obj g0.ok.sub
    obtain ⟨rfl, hno⟩ := h0
    rw [hC] at hc; cases hc
    refine ⟨a, dx, gs, rfl, ha, lookup_no (by rw [hg]; exact hno), ?_⟩
    rw [← e0]
    refine s c0 _ Ep _ g0.ok hw2 (x.go X.K X.mg g0 e0) fun vs c1 rs g1 e1 r1 l1 h1 => ?_
    have g01 := g0.trans X.K X.mg g1
    exact call_core (rs := r0 :: rs) (vs := V.ref a :: vs) g1.ok ⟨V.ref a, vs, rfl, rr0.go g1 e1, r1⟩ hD (by rw [List.length_cons, l1]; omega) h1 (x.go X.K X.mg g01 (e1.trans e0)) fun v c2 r g2 e2 rr q => k v c2 r (g01.trans X.K X.mg g2) (e2.trans (e1.trans e0)) (rr_go g01 rr) q
  | _ => exact h0.elim
theorem pd_meth0 {j : Nat} {cn m : Str} {o : Expr} {apos pos : Pos} {Cl f : Addr} {fd : FuncData} {ps : List Str} {fs : FS} {dds : List D} {dvs : List V} {ds : List Value} {wo : WE} {pl : Sem Bool} (C : Cc X XE k) (hC : X.mg cn = some (.ref Cl)) (cl : Cls X.K Cl) (hm : Meth X.K Cl m f)
    (F : FnOk X.prog X.w X.K X.mg X.base (L2N.CX X.prog X.w) j f fd ps (spOf X.K X.mg fs ps.length)) (hj : j ≤ k) (hb : Binds X.K fd ps ds) (hd : Vals dvs ds) (hD : ∀ F, RepL X.K X.mg F dds dvs) (ho : PdE X XE o wo) (hl : 1 + dds.length = ps.length := by rfl)
    (ht : eval (.Call (.Attribute o m apos) [] [] pos) X.env = (do
      let ov ← eval o X.env
      standAt apos.atName
      let (f, first) ← holding [ov] (getMethod ov m pl)
      callWith pos f first (backTo pos (starEach [] X.env)) (backToKw pos (keywordEach [] X.env))) := by rfl) :
    PdE X XE (.Call (.Attribute o m apos) [] [] pos) (wMeth cn m fs dds wo wVn) := by
  obtain ⟨ta, po, so⟩ := ho
  exact ⟨_, pe_meth0 (E := XE) po cl hm F (C.room.mono hj) hb hd C.pas ht, meth_run (o := o) (es := []) hC hD so (by simpa using hl) fun c Qp Ep Q ok hw x k => k [] c [] (Go.refl _ _ ok) rfl rfl rfl hw⟩
/-- o.f -/
theorem pd_fld {cn f : Str} {e : Expr} {pos : Pos} {Cl : Addr} {w : WE} (hC : X.mg cn = some (.ref Cl)) (cl : Cls X.K Cl) (hn : NoAttr X.K Cl f) (h : PdE X XE e w) (hb : attributeBase e f X.env (eval e X.env) = eval e X.env := by rfl) : PdE X XE (.Attribute e f pos) (wFld cn f w) := by
  obtain ⟨t, p, s⟩ := h
  refine ⟨_, pe_fld p hb, fun c Qp Ep Q ok hw x k => ?_⟩
  refine runV (e := e) s ok hw x fun v c1 r1 g1 e1 rr1 h1 => ?_
  obtain ⟨d, hd, h1⟩ := pk1_of h1
  have see := rr1.see g1.ok hd
  cases d with
  | obj cc fn dd =>
    obtain ⟨hcc, h2⟩ := h1
    subst hcc
    cases hy : fldD fn dd f with
    | none => simp only [hy] at h2
    | some y =>
      simp only [hy] at h2
      unfold fldQ at h2
      by_cases hb : isBx y = true
      · rw [if_pos hb] at h2
        have rp := frzR_rep rr1 g1.ok hd h2.1
        obtain ⟨a, C', dx, gs, rfl, hc, hF, hg, rg⟩ := rp
        rw [hC] at hc; cases hc
        obtain ⟨u, hu, ru⟩ := fld_rep hg rg hy
        exact ⟨a, Cl, dx, gs, u, rfl, g1.ok.sub.ins hF, cl, hn, hu, k u c1 (.val (unB y)) g1 e1 (unB_rep ru) h2.2⟩
      · rw [if_neg hb] at h2
        have hb' : isBx y = false := by simpa using hb
        rcases see with ⟨a, C', dx, gs, rfl, hc, hF, hg, rg⟩ | ⟨ft, a, C', dx, gs, f2, g, rfl, _, _, hc, ha, hg, rg, _⟩
        · rw [hC] at hc; cases hc
          obtain ⟨u, hu, ru⟩ := fld_rep hg rg hy
          exact ⟨a, Cl, dx, gs, u, rfl, g1.ok.sub.ins hF, cl, hn, hu, k u c1 (.val y) g1 e1 ru h2⟩
        · rw [hC] at hc; cases hc
          obtain ⟨u, hu, ru⟩ := fld_box hg rg hy hb'
          exact ⟨a, Cl, dx, gs, u, rfl, ha, cl, hn, hu, k u c1 (.val y) g1 e1 ru h2⟩
  | _ => exact h1.elim
/-- o.f = e, o a name whose object the slot owns -/
theorem pst_fld {cn f x : Str} {i : Nat} {e : Expr} {pos pos' p : Pos} {Cl : Addr} {w : WE} (hC : X.mg cn = some (.ref Cl)) (cl : Cls X.K Cl) (hn : NoAttr X.K Cl f) (hx : PE X (.Name x p) (tVar i)) (h : PdE X XE e w) (hs : swapsWith e (some (.Attribute (.Name x p) f pos')) pos.line X.env = pure false := by rfl) :
    PdS X XE (.Assign [.Attribute (.Name x p) f pos'] e pos) (wSetF i cn f w) := by
  obtain ⟨t, pe, s⟩ := h
  refine ⟨_, ps_fld hx pe hs, fun c Dp D ok hw P => ?_⟩
  refine runK (e := e) s ok hw (P.2.2.2.2.ex X.K X.mg) fun v c1 d g1 e1 r1 h1 => ?_
  split at h1
  next b cc fn dd hρ =>
    obtain ⟨hcc, hlt, hbx, h1⟩ := h1
    subst hcc
    obtain ⟨v0, hv0, a, C', dx, gs, f2, jk, rfl, hft, nd, hc, ha, hg, rg, hj⟩ := g1.ok.own hρ
    rw [hC] at hc; cases hc
    rw [← e1]
    refine ⟨.ref a, hv0, a, Cl, dx, gs, rfl, ha, cl, hn, by rw [← hg] at hlt; simpa using hlt, ?_⟩
    have nbx : isBx d = false := hbx
    obtain ⟨f3, g3, p1, p2, p3⟩ := put_box (F := c1.F) (H := c1.H) (f := f) (d := d) (v := v) (f0 := []) ⟨v, [], rfl, by rw [if_neg (by rw [nbx]; simp)]; exact ⟨r1, rfl, rfl⟩⟩ hg rg
    have p3 : (f3 ++ g3).Perm f2 := p3
    have pA : (a :: (f3 ++ (g3 ++ jk))).Perm (a :: (f2 ++ jk)) := by
      rw [← List.append_assoc]
      exact List.Perm.cons a (List.Perm.append_right jk p3)
    have nd3 := (List.Perm.nodup_iff pA).mpr nd
    have nin : a ∉ f3 ++ (g3 ++ jk) := (List.nodup_cons.mp nd3).1
    have mm : ∀ b, b ∈ a :: (f3 ++ (g3 ++ jk)) ↔ b ∈ c1.fp i := fun b => by rw [hft]; exact pA.mem_iff
    have ne3 : ∀ b ∈ f3 ++ (g3 ++ jk), b ≠ a := fun b hb z => by subst z; exact nin hb
    have g2 := write_slot2 (H' := upd c1.H a (.ins Cl dx (putF f v gs))) (d' := .obj cc (putN fn f) (putD fn dd f d)) (ft := a :: (f3 ++ (g3 ++ jk))) g1.ok hρ hv0
      ⟨a, Cl, dx, _, f3, g3 ++ jk, rfl, rfl, nd3, hC, upd_same, p2, p1.frame X.K X.mg (Mono.refl _) fun b hb => upd_ne (ne3 b (by simp [hb])), fun b hb => by
        rw [upd_ne (ne3 b (by rcases List.mem_append.mp hb with z | z <;> simp [z]))]
        have hb' : b ∈ c1.fp i := (mm b).mp (List.mem_cons_of_mem _ (List.mem_append_right _ hb))
        obtain ⟨_, _, o1⟩ := g1.ok.own hρ
        exact own_pl o1 b hb'⟩
      (fun b hb _ => upd_ne fun z => hb (by rw [z]; exact (mm a).mp (by simp)))
      (fun b hb => by
        by_cases z : b = a
        · subst z; rw [upd_same]; simp
        · rw [upd_ne z]; exact hb)
      ⟨fun b hb => (mm b).mpr hb, fun b hb => .inl ((mm b).mp hb)⟩ (tf_upd g1.ok.tf)
    exact P.1 { c1 with H := upd c1.H a (.ins Cl dx (putF f v gs)), ρ := c1.ρ.set i (some (.own b (.obj cc (putN fn f) (putD fn dd f d)))), fp := fpSet c1.fp i (a :: (f3 ++ (g3 ++ jk))) } (g1.trans X.K X.mg g2) h1
  next => exact h1.elim
end
end PL
namespace PySem.W
open PySem PySem.Calls PyProof.Rows
end PySem.W
namespace PL
open PySem PySem.Spec PyProof.Rows L2
variable [HasT]
section
variable {X : Cx} {XE : XK} {k : Nat}
theorem cmpBack_of {pins : List (Addr × Obj)} {σ : L2.St} {Q : VK} {u : Value} {s' : Shared} (h : EP X pins σ Q u s') : PySem.W.CmpBack (EP X pins σ Q) u s' := by
  obtain ⟨z, H', I', rz, q⟩ := id h
  cases u with
  | notImplemented => cases z <;> first | (obtain ⟨t, e⟩ := rz; cases e) | cases rz
  | _ => exact h
structure InsV (H : Hp) (Cl : Addr) (v : V) : Prop where
  ex : ∃ a dx gs, v = .ref a ∧ H a = some (.ins Cl dx gs)
theorem own_bin {j : Nat} {op : Operator} {Cl f : Addr} {fd : FuncData} {ps : List Str} {sp : Sp} (C : Cc X XE k) (hs : PySem.W.findIn X.K (.ref Cl) (PySem.dunder op.info.2) = some (some (.ref f))) (hf : PySem.W.isFn X.K (.ref f) = true) (hc : PySem.W.selfFirst X.K Cl = true)
    (F : FnOk X.prog X.w X.K X.mg X.base (L2N.CX X.prog X.w) j f fd ps sp) (hj : j ≤ k) (hb : Binds X.K fd ps []) : OpR X (binaryOp op) (fun x y H Q => InsV H Cl x ∧ InsV H Cl y ∧ sp ([x, y] ++ []) H Q XE) := by
  intro pins s σ H x y v u Q I rx ry ⟨⟨a, dx, gs, ex, ha⟩, ⟨b, dy, gs', ey, hb'⟩, h⟩
  subst ex; subst ey
  cases rx
  cases ry
  obtain ⟨mA, J, _⟩ := ins_get I.hok ha
  obtain ⟨mB, J', _⟩ := ins_get I.hok hb'
  obtain ⟨od, J, _⟩ := J.look
  obtain ⟨od', J', _⟩ := J'.look
  obtain ⟨m, hF⟩ := I.fr
  refine PySem.W.binop_K hF I.ok.mod.kin J J'.type hc hs hf ?_
  refine thn (run_fn (us := [.ref a, .ref b]) (vs := [.ref a, .ref b]) (dvs := []) (ds := []) F (C.room.mono hj) hb .nil C.pas I (.cons rfl (.cons rfl .nil)) h) fun w s' hw => cmpBack_of hw
/-- in, not in by the class's own __contains__ -/
theorem own_in {j : Nat} {Cl f : Addr} {fd : FuncData} {ps : List Str} {sp : Sp} (C : Cc X XE k) (hs : PySem.W.findIn X.K (.ref Cl) "__contains__" = some (some (.ref f))) (hf : PySem.W.isFn X.K (.ref f) = true)
    (F : FnOk X.prog X.w X.K X.mg X.base (L2N.CX X.prog X.w) j f fd ps sp) (hj : j ≤ k) (hb : Binds X.K fd ps []) : OpR X (compareOp .In) (fun x y H Q => InsV H Cl y ∧ sp ([y, x] ++ []) H (fun v H' => ∃ r, v = .bl r ∧ Q (.bl r) H') XE) := by
  intro pins s σ H x y v u Q I rx ry ⟨⟨b, dy, gs', ey, hb'⟩, h⟩
  subst ey
  cases ry
  obtain ⟨mB, J', _⟩ := ins_get I.hok hb'
  obtain ⟨od', J', _⟩ := J'.look
  obtain ⟨m, hF⟩ := I.fr
  refine PySem.W.in_K hF I.ok.mod.kin J' hs hf ?_
  refine thn (run_fn (us := [.ref b, v]) (vs := [.ref b, x]) (dvs := []) (ds := []) F (C.room.mono hj) hb .nil C.pas I (.cons rfl (.cons rx .nil)) h) fun w s' hw => ?_
  obtain ⟨z, H', I', rz, r, ez, q⟩ := hw
  subst ez
  cases rz
  exact wpAny_truthy_bool ⟨.bl r, H', I', rfl, q⟩
def isObj (cn : Str) (ρ : Env) (r : R) : Prop := match peek ρ r with
  | some (.obj c _ _) => c = cn
  | _ => False
/-- a op b, a == b: the def's own answer -/
def wOwn (cn : Str) (fs : FS) (wa wb : WE) : WE := fun ρ Q Ep => wV wa ρ (fun r ρ1 => wV wb ρ1 (fun s ρ2 => isObj cn ρ2 r ∧ isObj cn ρ2 s ∧ toArgs ρ2 [r, s] fun args => ndS [r, s] = true ∧ fs (args ++ [].map .val) (fun z args' => Q z (backA [r, s] args' ρ2)) (fun y args' => Ep y (backA [r, s] args' ρ2))) Ep) Ep
def toB (f : Bool → Bool) (Q : R → Env → Prop) (ρ : Env) : R → Prop
  | .val (.bl b) => Q (.val (.bl (f b))) ρ
  | _ => False
def wOwnB (cn : Str) (f : Bool → Bool) (fs : FS) (wa wb : WE) : WE := fun ρ Q Ep => wV wa ρ (fun r ρ1 => wV wb ρ1 (fun s ρ2 => isObj cn ρ2 r ∧ isObj cn ρ2 s ∧ toArgs ρ2 [r, s] fun args => ndS [r, s] = true ∧ fs (args ++ [].map .val) (fun z args' => toB f Q (backA [r, s] args' ρ2) z) (fun y args' => Ep y (backA [r, s] args' ρ2))) Ep) Ep
/-- a in b -/
def wOwnIn (cn : Str) (f : Bool → Bool) (fs : FS) (wa wb : WE) : WE := fun ρ Q Ep => wV wa ρ (fun r ρ1 => wV wb ρ1 (fun s ρ2 => isObj cn ρ2 s ∧ toArgs ρ2 [s, r] fun args => ndS [s, r] = true ∧ fs (args ++ [].map .val) (fun z args' => toB f Q (backA [s, r] args' ρ2) z) (fun y args' => Ep y (backA [s, r] args' ρ2))) Ep) Ep
theorem isObj_ins {c : Cfg} {cn : Str} {Cl : Addr} {r : R} {v : V} (ok : Ok X.K X.mg c) (hC : X.mg cn = some (.ref Cl)) (rr : RRV X.K X.mg c r v) (h : isObj cn c.ρ r) : InsV c.H Cl v := by
  unfold isObj at h
  cases q : peek c.ρ r with
  | none => rw [q] at h; exact h.elim
  | some d =>
    rw [q] at h
    cases d with
    | obj cc fs ds =>
      have h' : cc = cn := h
      subst h'
      obtain ⟨a, C', dx, gs, rfl, hc, ha, _⟩ := (rr.see ok q).obj ok.sub
      rw [hC] at hc; cases hc
      exact ⟨a, dx, gs, rfl, ha⟩
    | _ => exact h.elim
theorem own_run {cn : Str} {Cl : Addr} {fs : FS} {a b : Expr} {wa wb : WE} {ta tb : TE} {r : R2} (hC : X.mg cn = some (.ref Cl)) (sa : SoE X XE ta wa) (sb : SoE X XE tb wb)
    (hr : ∀ x y H Q, InsV H Cl x → InsV H Cl y → spOf X.K X.mg fs 2 ([x, y] ++ []) H Q XE → r x y H Q) : SoE X XE (tOp r ta tb) (wOwn cn fs wa wb) := by
  intro c Qp Ep Q ok hw x k
  refine runV (e := a) sa ok hw x fun v c1 r1 g1 e1 rr1 h1 => ?_
  rw [← e1]
  refine runV (e := b) sb g1.ok h1 (x.go X.K X.mg g1 e1) fun u c2 r2 g2 e2 rr2 h2 => ?_
  obtain ⟨i1, i2, h3⟩ := h2
  have g12 := g1.trans X.K X.mg g2
  have rr1' := rr1.go g2 e2
  refine hr v u c2.H Q (isObj_ins g2.ok hC rr1' i1) (isObj_ins g2.ok hC rr2 i2) ?_
  exact call_core (rs := [r1, r2]) (vs := [v, u]) (dds := []) (dvs := []) g2.ok ⟨v, [u], rfl, rr1', u, [], rfl, rr2, rfl⟩ (fun _ => rfl) rfl h3 (x.go X.K X.mg g12 (e2.trans e1)) fun w c3 r3 g3 e3 rr3 q => k w c3 r3 (g12.trans X.K X.mg g3) (e3.trans (e2.trans e1)) (rr_go g12 rr3) q
theorem pd_own {j : Nat} {cn : Str} {op : Operator} {a b : Expr} {pos : Pos} {Cl f : Addr} {fd : FuncData} {ps : List Str} {fs : FS} {wa wb : WE} (C : Cc X XE k) (hC : X.mg cn = some (.ref Cl)) (hs : PySem.W.findIn X.K (.ref Cl) (PySem.dunder op.info.2) = some (some (.ref f))) (hf : PySem.W.isFn X.K (.ref f) = true) (hc : PySem.W.selfFirst X.K Cl = true)
    (F : FnOk X.prog X.w X.K X.mg X.base (L2N.CX X.prog X.w) j f fd ps (spOf X.K X.mg fs 2)) (hj : j ≤ k) (hb : Binds X.K fd ps []) (ha : PdE X XE a wa) (hb2 : PdE X XE b wb) : PdE X XE (.BinOp a op b pos) (wOwn cn fs wa wb) := by
  obtain ⟨ta, pa, sa⟩ := ha
  obtain ⟨tb, pb, sb⟩ := hb2
  exact ⟨_, pe_op (own_bin C hs hf hc F hj hb) pa pb, own_run (a := a) (b := b) hC sa sb fun x y H Q i1 i2 h => ⟨i1, i2, h⟩⟩
theorem toB_run {c c3 : Cfg} {f : Bool → Bool} {Qp : R → Env → Prop} {Q : VK} {r3 : R} {w : V} (g : Go X.K X.mg c c3) (e : c3.σ = c.σ) (rr : RR X.K X.mg c c3 r3 w) (q : toB f Qp c3.ρ r3)
    (k : ∀ v c' r, Go X.K X.mg c c' → c'.σ = c.σ → RR X.K X.mg c c' r v → Qp r c'.ρ → Q v c'.H) : ∃ b, w = .bl b ∧ Q (.bl (f b)) c3.H := by
  cases r3 with
  | val d =>
    cases d with
    | bl b => exact ⟨b, rr, k _ c3 (.val (.bl (f b))) g e rr_bl q⟩
    | _ => exact q.elim
  | _ => exact q.elim
theorem own_runIn {cn : Str} {Cl : Addr} {f : Bool → Bool} {fs : FS} {a b : Expr} {wa wb : WE} {ta tb : TE} {r : R2} (hC : X.mg cn = some (.ref Cl)) (sa : SoE X XE ta wa) (sb : SoE X XE tb wb)
    (hr : ∀ x y H (Q : VK), InsV H Cl y → spOf X.K X.mg fs 2 ([y, x] ++ []) H (fun v H' => ∃ r, v = .bl r ∧ Q (.bl (f r)) H') XE → r x y H Q) : SoE X XE (tOp r ta tb) (wOwnIn cn f fs wa wb) := by
  intro c Qp Ep Q ok hw x k
  refine runV (e := a) sa ok hw x fun v c1 r1 g1 e1 rr1 h1 => ?_
  rw [← e1]
  refine runV (e := b) sb g1.ok h1 (x.go X.K X.mg g1 e1) fun u c2 r2 g2 e2 rr2 h2 => ?_
  obtain ⟨i2, h3⟩ := h2
  have g12 := g1.trans X.K X.mg g2
  have rr1' := rr1.go g2 e2
  refine hr v u c2.H Q (isObj_ins g2.ok hC rr2 i2) ?_
  exact call_core (Qp := fun z ρ => toB f Qp ρ z) (rs := [r2, r1]) (vs := [u, v]) (dds := []) (dvs := []) g2.ok ⟨u, [v], rfl, rr2, v, [], rfl, rr1', rfl⟩ (fun _ => rfl) rfl h3 (x.go X.K X.mg g12 (e2.trans e1)) fun w c3 r3 g3 e3 rr3 q => toB_run (g12.trans X.K X.mg g3) (e3.trans (e2.trans e1)) (rr_go g12 rr3) q k
theorem pd_ownIn {j : Nat} {cn : Str} {a b : Expr} {pos : Pos} {Cl f : Addr} {fd : FuncData} {ps : List Str} {fs : FS} {wa wb : WE} (C : Cc X XE k) (hC : X.mg cn = some (.ref Cl)) (hs : PySem.W.findIn X.K (.ref Cl) "__contains__" = some (some (.ref f))) (hf : PySem.W.isFn X.K (.ref f) = true)
    (F : FnOk X.prog X.w X.K X.mg X.base (L2N.CX X.prog X.w) j f fd ps (spOf X.K X.mg fs 2)) (hj : j ≤ k) (hb : Binds X.K fd ps []) (ha : PdE X XE a wa) (hb2 : PdE X XE b wb) (hm : behindInMarks .In b = false := by rfl) : PdE X XE (.Compare a [.In] [b] pos) (wOwnIn cn id fs wa wb) := by
  obtain ⟨ta, pa, sa⟩ := ha
  obtain ⟨tb, pb, sb⟩ := hb2
  exact ⟨_, pe_cmpR (own_in C hs hf F hj hb) pa pb hm, own_runIn (a := a) (b := b) hC sa sb fun x y H Q i2 h => ⟨i2, h⟩⟩
/-- a slot more at the end, that owns what was just made -/
theorem ext_ok {c : Cfg} {d : D} {v : V} {a : Addr} (ok : Ok X.K X.mg c) (o : Own X.K X.mg c.F c.H d v [a]) (h1 : c.F a = none) (h2 : c.H a ≠ none) (h3 : ∀ i, a ∉ c.fp i) : Ok X.K X.mg { c with σ := c.σ ++ [some v], ρ := c.ρ ++ [some (.own false d)], fp := fpSet c.fp c.ρ.length [a] } := by
  have hl := ok.len
  have beyond : ∀ i, c.ρ.length ≤ i → c.fp i = [] := fun i hi => ok.non i fun e z => by rw [List.getElem?_eq_none hi] at z; cases z
  refine ⟨ok.tabs, ok.sub, by simp [hl], fun i e q => ?_, fun i q => ?_, fun i b hb => ?_, fun i j b q1 q2 => ?_, ok.tf⟩
  · by_cases hi : i < c.ρ.length
    · have q' : (c.ρ ++ [some (.own false d)])[i]? = some (some e) := q
      rw [List.getElem?_append_left hi] at q'
      obtain ⟨w, hw, eo⟩ := ok.slot i e q'
      refine ⟨w, by show (c.σ ++ [some v])[i]? = _; rw [List.getElem?_append_left (by omega)]; exact hw, ?_⟩
      show EntOk X.K X.mg c.F c.H e w (fpSet c.fp c.ρ.length [a] i)
      rw [fpSet_ne (by omega)]; exact eo
    · have q' : (c.ρ ++ [some (.own false d)])[i]? = some (some e) := q
      rw [List.getElem?_append_right (by omega)] at q'
      by_cases he : i = c.ρ.length
      · subst he
        simp at q'
        subst q'
        refine ⟨v, by show (c.σ ++ [some v])[c.ρ.length]? = _; rw [hl]; simp, ?_⟩
        show Own X.K X.mg c.F c.H d v (fpSet c.fp c.ρ.length [a] c.ρ.length)
        rw [fpSet_same]; exact o
      · rw [List.getElem?_eq_none (by simp; omega)] at q'; cases q'
  · show fpSet c.fp c.ρ.length [a] i = []
    by_cases he : i = c.ρ.length
    · subst he
      exact absurd (show (c.ρ ++ [some (.own false d)])[c.ρ.length]? = some (some (.own false d)) by simp) (q _)
    · rw [fpSet_ne he]
      refine ok.non i fun e z => q e ?_
      have hi : i < c.ρ.length := (List.getElem?_eq_some_iff.mp z).1
      show (c.ρ ++ [some (.own false d)])[i]? = _
      rw [List.getElem?_append_left hi]; exact z
  · replace hb : b ∈ fpSet c.fp c.ρ.length [a] i := hb
    by_cases he : i = c.ρ.length
    · subst he
      rw [fpSet_same] at hb
      have : b = a := by simpa using hb
      subst this
      exact ⟨h1, h2⟩
    · rw [fpSet_ne he] at hb
      exact ok.out i b hb
  · replace q1 : b ∈ fpSet c.fp c.ρ.length [a] i := q1
    replace q2 : b ∈ fpSet c.fp c.ρ.length [a] j := q2
    by_cases hi : i = c.ρ.length
    · by_cases hj : j = c.ρ.length
      · rw [hi, hj]
      · rw [hi, fpSet_same] at q1
        rw [fpSet_ne hj] at q2
        have : b = a := by simpa using q1
        subst this
        exact absurd q2 (h3 j)
    · rw [fpSet_ne hi] at q1
      by_cases hj : j = c.ρ.length
      · rw [hj, fpSet_same] at q2
        have : b = a := by simpa using q2
        subst this
        exact absurd q1 (h3 i)
      · rw [fpSet_ne hj] at q2
        exact ok.disj i j b q1 q2
theorem toArgs_ext {ρ : Env} {e : Option Ent} : ∀ {rs : List R} {k : List Ent → Prop}, (∀ r ∈ rs, ∀ j, r = .slot j → j < ρ.length) → (toArgs (ρ ++ [e]) rs k ↔ toArgs ρ rs k)
  | [], _, _ => Iff.rfl
  | r :: rs, k, h => by
    have ea : argOf (ρ ++ [e]) r = argOf ρ r := by
      cases r with
      | slot j =>
        have := List.getElem?_append_left (l₂ := [e]) (h _ List.mem_cons_self j rfl)
        simp only [argOf, this]
      | _ => rfl
    unfold toArgs
    rw [ea]
    split
    · exact toArgs_ext fun r hr => h r (List.mem_cons_of_mem _ hr)
    · exact Iff.rfl
theorem rrvs_lt {c : Cfg} (ok : Ok X.K X.mg c) : ∀ {rs : List R} {vs : List V}, RRVs X.K X.mg c rs vs → ∀ r ∈ rs, ∀ j, r = .slot j → j < c.ρ.length
  | [], _, _, r, h, _, _ => by cases h
  | a :: rs, _, ⟨x, t, rfl, h1, h2⟩, r, h, j, e => by
    rcases List.mem_cons.mp h with rfl | h
    · subst e
      have h' : c.σ[j]? = some (some x) := h1
      have := (List.getElem?_eq_some_iff.mp h').1
      rw [ok.len]; exact this
    · exact rrvs_lt ok h2 r h j e
theorem rrvs_ext {c : Cfg} {v : V} {e : Option Ent} {fp : Nat → List Addr} {H : Hp} : ∀ {rs : List R} {vs : List V}, RRVs X.K X.mg c rs vs → RRVs X.K X.mg { c with H := H, σ := c.σ ++ [some v], ρ := c.ρ ++ [e], fp := fp } rs vs
  | [], _, h => h
  | a :: rs, _, ⟨x, t, ex, h1, h2⟩ => by
    refine ⟨x, t, ex, ?_, rrvs_ext h2⟩
    cases a with
    | val d => exact h1
    | tmp d => exact h1
    | slot j =>
      have h' : c.σ[j]? = some (some x) := h1
      have := (List.getElem?_eq_some_iff.mp h').1
      show (c.σ ++ [some v])[j]? = _
      rw [List.getElem?_append_left this]; exact h'
theorem make_run {cn : Str} {es : List Expr} {Cl : Addr} {fs : FS} {n : Nat} {dds : List D} {dvs : List V} {w : WR} {t : TA} (hC : X.mg cn = some (.ref Cl)) (hD : ∀ F, RepL X.K X.mg F dds dvs) (hl : es.length + 1 + dds.length = n)
    (s : ∀ (c : Cfg) (Qp : List R → Env → Prop) (Ep : Ex → Env → Prop) (Q : List V → Hp → Prop), Ok X.K X.mg c → w c.ρ Qp Ep → XOk X.K X.mg c Ep XE → (∀ vs c' rs, Go X.K X.mg c c' → c'.σ = c.σ → RRVs X.K X.mg c' rs vs → rs.length = es.length → Qp rs c'.ρ → Q vs c'.H) → t c.σ c.H Q) :
    SoE X XE (tMake Cl (spOf X.K X.mg fs n) dvs XE t) (wMake cn fs dds w) := by
  intro c Qp Ep Q ok hw x k
  refine s c _ Ep _ ok hw x fun vs c1 rs g1 e1 r1 l1 h1 => ?_
  intro a dx ha hdx ne
  -- the new instance
  have s1 : Step c1.F c1.H c1.F (upd c1.H dx (.own a)) := Step.new g1.ok.sub hdx
  have ha' : upd c1.H dx (.own a) a = none := by rw [upd_ne (Ne.symm ne)]; exact ha
  have s2 : Step c1.F (upd c1.H dx (.own a)) c1.F (upd (upd c1.H dx (.own a)) a (.ins Cl dx [])) := Step.new s1.sub ha'
  have gs := (s1.trans s2).go g1.ok
  have g2 := g1.trans X.K X.mg gs
  have aF : c1.F a = none := fresh_F g1.ok.sub ha
  have afp : ∀ i, a ∉ c1.fp i := fun i hi => (g1.ok.out i a hi).2 ha
  have okx := ext_ok (c := { c1 with F := c1.F, H := upd (upd c1.H dx (.own a)) a (.ins Cl dx []) }) (d := .obj cn [] []) (v := .ref a) (a := a) gs.ok ⟨a, Cl, dx, [], [], [], rfl, rfl, by simp, hC, upd_same, rfl, ⟨rfl, rfl⟩, fun _ h => by cases h⟩ aF (by show upd _ a _ a ≠ none; rw [upd_same]; simp) afp
  let cx : Cfg := { c1 with F := c1.F, H := upd (upd c1.H dx (.own a)) a (.ins Cl dx []), σ := c1.σ ++ [some (.ref a)], ρ := c1.ρ ++ [some (.own false (.obj cn [] []))], fp := fpSet c1.fp c1.ρ.length [a] }
  have lt := rrvs_lt g1.ok r1
  have frx : ∀ F' H', Frm cx.fp cx.F cx.H F' H' → Frm c1.fp c1.F c1.H F' H' := fun F' H' f => ⟨f.mono, fun b q1 q2 q3 q4 => by
    have hba : b ≠ a := fun z => by subst z; exact q2 ha
    have hbd : b ≠ dx := fun z => by subst z; exact q2 hdx
    have eH : cx.H b = c1.H b := by show upd (upd c1.H dx (.own a)) a _ b = _; rw [upd_ne hba, upd_ne hbd]
    have := f.keep b q1 (by rw [eH]; exact q2) (fun i hi => by
      have hi' : b ∈ fpSet c1.fp c1.ρ.length [a] i := hi
      by_cases he : i = c1.ρ.length
      · rw [he, fpSet_same] at hi'
        exact hba (by simpa using hi')
      · rw [fpSet_ne he] at hi'
        exact q3 i hi') (by rw [eH]; exact q4)
    rw [eH] at this; exact this, fun b q => by
    have hba : b ≠ a := fun z => by subst z; exact q ha
    have hbd : b ≠ dx := fun z => by subst z; exact q hdx
    refine f.grow b ?_
    show upd (upd c1.H dx (.own a)) a _ b ≠ none
    rw [upd_ne hba, upd_ne hbd]; exact q⟩
  have dropL : ∀ c2 : Cfg, Go X.K X.mg cx c2 → c2.σ = c1.σ ++ [some (.ref a)] → Go X.K X.mg c1 { c2 with σ := c1.σ, ρ := c2.ρ.take c1.ρ.length, fp := fpSet c2.fp c1.ρ.length [] } := fun c2 gg eσ2 => by
    have len2 : c1.ρ.length = c1.σ.length := g1.ok.len
    have l3 : c2.ρ.length = c1.ρ.length + 1 := by
      rw [gg.ok.len, eσ2]; simp [len2]
    have sub : ∀ i b, b ∈ fpSet c2.fp c1.ρ.length [] i → i ≠ c1.ρ.length ∧ b ∈ c2.fp i := fun i b hb => by
      by_cases he : i = c1.ρ.length
      · rw [he, fpSet_same] at hb; cases hb
      · rw [fpSet_ne he] at hb; exact ⟨he, hb⟩
    refine ⟨⟨gg.ok.tabs, gg.ok.sub, by simp [l3, ← len2], fun i y z => ?_, fun i z => ?_, fun i b hb => gg.ok.out i b (sub i b hb).2, fun i j b h1 h2 => gg.ok.disj i j b (sub i b h1).2 (sub j b h2).2, gg.ok.tf⟩, frx _ _ gg.fr, fun i b hb => ?_, fun i y z => ?_⟩
    · have z' : (c2.ρ.take c1.ρ.length)[i]? = some (some y) := z
      have hi : i < c1.ρ.length := by
        have := (List.getElem?_eq_some_iff.mp z').1
        simp at this; omega
      rw [List.getElem?_take_of_lt hi] at z'
      obtain ⟨w', hw', eo⟩ := gg.ok.slot i y z'
      have hw2 : c2.σ[i]? = some (some w') := hw'
      rw [eσ2, List.getElem?_append_left (by omega)] at hw2
      refine ⟨w', hw2, ?_⟩
      show EntOk X.K X.mg c2.F c2.H y w' (fpSet c2.fp c1.ρ.length [] i)
      rw [fpSet_ne (by omega)]
      exact eo
    · show fpSet c2.fp c1.ρ.length [] i = []
      by_cases he : i = c1.ρ.length
      · rw [he, fpSet_same]
      · rw [fpSet_ne he]
        refine gg.ok.non i fun y z2 => ?_
        have hi : i < c1.ρ.length := by
          have := (List.getElem?_eq_some_iff.mp z2).1
          omega
        exact z y (by show (c2.ρ.take c1.ρ.length)[i]? = _; rw [List.getElem?_take_of_lt hi]; exact z2)
    · obtain ⟨_, hb⟩ := sub i b hb
      rcases gg.orig i b hb with ⟨j, hj⟩ | h
      · have hj' : b ∈ fpSet c1.fp c1.ρ.length [a] j := hj
        by_cases he : j = c1.ρ.length
        · rw [he, fpSet_same] at hj'
          have : b = a := by simpa using hj'
          exact .inr (by rw [this]; exact ha)
        · rw [fpSet_ne he] at hj'
          exact .inl ⟨j, hj'⟩
      · refine .inr ?_
        cases q' : c1.H b with
        | none => rfl
        | some o =>
          have hba : b ≠ a := fun z => by subst z; rw [ha] at q'; cases q'
          have hbd : b ≠ dx := fun z => by subst z; rw [hdx] at q'; cases q'
          have h2 : upd (upd c1.H dx (.own a)) a (.ins Cl dx []) b = none := h
          rw [upd_ne hba, upd_ne hbd, q'] at h2
          cases h2
    · have hi : i < c1.ρ.length := (List.getElem?_eq_some_iff.mp z).1
      obtain ⟨d', b1, b2, b3⟩ := gg.bor i y (by show (c1.ρ ++ [some (.own false (.obj cn [] []))])[i]? = _; rw [List.getElem?_append_left hi]; exact z)
      refine ⟨d', by show (c2.ρ.take c1.ρ.length)[i]? = _; rw [List.getElem?_take_of_lt hi]; exact b1, ?_, rfl⟩
      show Grw (c1.fp i) (fpSet c2.fp c1.ρ.length [] i) c1.H
      have b2' : Grw (fpSet c1.fp c1.ρ.length [a] i) (c2.fp i) (upd (upd c1.H dx (.own a)) a (.ins Cl dx [])) := b2
      rw [fpSet_ne (by omega)] at b2'
      rw [fpSet_ne (by omega)]
      exact ⟨b2'.1, fun b hb => by
        rcases b2'.2 b hb with q2 | q2
        · exact .inl q2
        · refine .inr ?_
          by_cases z1 : b = a
          · rw [z1]; exact ha
          · by_cases z2 : b = dx
            · rw [z2]; exact hdx
            · rw [upd_ne z1, upd_ne z2] at q2; exact q2⟩
  have len2 : c1.ρ.length = c1.σ.length := g1.ok.len
  have nn : (c1.ρ ++ [some (.own false (.obj cn [] []))])[c1.ρ.length]? = some (some (.own false (.obj cn [] []))) := by simp
  refine call_coreP (fs := fs) (n := n) (c := cx) (rs := .slot c1.ρ.length :: rs) (vs := .ref a :: vs) (Xp := fun y args' => Ep y (backA rs args'.tail c1.ρ)) (Pp := fun r args' => match r, args' with
      | .val .non, .own true d :: rest => frz d (Qp (.val d) (backA rs rest c1.ρ))
      | _, _ => False) okx
    ⟨.ref a, vs, rfl, (by show (c1.σ ++ [some (.ref a)])[c1.ρ.length]? = _; rw [len2]; simp), rrvs_ext (c := c1) r1⟩ hD (by rw [List.length_cons, l1]; omega) ?_ ?_ ?_
  · show (match argOf (c1.ρ ++ [some (.own false (.obj cn [] []))]) (.slot c1.ρ.length) with | some b => _ | none => False)
    have ea : argOf (c1.ρ ++ [some (.own false (.obj cn [] []))]) (.slot c1.ρ.length) = some (.own true (.obj cn [] [])) := by
      show (match (c1.ρ ++ [some (.own false (.obj cn [] []))])[c1.ρ.length]? with
        | some (some (.val d)) => some (Ent.val d)
        | some (some (.own _ d)) => some (Ent.own true d)
        | _ => none) = _
      rw [nn]
    rw [ea]
    show toArgs (c1.ρ ++ _) rs _
    rw [toArgs_ext lt]
    refine (show ∀ (rs' : List R) (K1 K2 : List Ent → Prop), (∀ as, K1 as → K2 as) → toArgs c1.ρ rs' K1 → toArgs c1.ρ rs' K2 from fun rs' => ?_) rs _ _ (fun as q => ?_) h1
    · induction rs' with
      | nil => exact fun K1 K2 i q => i _ q
      | cons r rs' ih =>
        intro K1 K2 i q
        unfold toArgs at q ⊢
        split at q
        · exact ih _ _ (fun as => i _) q
        · exact q.elim
    · obtain ⟨q1, q2⟩ := q
      have e1 : ndS (.slot c1.ρ.length :: rs) = true := by
        have : rs.any (isSlot c1.ρ.length) = false := List.any_eq_false.mpr fun r hr => by
          cases r with
          | slot j =>
            have := lt _ hr j rfl
            simp [isSlot]; omega
          | _ => simp [isSlot]
        simp [ndS, this, q1]
      exact ⟨e1, q2⟩
  · intro y cls dd c' args' g e o xn eρ q
    have eσ3 : c'.σ = c1.σ ++ [some (.ref a)] := e
    refine x y cls dd { c' with σ := c1.σ, ρ := c'.ρ.take c1.ρ.length, fp := fpSet c'.fp c1.ρ.length [] } (g1.trans X.K X.mg (dropL _ g eσ3)) e1 o ?_ ?_
    · intro b eb
      obtain ⟨n1, n2, n3⟩ := xn b eb
      refine ⟨?_, n2, fun j hj => ?_⟩
      · cases q' : c.H b with
        | none => rfl
        | some u => exact absurd n1 (g2.fr.grow b (by rw [q']; simp))
      · have hj' : b ∈ fpSet c'.fp c1.ρ.length [] j := hj
        by_cases he : j = c1.ρ.length
        · rw [he, fpSet_same] at hj'; cases hj'
        · rw [fpSet_ne he] at hj'; exact n3 j hj'
    show Ep y (c'.ρ.take c1.ρ.length)
    have tk : c'.ρ.take c1.ρ.length = backA rs args'.tail c1.ρ := by
      apply List.ext_getElem?
      intro j
      by_cases hj : j < c1.ρ.length
      · rw [List.getElem?_take_of_lt hj, eρ, backA_get, backA_get]
        show ((c1.ρ ++ [some (.own false (.obj cn [] []))])[j]?).map _ = _
        rw [List.getElem?_append_left hj]
        have ef : backE (.slot c1.ρ.length :: rs) args' j = backE rs args'.tail j := by
          funext z
          have : findOwn (.slot c1.ρ.length :: rs) args' j = findOwn rs args'.tail j := findOwn_tl (by omega)
          unfold backE
          rw [this]
        rw [ef]
      · have l3 : c'.ρ.length = c1.ρ.length + 1 := by
          rw [g.ok.len, eσ3]; simp [len2]
        rw [List.getElem?_eq_none (by simp; omega), List.getElem?_eq_none (by rw [backA_len]; omega)]
    rw [tk]; exact q
  · intro v c' r args' g e rr eρ p
    cases r with
    | tmp d => exact p.elim
    | slot i => exact p.elim
    | val d0 =>
      cases args' with
      | nil => cases d0 <;> exact p.elim
      | cons a0 rest =>
        cases a0 with
        | val d => cases d0 <;> exact p.elim
        | own b d =>
          cases b with
          | false => cases d0 <;> exact p.elim
          | true =>
            cases d0 with
            | non =>
              refine ⟨rr, ?_⟩
              have p' : frz d (Qp (.val d) (backA rs rest c1.ρ)) := p
              have hn' : c'.ρ[c1.ρ.length]? = some (some (.own false d)) := by
                rw [eρ, backA_get]
                show ((c1.ρ ++ [some (.own false (.obj cn [] []))])[c1.ρ.length]?).map _ = _
                rw [nn]
                simp [backE, findOwn]
              obtain ⟨q, v', F', hv', rp, g'⟩ := freeze_slot g.ok hn' p'
              have hva : v' = .ref a := by
                rw [e] at hv'
                have hv2 : (c1.σ ++ [some (V.ref a)])[c1.ρ.length]? = some (some v') := hv'
                rw [len2] at hv2
                simp at hv2
                exact hv2.symm
              subst hva
              have gg := g.trans X.K X.mg g'
              have eσ3 : c'.σ = c1.σ ++ [some (.ref a)] := e
              have l3 : c'.ρ.length = c1.ρ.length + 1 := by
                rw [g.ok.len, eσ3]; simp [len2]
              have tk : (c'.ρ.set c1.ρ.length (some (.val d))).take c1.ρ.length = backA rs rest c1.ρ := by
                apply List.ext_getElem?
                intro j
                by_cases hj : j < c1.ρ.length
                · rw [List.getElem?_take_of_lt hj, List.getElem?_set_ne (by omega), eρ, backA_get, backA_get]
                  show ((c1.ρ ++ [some (.own false (.obj cn [] []))])[j]?).map _ = _
                  rw [List.getElem?_append_left hj]
                  have ef : backE (.slot c1.ρ.length :: rs) (.own true d :: rest) j = backE rs rest j := by
                    funext y
                    have : findOwn (.slot c1.ρ.length :: rs) (.own true d :: rest) j = findOwn rs rest j := by
                      show (if c1.ρ.length = j then some d else findOwn rs rest j) = _
                      rw [if_neg (by omega)]
                    unfold backE
                    rw [this]
                  rw [ef]
                · rw [List.getElem?_eq_none (by simp; omega), List.getElem?_eq_none (by rw [backA_len]; omega)]
              have gT := dropL _ gg eσ3
              exact k (.ref a) { c' with F := F', σ := c1.σ, ρ := (c'.ρ.set c1.ρ.length (some (.val d))).take c1.ρ.length, fp := fpSet (fpSet c'.fp c1.ρ.length []) c1.ρ.length [] } (.val d) (g1.trans X.K X.mg gT) e1 rp (by show Qp (.val d) ((c'.ρ.set c1.ρ.length (some (.val d))).take c1.ρ.length); rw [tk]; exact q)
            | _ => exact p.elim
theorem pd_make {j : Nat} {cn : Str} {Cl f : Addr} {fd : FuncData} {ps : List Str} {p pos : Pos} {e : Expr} {es : List Expr} {fs : FS} {dds : List D} {dvs : List V} {ds : List Value} {w : WR} (C : Cc X XE k) (M : Mk X.K Cl f) (F : FnOk X.prog X.w X.K X.mg X.base (L2N.CX X.prog X.w) j f fd ps (spOf X.K X.mg fs ps.length)) (hj : j + 1 ≤ k)
    (hC : X.mg cn = some (.ref Cl)) (hb : Binds X.K fd ps ds) (hd : Vals dvs ds) (hD : ∀ F, RepL X.K X.mg F dds dvs) (ha : PdV X XE (e :: es) w) (hl : (e :: es).length + 1 + dds.length = ps.length := by rfl)
    (gl : Gl X cn := by rfl) (hdb : (cn == ("__debug__" : Str)) = false := by decide) (he : starEach (e :: es) X.env = (false, eval e X.env) :: starEach es X.env := by rfl) (hpl : (backTo pos (starEach es X.env)).any (·.1) = false := by rfl) :
    PdE X XE (.Call (.Name cn p) (e :: es) [] pos) (wMake cn fs dds w) := by
  obtain ⟨t, pa, s⟩ := ha
  exact ⟨_, pe_make (E := XE) M F (C.room.mono hj) gl hC hb hd C.pas pa hdb he hpl, make_run (es := e :: es) hC hD hl s⟩
end
end PL
namespace PySem
theorem pl_meets_enumerate_new1B {v : Value} {o : Obj} {H : Heap → Prop} (B : Begins v o H) :
    Meets (Builtin.«enumerate.__new__» ⟨[.type "enumerate", v], []⟩) (fun _ R s => H s.heap ∧
      R (.ok (.ret (.ref (s.heap.push o).objs.size))) { s with heap := (s.heap.push o).push { cls := .type "enumerate", data := .fields #[.none, .bool false, .ref s.heap.objs.size, rawInt 0, .none, .none] } }) :=
  .of_wp fun prog w A R s h => by
    obtain ⟨hp, g, d, tk, os⟩ := s; obtain ⟨h1, h⟩ := h
    have hsub := sub_enumerate
    have q1 : ∀ {A' : Around} {E : Value → Shared → Prop} {Q : Value → Shared → Prop}, Q (.ref hp.objs.size) ⟨hp.push o, g, d, tk, os⟩ → wpAny (model prog w) A' (pyIter v) Q E ⟨hp, g, d, tk, os⟩ :=
      fun q => B.iter prog w _ _ ⟨hp, g, d, tk, os⟩ _ h1 q
    wp_walk using q1
    refine wpAny_stack_any fun st => wpAny_pure ?_
    split
    · rename_i c _ _ _ _ _
      cases (c == Value.type "enumerate")
      · wp_walk using q1
        exact ⟨_, rfl, h⟩
      · wp_walk using q1
        exact ⟨_, rfl, h⟩
    · wp_walk using q1
      exact ⟨_, rfl, h⟩
section
variable {prog : Program} {w : World} {A : Around} {E : Value → Shared → Prop} {s : Shared}
theorem pl_enum1_begins {v : Value} {o : Obj} {H : Heap → Prop} {Q : Value → Shared → Prop} (B : Begins v o H) (h1 : H s.heap)
    (h : ∀ h', IsEnum h' (s.heap.objs.size + 1) s.heap.objs.size 0 .none → h'.get? s.heap.objs.size = some o → h'.objs.size = s.heap.objs.size + 2 →
      (∀ b o, s.heap.get? b = some o → h'.get? b = some o) → Q (.ref (s.heap.objs.size + 1)) { s with heap := h' }) :
    wpAny (model prog w) A (call (.type "enumerate") [v]) Q E s := by
  refine callType_new F.called_enumerate (by decide) (F.typeCall_enumerate_1 _) (F.newCall_enumerate_1 _) (fun obj => F.args_object_init_2 obj _) F.entry_enumerate_new
    (pl_meets_enumerate_new1B B) ⟨h1, ?_⟩
  have hz : (s.heap.push o).objs.size = s.heap.objs.size + 1 := Heap.size_push ..
  show _ ∧ _
  rw [hz]
  have he : IsEnum ((s.heap.push o).push { cls := .type "enumerate", data := .fields #[.none, .bool false, .ref s.heap.objs.size, rawInt 0, .none, .none] }) (s.heap.objs.size + 1) s.heap.objs.size 0 .none := by
    have := Heap.get?_push_size (s.heap.push o) (o := { cls := .type "enumerate", data := .fields #[.none, .bool false, .ref s.heap.objs.size, rawInt 0, .none, .none] }) rfl
    rw [hz] at this; exact this
  refine ⟨⟨_, he, rfl⟩, h _ he (Heap.get?_push_of_some _ (Heap.get?_push_size _ B.free)) (by rw [Heap.size_push, hz]) fun b o x => Heap.get?_push_of_some _ (Heap.get?_push_of_some _ x)⟩
end
end PySem
namespace PL
open PySem PySem.Spec PyProof.Rows L2
variable [HasT]
/-- the tuple at a, each item in a new pair -/
def IteT (K : PySem.W.Frag) (a : Addr) : It :=
  ⟨fun i H => ∃ (xs : List V) (x : V), SqT K H a xs ∧ xs[i]? = some x, fun i H v H' => ∃ T x, v = .ref T ∧ H T = none ∧ H' = upd H T (.tup [.int (i : Nat), x]) ∧ ∀ xs, SqT K H a xs → xs[i]? = some x, fun i H => ∃ xs : List V, SqT K H a xs ∧ xs.length ≤ i⟩
theorem turn_enumT {P : Program} {w : World} {K : PySem.W.Frag} {elts : List Expr} {kk : Nat} {tpos : Pos} (a e it : Addr) :
    Turn P w K (.Tuple elts kk tpos) (IteT K a) [e, it] e (fun i h => (∃ old, IsEnum h e it ((i : Nat) : Int) old) ∧ h.IsTupleIter it a i ∧ e ≠ it) where
  mem := by simp
  obj := fun i h st b hb => by
    obtain ⟨⟨old, he⟩, ⟨o, ho, hc, hd⟩, _⟩ := st
    have e' : b = e ∨ b = it := by simpa using hb
    rcases e' with z | z
    · rw [z]; exact ⟨_, he, fun v q => nomatch q⟩
    · rw [z]; exact ⟨o, ho, fun v q => by rw [hd] at q; cases q⟩
  keep := fun i h h' st k => let ⟨⟨old, he⟩, hi, hne⟩ := st; ⟨⟨old, k e (by simp) _ he⟩, hi.at fun o q => k it (by simp) o q, hne⟩
  item := by
    intro X hP hw hK hc i pins s σ H E I hf st hg
    subst hP hw hK
    obtain ⟨⟨old, he⟩, hit, hne⟩ := st
    obtain ⟨xs, x, hq, hx⟩ := hg
    obtain ⟨its, rv, p, hz⟩ := I.tuple hq
    obtain ⟨u, hu, ru⟩ := rv.get hx
    have hta : s.heap.IsTuple a its.toArray := p
    have hel : e < s.heap.objs.size := Heap.lt_size he
    have hil : it < s.heap.objs.size := by obtain ⟨_, q, _⟩ := hit; exact Heap.lt_size q
    have hea : e ≠ a := fun z => by
      subst z
      obtain ⟨o, h1, h2, _⟩ := hta
      rw [show s.heap.get? e = _ from he] at h1; cases h1
      exact absurd h2 (by simp)
    have hia : it ≠ a := fun z => by
      subst z
      obtain ⟨o, h1, h2, _⟩ := hta
      obtain ⟨o', h3, h4, _⟩ := hit
      rw [h1] at h3; cases h3
      rw [h2] at h4
      exact absurd h4 (by simp)
    refine wpAny_pyNext_enum_itemD (Draws.tuple (prog := X.prog) (w := X.w) (A := X.A.in1) (show X.A.in1.handled = none from I.ok.hd hc) it a (Ne.symm hia) its.toArray) he ⟨hit, hta⟩ (by
      have := (List.getElem?_eq_some_iff.mp hu).1
      simpa using this) hne (by simp [hne, hea]) fun v h' tk hv ho hst' hT hsz hk => ?_
    have hvu : v = u := by
      have hv' : its[i]? = some v := by simpa using hv
      rw [hu] at hv'; exact (Option.some.inj hv').symm
    subst hvu
    refine ⟨_, rfl, wpAny_letOwnedTupleGo_enum (s := { s with heap := h', toks := tk + 1 }) ho fun h'' he' sb => ?_⟩
    have hT2 : h''.get? s.heap.objs.size = some { cls := .type "tuple", data := .seq #[.int i tk, v] } := (sb.2 _ (Nat.ne_of_gt hel)).trans hT
    have new : ObjOk X.prog X.w (upd H s.heap.objs.size (.tup [.int (i : Nat), x])) h'' s.heap.objs.size (.tup [.int (i : Nat), x]) :=
      ⟨by show 2 ≤ sizeLine; decide, [.int i tk, v], .cons ⟨_, rfl⟩ (.cons ru .nil), ⟨_, hT2, rfl, _, rfl⟩⟩
    have I1 : Inv X pins σ (upd H s.heap.objs.size (.tup [.int (i : Nat), x])) { s with heap := h'', toks := tk + 1 } :=
      I.turnedNew (ch := [e, it]) (fun b ob hb q => (sb.2 b (fun z => hb (by simp [z]))).trans (hk b ob (fun z => hb (by simp [z])) (fun z => hb (by simp [z])) q)) hf (Nat.le_refl _) new
    refine ⟨.ref s.heap.objs.size, _, I1, rfl, ⟨_, x, rfl, I.hok.fresh (Nat.le_refl _), rfl, fun ys hy => by rw [I.tuple_inj hy hq]; exact hx⟩, ⟨⟨v, ?_⟩, hst'.1.at fun o q => (sb.2 it (Ne.symm hne)).trans q, hne⟩, fun b hb => ?_⟩
    · have e1 : ((i + 1 : Nat) : Int) = (i : Int) + 1 := by omega
      rw [e1]; exact he'
    · have hb' : b < s.heap.objs.size := by
        have e' : b = e ∨ b = it := by simpa using hb
        rcases e' with z | z
        · rw [z]; exact hel
        · rw [z]; exact hil
      rw [upd_ne (Nat.ne_of_lt hb')]
      exact (hf b hb).1
  done := by
    intro X hP hw hK hc i pins s σ H E I hf st hg
    subst hP hw hK
    obtain ⟨⟨old, he⟩, hit, hne⟩ := st
    obtain ⟨xs, hq, hx⟩ := hg
    obtain ⟨its, rv, p, hz⟩ := I.tuple hq
    have hta : s.heap.IsTuple a its.toArray := p
    obtain ⟨f0, f1, f2, f3, f4, f5⟩ := hf it (by simp)
    have hl := rv.length
    have hia : it ≠ a := fun z => by
      subst z
      obtain ⟨o, h1, h2, _⟩ := hta
      obtain ⟨o', h3, h4, _⟩ := hit
      rw [h1] at h3; cases h3
      rw [h2] at h4
      exact absurd h4 (by simp)
    have D : Draws X.prog X.w X.A.in1 it [it, a] i (fun _ _ => False) (fun j h => j = i ∧ h.IsTupleIter it a i ∧ h.IsTuple a its.toArray) :=
      { live := fun _ _ st => let ⟨o, ho, _⟩ := st.2.1; ⟨o, ho⟩
        frame := fun _ _ _ st hk => ⟨st.1, st.2.1.at fun o e => hk it (by simp) o e, st.2.2.at fun o e => hk a (by simp) o e⟩
        item := fun j s Q E hj st _ => absurd st.1 (Nat.ne_of_lt hj)
        done := fun s Q E st hE => wpAny_nextOf_tuple_end (show X.A.in1.handled = none from I.ok.hd hc) st.2.1 st.2.2 (by simp; omega) hE }
    exact wpAny_pyNext_enum_endD D he ⟨rfl, hit, hta⟩ fun h' eb => ⟨rfl, I.turned (t' := s.toks) (fun b o hb q => eb b o hb q) f0 f1 f3 f4 f5⟩
  self := fun A i s Q E st h => let ⟨⟨_, he⟩, _⟩ := st; wpAny_pyIter_enum he h
section
variable {X : Cx} {XE : XK} {k : Nat}
def iEnumA (K : PySem.W.Frag) (ta : TA) : TI := fun σ H R => ta σ H fun vs H1 => ∃ a xs, vs = [.ref a] ∧ ((SqL K H1 a xs ∧ (LenH H1 → R (Ite K a) H1)) ∨ (SqT K H1 a xs ∧ (LenH H1 → R (IteT K a) H1)))
theorem pi_enumA {e : Expr} {ta : TA} {p pos tpos : Pos} {elts : List Expr} {kk : Nat} (hg : Gl X "enumerate") (hm : X.mg "enumerate" = none) (ha : PA X [e] ta) (hs : starEach [e] X.env = [(false, eval e X.env)] := by rfl) :
    PI X (.Tuple elts kk tpos) (.Call (.Name "enumerate" p) [e] [] pos) (iEnumA X.K ta) := by
  refine ⟨fun pins s σ H R I h => ?_⟩
  refine Call_ (ld_blt I hg hm boot_enumerate (PyProof.Rows.callWith_type1 (thn (ha.run pos pins s σ H _ I h) fun us s1 ⟨vs, H1, I1, r1, q1⟩ => ?_) hs rfl))
  obtain ⟨a, xs, ex, q⟩ := q1
  subst ex
  have LH := lenH_of I1
  have fresh2 : ∀ b, b ∈ [s1.heap.objs.size + 1, s1.heap.objs.size] → FpOk X pins H1 b := fun b hb => by
    have e' : b = s1.heap.objs.size + 1 ∨ b = s1.heap.objs.size := by simpa using hb
    have hle : s1.heap.objs.size ≤ b := by
      rcases e' with z | z
      · rw [z]; exact Nat.le_add_right _ _
      · rw [z]; exact Nat.le_refl _
    exact I1.fpOk hle (I1.hok.fresh hle)
  cases r1 with
  | cons r rr =>
    cases rr
    cases r
    rcases q with ⟨hq, q⟩ | ⟨hq, q⟩
    · obtain ⟨its, rv, p', hz⟩ := I1.list hq
      refine call_enumerate_list p'.isList fun h' he hit hsz hk => wpAny_pyIter_enum he ?_
      have I2 : Inv X pins σ H1 { s1 with heap := h' } := I1.kept (t' := s1.toks) hk
      exact ⟨s1.heap.objs.size + 1, [s1.heap.objs.size + 1, s1.heap.objs.size], _, _, H1, rfl, I2, turn_enum a (s1.heap.objs.size + 1) s1.heap.objs.size, ⟨⟨.none, he⟩, hit, Nat.succ_ne_self _⟩, fresh2, q LH⟩
    · obtain ⟨its, rv, p', hz⟩ := I1.tuple hq
      refine pl_enum1_begins (begins_tuple a its.toArray) (show s1.heap.IsTuple a its.toArray from p') fun h' he hit hsz hk => wpAny_pyIter_enum he ?_
      have I2 : Inv X pins σ H1 { s1 with heap := h' } := I1.kept (t' := s1.toks) hk
      exact ⟨s1.heap.objs.size + 1, [s1.heap.objs.size + 1, s1.heap.objs.size], _, _, H1, rfl, I2, turn_enumT a (s1.heap.objs.size + 1) s1.heap.objs.size, ⟨⟨.none, he⟩, ⟨_, hit, rfl, rfl⟩, Nat.succ_ne_self _⟩, fresh2, q LH⟩
def enumD (ds : List D) : List D := ds.zipIdx.map fun p => D.tup [.int (p.2 : Nat), p.1]
theorem it_enumT {K : PySem.W.Frag} {mg : Str → Option Value} {a : Addr} {ds : List D} (hl : ds.length ≤ sizeLine) : ItOk K mg (IteT K a) (enumD ds) (fun F => ∃ xs, SqT K F a xs ∧ RepL K mg F ds xs) := by
  unfold enumD
  refine ⟨fun F H i d s _ ⟨xs, h, r⟩ e => ?_, fun F H s ⟨xs, h, r⟩ => ⟨xs, s.sqT K h, by simp [r.len K mg]⟩, fun F F' m ⟨xs, h, r⟩ => ⟨xs, m.sqT K h, r.mono K mg m _ _⟩, by simpa using hl⟩
  rw [List.getElem?_map, List.getElem?_zipIdx] at e
  cases q : ds[i]? with
  | none => rw [q] at e; cases e
  | some d' =>
    rw [q] at e
    simp only [Option.map_some, Option.some.injEq] at e
    subst e
    obtain ⟨x, hx, rx⟩ := r.get K mg q
    refine ⟨⟨xs, x, s.sqT K h, hx⟩, fun y H' z => ?_⟩
    obtain ⟨T, x', rfl, hT, rfl, hxs⟩ := z
    have := hxs xs (s.sqT K h)
    rw [hx] at this; cases this
    have r0 : Rep K mg F (.int ((0 + i : Nat) : Int)) (V.int (i : Nat)) := by show V.int _ = V.int _; simp
    exact step_pair s hT r0 rx
def wEnum (w : WE) : WI := fun ρ Q Ep => wK w ρ (fun d ρ' => match d with
  | .lst ds => Q (enumD ds) ρ'
  | .tup ds => Q (enumD ds) ρ'
  | _ => False) Ep
theorem pi_enu {e : Expr} {w : WE} {p pos tpos : Pos} {elts : List Expr} {kk : Nat} (hg : Gl X "enumerate") (hm : X.mg "enumerate" = none) (h : PdE X XE e w) (hs : starEach [e] X.env = [(false, eval e X.env)] := by rfl) (hs1 : starEach [e] X.env = (false, eval e X.env) :: starEach [] X.env := by rfl) :
    PdI X XE (.Tuple elts kk tpos) (.Call (.Name "enumerate" p) [e] [] pos) (wEnum w) := by
  obtain ⟨t, pe, s⟩ := h
  refine ⟨_, pi_enumA hg hm (pa_cons pe pa_nil hs1) hs, fun c Qp Ep R ok hw x k => ?_⟩
  refine runK (e := e) s ok hw x fun v c1 d g1 e1 r1 h1 => ?_
  cases d with
  | lst ds =>
    obtain ⟨a, xs, rfl, ha, ra⟩ := r1
    exact ⟨a, xs, rfl, .inl ⟨SqL.of (g1.ok.sub.lst ha), fun L => k _ (enumD ds) _ c1 g1 e1 (it_enum (L.lst g1.ok.sub ha ra)) ⟨xs, ha, ra⟩ h1⟩⟩
  | tup ds =>
    obtain ⟨a, xs, rfl, ha, ra⟩ := r1
    exact ⟨a, xs, rfl, .inr ⟨g1.ok.sub.sqT X.K ha, fun L => k _ (enumD ds) _ c1 g1 e1 (it_enumT (L.tup g1.ok.sub ha ra)) ⟨xs, ha, ra⟩ h1⟩⟩
  | _ => exact h1.elim
/-- x.append(e) -/
def wAppend (i : Nat) (w : WE) : WE := fun ρ Q Ep => (match ρ[i]? with
  | some (some (.own _ (.lst _))) => True
  | _ => False) ∧ wK w ρ (fun d ρ' => match ρ'[i]? with
  | some (some (.own b (.lst ds))) => ds.length < sizeLine ∧ Q (.val .non) (ρ'.set i (some (.own b (.lst (ds ++ [d])))))
  | _ => False) Ep
/-- x.extend(e) -/
def wExtend (i : Nat) (w : WE) : WE := fun ρ Q Ep => (match ρ[i]? with
  | some (some (.own _ (.lst _))) => True
  | _ => False) ∧ wK w ρ (fun d ρ' => match d with
  | .lst es => match ρ'[i]? with
    | some (some (.own b (.lst ds))) => ds.length + es.length ≤ sizeLine ∧ Q (.val .non) (ρ'.set i (some (.own b (.lst (ds ++ es)))))
    | _ => False
  | _ => False) Ep
theorem own_list {c : Cfg} {i : Nat} (ok : Ok X.K X.mg c) (h : match c.ρ[i]? with | some (some (.own _ (.lst _))) => True | _ => False) : ∃ a xs, c.σ[i]? = some (some (.ref a)) ∧ c.H a = some (.lst xs) := by
  split at h
  next b ds hρ =>
    obtain ⟨v, hv, a, xs, rfl, _, ha, _⟩ := ok.own hρ
    exact ⟨a, xs, hv, ha⟩
  next => exact h.elim
theorem upd_ft {H : Hp} {a : Addr} {o : HO} {ft : List Addr} (e : ft = [a]) : (∀ b, b ∉ ft → upd H a o b = H b) ∧ ∀ b ∈ ft, upd H a o b ≠ none := by
  subst e
  refine ⟨fun b hb => upd_ne (by simpa using hb), fun b hb => ?_⟩
  have : b = a := by simpa using hb
  subst this
  rw [upd_same]; simp
theorem pd_append {i : Nat} {x : Str} {e : Expr} {p apos cpos : Pos} {w : WE} (hx : PE X (.Name x p) (tVar i)) (h : PdE X XE e w)
    (hbase : attributeBase (.Name x p) "append" X.env (eval (.Name x p) X.env) = eval (.Name x p) X.env := by rfl)
    (hfew : ((backTo cpos (starEach [e] X.env)).all (fun x => !x.1) && (backToKw cpos (keywordEach [] X.env)).all (fun x => x.1.isSome)
      && decide ([e].length + ([] : List Keyword).length + (if ([] : List Keyword).isEmpty then 0 else 1) < 30)) = true := by rfl)
    (hline : (apos.endLine == cpos.line) = true := by rfl) (hs : starEach [e] X.env = (false, eval e X.env) :: starEach [] X.env := by rfl) (hplain : (backTo cpos (starEach [] X.env)).any (·.1) = false := by rfl) :
    PdE X XE (.Call (.Attribute (.Name x p) "append" apos) [e] [] cpos) (wAppend i w) := by
  obtain ⟨t, pe, s⟩ := h
  refine ⟨_, pe_bm PySem.F.plainAttrs_list PySem.F.slot_list_append PySem.F.type_list_append mt_append hx (pa_cons pe pa_nil hs) hbase hfew hline hs hplain, fun c Qp Ep Q ok hw x k => ?_⟩
  obtain ⟨h0, hw⟩ := hw
  obtain ⟨a0, xs0, hv0, ha0⟩ := own_list ok h0
  refine ⟨.ref a0, hv0, .inl ⟨rfl, xs0, SqL.of ha0⟩, ?_⟩
  refine runK (e := e) s ok hw x fun v c1 d g1 e1 r1 h1 => ?_
  split at h1
  next b ds hρ =>
    obtain ⟨hz, h1⟩ := h1
    obtain ⟨v1, hv1, a, xs, rfl, hft, ha, ra⟩ := g1.ok.own hρ
    rw [e1] at hv1
    rw [hv0] at hv1; cases hv1
    have u := upd_ft (H := c1.H) (o := .lst (xs ++ [v])) hft
    refine ⟨a0, xs, v, rfl, rfl, ha, by rw [← ra.len X.K X.mg]; exact hz, ?_⟩
    have g2 := write_slot (H' := upd c1.H a0 (.lst (xs ++ [v]))) (d' := .lst (ds ++ [d])) g1.ok hρ (by rw [e1]; exact hv0) ⟨a0, _, rfl, hft, upd_same, ra.app X.K X.mg (RepL.one X.K X.mg r1)⟩ u.1 u.2
    exact k _ { c1 with H := upd c1.H a0 (.lst (xs ++ [v])), ρ := c1.ρ.set i (some (.own b (.lst (ds ++ [d])))) } (.val .non) (g1.trans X.K X.mg g2) e1 rfl h1
  next => exact h1.elim
theorem pd_extend {i : Nat} {x : Str} {e : Expr} {p apos cpos : Pos} {w : WE} (hx : PE X (.Name x p) (tVar i)) (h : PdE X XE e w)
    (hbase : attributeBase (.Name x p) "extend" X.env (eval (.Name x p) X.env) = eval (.Name x p) X.env := by rfl)
    (hfew : ((backTo cpos (starEach [e] X.env)).all (fun x => !x.1) && (backToKw cpos (keywordEach [] X.env)).all (fun x => x.1.isSome)
      && decide ([e].length + ([] : List Keyword).length + (if ([] : List Keyword).isEmpty then 0 else 1) < 30)) = true := by rfl)
    (hline : (apos.endLine == cpos.line) = true := by rfl) (hs : starEach [e] X.env = (false, eval e X.env) :: starEach [] X.env := by rfl) (hplain : (backTo cpos (starEach [] X.env)).any (·.1) = false := by rfl) :
    PdE X XE (.Call (.Attribute (.Name x p) "extend" apos) [e] [] cpos) (wExtend i w) := by
  obtain ⟨t, pe, s⟩ := h
  refine ⟨_, pe_bm PySem.F.plainAttrs_list PySem.F.slot_list_extend PySem.F.type_list_extend mt_extend hx (pa_cons pe pa_nil hs) hbase hfew hline hs hplain, fun c Qp Ep Q ok hw x k => ?_⟩
  obtain ⟨h0, hw⟩ := hw
  obtain ⟨a0, xs0, hv0, ha0⟩ := own_list ok h0
  refine ⟨.ref a0, hv0, .inl ⟨rfl, xs0, SqL.of ha0⟩, ?_⟩
  refine runK (e := e) s ok hw x fun v c1 d g1 e1 r1 h1 => ?_
  cases d with
  | lst es =>
    dsimp only at h1
    split at h1
    next b ds hρ =>
      obtain ⟨hz, h1⟩ := h1
      obtain ⟨v1, hv1, a, xs, rfl, hft, ha, ra⟩ := g1.ok.own hρ
      obtain ⟨b', ys, rfl, hb', rb⟩ := r1
      rw [e1] at hv1
      rw [hv0] at hv1; cases hv1
      have u := upd_ft (H := c1.H) (o := .lst (xs ++ ys)) hft
      refine ⟨a0, b', xs, ys, rfl, rfl, ha, g1.ok.sub.lst hb', by rw [← ra.len X.K X.mg, ← rb.len X.K X.mg]; exact hz, ?_⟩
      have g2 := write_slot (H' := upd c1.H a0 (.lst (xs ++ ys))) (d' := .lst (ds ++ es)) g1.ok hρ (by rw [e1]; exact hv0) ⟨a0, _, rfl, hft, upd_same, ra.app X.K X.mg rb⟩ u.1 u.2
      exact k _ { c1 with H := upd c1.H a0 (.lst (xs ++ ys)), ρ := c1.ρ.set i (some (.own b (.lst (ds ++ es)))) } (.val .non) (g1.trans X.K X.mg g2) e1 rfl h1
    next => exact h1.elim
  | _ => exact h1.elim
theorem ip_mul : PIp X .Mult (fun x y H Q => ∃ i j, x = .int i ∧ y = .int j ∧ CMul i j ∧ Q (.int (i * j)) H) := by
  intro pins s σ H x y v u Q I r1 r2 h
  obtain ⟨i, j, e1, e2, hc, q⟩ := h
  subst e1; subst e2
  obtain ⟨t, rfl⟩ := r1
  obtain ⟨t', rfl⟩ := r2
  exact imul_int ⟨.int _, H, I.tok _, ⟨_, rfl⟩, q⟩ hc.ok
def wAugI (i : Nat) (C : Int → Int → Prop) (f : Int → Int → Int) (w : WE) : WS := fun Dp ρ => match ρ[i]? with
  | some (some (.val (.int m))) => w ρ (fun r ρ' => match r with
    | .val (.int n) => C m n ∧ (match ρ'[i]? with
      | some (some (.own _ _)) => False
      | some _ => Dp.nx (ρ'.set i (some (.val (.int (f m n)))))
      | none => False)
    | _ => False) Dp.ex
  | _ => False
theorem pst_mul {i : Nat} {x : Str} {e : Expr} {pos' pos : Pos} {w : WE} (hN : X.N.Nodup) (h : PdE X XE e w) (hi : X.N[i]? = some x := by rfl) (hx : Loc X.env.scope x := by first | exact Or.inl rfl | exact Or.inr rfl)
    (hf : X.fn x = true ∨ X.env.scope.names.lookup x = some .local := by first | exact .inl rfl | exact .inr rfl | assumption) : PdS X XE (.AugAssign (.Name x pos') .Mult e pos) (wAugI i CMul (· * ·) w) := by
  obtain ⟨t, p, s⟩ := h
  refine ⟨_, ps_aug hN hi hx p ip_mul hf, fun c Dp D ok hw P => ?_⟩
  unfold wAugI at hw
  split at hw
  next m hm =>
    obtain ⟨v, hv, rv, _⟩ := ok.val hm
    refine ⟨v, hv, ?_⟩
    refine s c _ _ _ ok hw (P.2.2.2.2.ex X.K X.mg) fun u c' r g e rr q => ?_
    cases r with
    | val d =>
      cases d with
      | int n =>
        obtain ⟨hc, q⟩ := q
        refine ⟨m, n, rv, rr, hc, ?_⟩
        dsimp only at q
        split at q
        next => exact q.elim
        next y hy ey =>
          rw [← e]
          exact P.1 { c' with σ := c'.σ.set i (some (.int (m * n))), ρ := c'.ρ.set i (some (.val (.int (m * n)))), fp := fpSet c'.fp i [] } (set_slot g (List.getElem?_eq_some_iff.mp ey).1 (fun d' z => hy true d' (by rw [ey] at z; cases z; rfl)) (show EntOk X.K X.mg c'.F c'.H (.val (.int (m * n))) (.int (m * n)) [] from ⟨rfl, rfl⟩) (fun d z => by cases z) fun b hb => by cases hb) q
        next => exact q.elim
      | _ => exact q.elim
    | _ => exact q.elim
  next => exact hw.elim
end
end PL
namespace PL
open PySem PySem.Spec PyProof.Rows L2
variable [HasT]
open PySem.W (AllAlike Sortable EachIs)
open PySem.W (AlikeAll minD min_list_data readsAll_atA reads_keeps)
theorem dpAll_len {K : PySem.W.Frag} {H : Hp} : ∀ {xs : List V} {ps : List PyData}, DpAll K H xs ps → xs.length = ps.length
  | [], _, h => by cases h; rfl
  | x :: xs, _, h => by
    cases h with
    | cons a b => exact congrArg Nat.succ (dpAll_len b)
section
variable {X : Cx} {pins : List (Addr × Obj)} {σ : L2.St} {H : Hp} {s : Shared}
theorem each_dp (I : Inv X pins σ H s) : ∀ {xs : List V} {ps : List PyData} {us : List Value}, DpAll X.K H xs ps → Vals xs us →
    EachIs (fun u (b : V × PyData) => RelV b.1 u) us (xs.zip ps) ∧ EachIs (fun u (b : V × PyData) => ∃ as, Reads s.heap u b.2 as) us (xs.zip ps)
  | [], _, _, h, r => by
    cases h; cases r
    exact ⟨.nil, .nil⟩
  | x :: xs, _, _, h, r => by
    cases h with
    | cons a b =>
      cases r with
      | cons q t =>
        obtain ⟨e1, e2⟩ := each_dp I b t
        exact ⟨.cons q e1, .cons (Dp.reads I _ _ _ a q) e2⟩
end
theorem each_vals {bs : List (V × PyData)} : ∀ {us : List Value}, EachIs (fun u (b : V × PyData) => RelV b.1 u) us bs → Vals (bs.map (·.1)) us := by
  induction bs with
  | nil => intro us h; cases h; exact .nil
  | cons b bs ih =>
    intro us h
    cases h with
    | cons a t => exact .cons a (ih t)
def sortVP (xs : List V) (ps : List PyData) : List V := ((xs.zip ps).mergeSort (PySem.W.dataLe false (·.2))).map (·.1)
def rSortD (K : PySem.W.Frag) : List V → Hp → VK → Prop := fun vs H Q => ∃ (a : Addr) (xs : List V) (ps : List PyData), vs = [.ref a] ∧ SqL K H a xs ∧ DpAll K H xs ps ∧ AllAlike ps ∧ Sortable ps ∧ (∀ p ∈ ps, p.depth ≤ 16) ∧ ∀ l, H l = none → Q (.ref l) (upd H l (.lst (sortVP xs ps)))
theorem cr_sortD {X : Cx} (hu : X.A.units + 64 < cLine) : CallR X (.builtin "sorted") (rSortD X.K) := by
  intro pins s σ H vs us Q I r h
  obtain ⟨a, xs, ps, rfl, hs, hd, h1, h2, h3, q⟩ := h
  obtain ⟨its, rv, hl, hz⟩ := I.list hs
  rw [Vals.ref1 r]
  obtain ⟨e, er⟩ := each_dp I hd rv
  have le := dpAll_len hd
  have em : (xs.zip ps).map (·.2) = ps := List.map_snd_zip (by omega)
  refine PySem.W.sorted_data (enc := fun b : V × PyData => b.2) hl.isList e er (by rw [em]; exact h1) (by rw [em]; exact h2) (by simp; omega) (fun b hb => ?_) fun out ho eo => ?_
  · have : b.2 ∈ ps := (List.of_mem_zip hb).2
    have := h3 _ this
    omega
  · obtain ⟨ep, he'⟩ := PyProof.Rows.sortedAll_at s.heap its (List.toArray out)
    have hv := each_vals eo
    have hlen : (sortVP xs ps).length ≤ sizeLine := by
      unfold sortVP
      simp; omega
    exact ⟨.ref _, upd H (s.heap.objs.size + 1) (.lst (sortVP xs ps)), I.laid (t' := s.toks) (fun _ _ => PyProof.Rows.sortedAll_old) (Nat.le_succ _) ⟨hlen, out, ep, hv, by simpa using he'⟩, rfl, q _ (I.hok.fresh (Nat.le_succ _))⟩
def rMinD (K : PySem.W.Frag) : List V → Hp → VK → Prop := fun vs H Q => ∃ (a : Addr) (xs : List V) (p : PyData) (ps : List PyData), vs = [.ref a] ∧ SqL K H a xs ∧ DpAll K H xs (p :: ps) ∧ AlikeAll (p :: ps) ∧ PyData.depthAll (p :: ps) ≤ 16 ∧
  ∀ (i : Nat) (x : V), xs[i]? = some x → (p :: ps)[i]? = some (minD p ps) → Q x H
theorem cr_minD {X : Cx} (hc : X.calm = true) (hu : X.A.units + 64 < cLine) : CallR X (.builtin "min") (rMinD X.K) := by
  intro pins s σ H vs us Q I r h
  obtain ⟨a, xs, p, ps, rfl, hs, hd, h1, h2, q⟩ := h
  obtain ⟨its, rv, hl, hz⟩ := I.list hs
  rw [Vals.ref1 r]
  obtain ⟨as, hr⟩ := Dp.readsAll I _ _ _ hd rv
  refine min_list_data (I.ok.hd hc) hl.isList (by simpa using hr) h1 (by omega) fun i v h' tk bs hi hm hk => ?_
  have hi' : its[i]? = some v := by simpa using hi
  have il := (List.getElem?_eq_some_iff.mp hi').1
  have il2 : i < xs.length := by rw [rv.length]; exact il
  obtain ⟨u, hu', ru⟩ := rv.get (i := i) (x := xs[i]) (by simp [il2])
  rw [hi'] at hu'; cases hu'
  refine ⟨xs[i], H, I.kept hk, ru, q i _ (by simp [il2]) ?_⟩
  obtain ⟨cs, r1, l1, m1, _⟩ := readsAll_atA (vs := its.toArray) (by simpa using hr) i v hi
  have r2 := reads_keeps hk r1
  have al := h1.1
  have := dpAll_len hd
  have mm : minD p ps ∈ p :: ps := by
    unfold minD
    have aux : ∀ (l : List PyData) (x : PyData), l.foldl (fun a y => if PySem.W.dataLt y a then y else a) x ∈ x :: l := by
      intro l
      induction l with
      | nil => intro x; simp
      | cons y l ih =>
        intro x
        rw [List.foldl_cons]
        rcases List.mem_cons.mp (ih (if PySem.W.dataLt y x then y else x)) with e | e
        · rw [e]
          split <;> simp
        · exact List.mem_cons_of_mem _ (List.mem_cons_of_mem _ e)
    exact aux ps p
  have e := PySem.W.alike_unique _ _ _ _ _ (al _ m1 _ mm) r2 hm
  rw [← e]
  rw [List.getD_eq_getElem?_getD, List.getElem?_eq_getElem (by omega)]
  simp
theorem toPs_len : ∀ {ds : List D} {ps : List PyData}, toPs ds = some ps → ds.length = ps.length
  | [], _, h => by simp [toPs] at h; subst h; rfl
  | d :: ds, _, h => by
    simp only [toPs, Option.bind_eq_some_iff, Option.map_eq_some_iff] at h
    obtain ⟨p, _, r, hr, rfl⟩ := h
    simp [toPs_len hr]
theorem toPs_get : ∀ {ds : List D} {ps : List PyData} {i : Nat} {d : D}, toPs ds = some ps → ds[i]? = some d → ∃ p, ps[i]? = some p ∧ toP d = some p
  | [], _, _, _, _, e => by simp at e
  | d :: ds, _, i, _, h, e => by
    simp only [toPs, Option.bind_eq_some_iff, Option.map_eq_some_iff] at h
    obtain ⟨p, hp, r, hr, rfl⟩ := h
    cases i with
    | zero => simp at e; subst e; exact ⟨p, rfl, hp⟩
    | succ i => exact toPs_get (i := i) hr (by simpa using e)
section
variable {K : PySem.W.Frag} {mg : Str → Option Value}
def sortBy {α : Type} (xs : List α) (ps : List PyData) : List α := ((xs.zip ps).mergeSort (PySem.W.dataLe false (·.2))).map (·.1)
theorem repL_mem {F : Hp} {α : Type} {f : α → D} {g : α → V} : ∀ {l : List α}, (∀ a ∈ l, Rep K mg F (f a) (g a)) → RepL K mg F (l.map f) (l.map g)
  | [], _ => rfl
  | a :: l, h => ⟨g a, l.map g, rfl, h a List.mem_cons_self, repL_mem fun b hb => h b (List.mem_cons_of_mem _ hb)⟩
theorem repL_zip {F : Hp} : ∀ {ds : List D} {xs : List V}, RepL K mg F ds xs → ∀ p ∈ ds.zip xs, Rep K mg F p.1 p.2
  | [], _, _, _, h => by simp at h
  | d :: ds, _, r, p, h => by
    obtain ⟨x, t, rfl, h1, h2⟩ := r
    rcases List.mem_cons.mp (show p ∈ (d, x) :: ds.zip t from h) with e | e
    · rw [e]; exact h1
    · exact repL_zip h2 p e
theorem sortBy_map {α β : Type} (f : α → β) (l : List α) (k : α → PyData) : sortBy (l.map f) (l.map k) = (l.mergeSort (PySem.W.dataLe false k)).map f := by
  unfold sortBy
  have e : (l.map f).zip (l.map k) = l.map fun a => (f a, k a) := by
    induction l with
    | nil => rfl
    | cons a l ih => rw [List.map_cons, List.map_cons, List.zip_cons_cons, ih, List.map_cons]
  rw [e, ← List.map_mergeSort (r := PySem.W.dataLe false k) (s := PySem.W.dataLe false fun b : β × PyData => b.2) (f := fun a => (f a, k a)) (l := l) (fun a _ b _ => rfl), List.map_map]
  rfl
theorem sortBy_rep {F : Hp} {ds : List D} {xs : List V} {ps : List PyData} (r : RepL K mg F ds xs) (hl : ds.length = ps.length) : RepL K mg F (sortBy ds ps) (sortBy xs ps) := by
  have hl2 := r.len K mg
  let T := (ds.zip xs).zip ps
  have e1 : T.map (fun t => t.1.1) = ds := by
    show ((ds.zip xs).zip ps).map ((·.1) ∘ (·.1)) = ds
    rw [← List.map_map, List.map_fst_zip (by simp; omega), List.map_fst_zip (by omega)]
  have e2 : T.map (fun t => t.1.2) = xs := by
    show ((ds.zip xs).zip ps).map ((·.2) ∘ (·.1)) = xs
    rw [← List.map_map, List.map_fst_zip (by simp; omega), List.map_snd_zip (by omega)]
  have e3 : T.map (fun t => t.2) = ps := List.map_snd_zip (by simp; omega)
  have f1 := sortBy_map (fun t : (D × V) × PyData => t.1.1) T (fun t => t.2)
  have f2 := sortBy_map (fun t : (D × V) × PyData => t.1.2) T (fun t => t.2)
  rw [e1, e3] at f1
  rw [e2, e3] at f2
  rw [f1, f2]
  refine repL_mem fun t ht => ?_
  have m : t ∈ T := (List.mergeSort_perm T _).mem_iff.mp ht
  exact repL_zip r t.1 (List.of_mem_zip m).1
def gSort : GN := fun ds Q => match ds with
  | [.lst xs] => ∃ ps, toPs xs = some ps ∧ AllAlike ps ∧ Sortable ps ∧ (∀ p ∈ ps, p.depth ≤ 16) ∧ Q (.tmp (.lst (sortBy xs ps)))
  | _ => False
theorem opn_sort : OpN K mg (rSortD K) gSort := by
  intro F H ds vs Qg Q sm sl h k
  unfold gSort at h
  split at h
  next xs =>
    obtain ⟨v, rfl, see⟩ := seeL1 sl
    obtain ⟨ps, h1, h2, h3, h4, h5⟩ := h
    obtain ⟨a, ys, rfl, hs, rp⟩ := see.lst sm
    refine ⟨a, ys, ps, rfl, .inl (.inl hs), dps_of sm _ _ _ rp h1, h2, h3, h4, fun l hl => ?_⟩
    exact k _ F _ _ (Step.new sm hl) (new_lst hl sm (sortBy_rep rp (toPs_len h1))) h5
  next => exact h.elim
def gMin : GN := fun ds Q => match ds with
  | [.lst xs] => ∃ p ps, toPs xs = some (p :: ps) ∧ AlikeAll (p :: ps) ∧ PyData.depthAll (p :: ps) ≤ 16 ∧ ∀ z, z ∈ xs → toP z = some (minD p ps) → Q (.val z)
  | _ => False
theorem opn_min : OpN K mg (rMinD K) gMin := by
  intro F H ds vs Qg Q sm sl h k
  unfold gMin at h
  split at h
  next xs =>
    obtain ⟨v, rfl, see⟩ := seeL1 sl
    obtain ⟨p, ps, h1, h2, h3, h4⟩ := h
    obtain ⟨a, ys, rfl, hs, rp⟩ := see.lst sm
    refine ⟨a, ys, p, ps, rfl, .inl (.inl hs), dps_of sm _ _ _ rp h1, h2, h3, fun i x hx hm => ?_⟩
    obtain ⟨d, hd, rd⟩ := rp.getV K mg hx
    obtain ⟨q, hq, tq⟩ := toPs_get h1 hd
    rw [hm] at hq; cases hq
    exact fin_val sm k rd (h4 d (List.mem_of_getElem? hd) tq)
  next => exact h.elim
end
def entOf : R → (Ent → Prop) → Prop
  | .val d, k => k (.val d)
  | .tmp d, k => k (.own false d)
  | .slot _, _ => False
def freeE (ρ : Env) (i : Nat) : Prop := match ρ[i]? with
  | some (some (.own true _)) => False
  | some _ => True
  | none => False
def wPar (i j : Nat) (wa wb : WE) : WS := fun Dp ρ => wa ρ (fun r1 ρ1 => wb ρ1 (fun r2 ρ2 => entOf r1 fun e1 => entOf r2 fun e2 => freeE ρ2 i ∧ freeE ρ2 j ∧ Dp.nx ((ρ2.set i (some e1)).set j (some e2))) Dp.ex) Dp.ex
theorem freeE_of {ρ : Env} {i : Nat} (h : freeE ρ i) : i < ρ.length ∧ ∀ d, ρ[i]? ≠ some (some (.own true d)) := by
  unfold freeE at h
  split at h
  · exact h.elim
  next y hy e => exact ⟨(List.getElem?_eq_some_iff.mp e).1, fun d z => by rw [e] at z; cases z; exact hy d rfl⟩
  · exact h.elim
section
variable {X : Cx} {XE : XK}
theorem ent_ok {c c1 : Cfg} {r : R} {v : V} {k : Ent → Prop} (rr : RR X.K X.mg c c1 r v) (h : entOf r k) : ∃ e ft, k e ∧ EntOk X.K X.mg c1.F c1.H e v ft ∧ (∀ d, e ≠ .own true d) ∧ ∀ b ∈ ft, c1.F b = none ∧ c1.H b ≠ none ∧ c.H b = none ∧ ∀ i, b ∉ c1.fp i := by
  cases r with
  | val d => exact ⟨.val d, [], h, ⟨rr, rfl⟩, fun d z => by (cases z), fun b hb => by (cases hb)⟩
  | tmp d =>
    obtain ⟨ft, o, hf⟩ := rr
    exact ⟨.own false d, ft, h, o, fun d z => by (cases z), hf⟩
  | slot i => exact h.elim
theorem pst_par {i j : Nat} {x y : Str} {a b : Expr} {px py pt pos : Pos} {kt k2 pt2} {wa wb : WE} (hc : X.calm = true) (hN : X.N.Nodup) (ha : PdE X XE a wa) (hb : PdE X XE b wb)
    (hw : swappedStores [.Tuple [.Name x px, .Name y py] kt pt] (.Tuple [a, b] k2 pt2) X.env = pure (some [x, y]))
    (hi : X.N[i]? = some x := by rfl) (hj : X.N[j]? = some y := by rfl) (hij : i ≠ j := by decide)
    (hx : X.env.scope.names.lookup x = some .local := by rfl) (hy : X.env.scope.names.lookup y = some .local := by rfl)
    (hs : swapsWithSole [.Tuple [.Name x px, .Name y py] kt pt] (.Tuple [a, b] k2 pt2) pos.line X.env = pure false := by rfl)
    (hs0 : starEach [a, b] X.env = (false, eval a X.env) :: starEach [b] X.env := by rfl) (hs1 : starEach [b] X.env = (false, eval b X.env) :: starEach [] X.env := by rfl) :
    PdS X XE (.Assign [.Tuple [.Name x px, .Name y py] kt pt] (.Tuple [a, b] k2 pt2) pos) (wPar i j wa wb) := by
  obtain ⟨ta, pa, sa⟩ := ha
  obtain ⟨tb, pb, sb⟩ := hb
  refine ⟨_, ps_par hc hN hi hj hij hx hy (pa_cons pa (pa_cons pb pa_nil hs1) hs0) hw hs, fun c Dp D ok h P => ?_⟩
  refine sa c _ _ _ ok h (P.2.2.2.2.ex X.K X.mg) fun v c1 r1 g1 e1 rr1 h1 => ?_
  show tb c.σ c1.H _
  rw [← e1]
  refine sb c1 _ _ _ g1.ok h1 ((P.2.2.2.2.go X.K X.mg g1).ex X.K X.mg) fun u c2 r2 g2 e2 rr2 h2 => ?_
  refine ⟨v, u, rfl, ?_⟩
  have g := g1.trans X.K X.mg g2
  obtain ⟨en1, f1, h2, o1, n1, m1⟩ := ent_ok rr1 h2
  obtain ⟨en2, f2, ⟨q1, q2, q3⟩, o2, n2, m2⟩ := ent_ok rr2 h2
  obtain ⟨l1, b1⟩ := freeE_of q1
  obtain ⟨l2, b2⟩ := freeE_of q2
  have kp : ∀ b ∈ f1, c2.F b = none ∧ c2.H b = c1.H b := fun b hb => by
    obtain ⟨z1, z2, z3, z4⟩ := m1 b hb
    obtain ⟨u0, hu0, pu0⟩ := ent_pl o1 b hb
    exact g2.fr.keep b z1 z2 z4 (nt_of hu0 pu0)
  have m1' : ∀ b ∈ f1, c2.F b = none ∧ c2.H b ≠ none ∧ c.H b = none ∧ ∀ i, b ∉ c2.fp i := fun b hb => by
    obtain ⟨z1, z2, z3, z4⟩ := m1 b hb
    obtain ⟨k1, k2⟩ := kp b hb
    refine ⟨k1, by rw [k2]; exact z2, z3, fun i hi => ?_⟩
    rcases g2.orig i b hi with ⟨j', hj'⟩ | e
    · exact z4 j' hj'
    · exact z2 e
  have o1' := o1.frame g2.fr.mono fun b hb => (kp b hb).2
  have eσ : c1.σ = c2.σ := e2.symm
  have s1 := set_slot g l1 b1 o1' n1 m1'
  have s2 := set_slot (c1 := { c2 with σ := c2.σ.set i (some v), ρ := c2.ρ.set i (some en1), fp := fpSet c2.fp i f1 }) (i := j) (e := en2) (v := u) (ft := f2) s1 (by simpa using l2) (fun d z => ?_) o2 n2 fun b hb => ?_
  · have := P.1 _ s2 q3
    rw [eσ]
    exact this
  · rcases set_get z with ⟨_, z'⟩ | ⟨_, z'⟩
    · exact n1 d (Option.some.inj z').symm
    · exact b2 d z'
  · obtain ⟨z1, z2, z3, z4⟩ := m2 b hb
    refine ⟨z1, z2, ?_, fun i' hi' => ?_⟩
    · cases q : c.H b with
      | none => rfl
      | some o => exact absurd z3 (g1.fr.grow b (by rw [q]; simp))
    · have hi2 : b ∈ fpSet c2.fp i f1 i' := hi'
      by_cases e : i' = i
      · subst e
        rw [fpSet_same] at hi2
        exact absurd z3 (m1 b hi2).2.1
      · rw [fpSet_ne e] at hi2
        exact z4 i' hi2
end
end PL
namespace PL
open PySem PySem.Spec PyProof.Rows L2
variable [HasT]
/-- a def as its callers know it -/
structure DfAt (P : Program) (w : World) (K : PySem.W.Frag) (mg : Str → Option Value) (base : Heap) (x : Str) (f : Addr) (fd : FuncData) (ps : List Str) (j : Nat) (fs : FS) : Prop where
  fn : FnOk P w K mg base (L2N.CX P w) j f fd ps (spOf K mg fs ps.length)
  mx : mg x = some (.ref f)
  kp : PySem.W.keepIn K (.ref f) = true
  bd : Binds K fd ps []
/-- a class as its users know it -/
structure ClAt (K : PySem.W.Frag) (mg : Str → Option Value) (cn : Str) (C : Addr) (flds : List Str) : Prop where
  mc : mg cn = some (.ref C)
  cl : Cls K C
  no : ∀ f ∈ flds, NoAttr K C f
  cls : PySem.W.findIn K (.ref C) "__class__" = some (some (.builtin "object.__class__"))
  gs : PySem.W.specialIn K (.builtin "object.__class__") "__get__" = some (some (.builtin "getset_descriptor.__get__"))
  tk : PySem.W.takesIn K (.builtin "object.__class__") = some true
  ob : PySem.W.mroIn K C (.type "object") = some true
  ne : PySem.W.findIn K (.ref C) "__ne__" = some (some (.builtin "object.__ne__"))
  su : PySem.W.subIn K (.ref C) (.type "object") = some true
  sf : PySem.W.selfFirst K C = true
  mkI : PySem.W.makesIn K C = true
  kp : PySem.W.keepIn K (.ref C) = true
/-- a method as its callers know it -/
structure MtAt (P : Program) (w : World) (K : PySem.W.Frag) (mg : Str → Option Value) (base : Heap) (C : Addr) (m : Str) (f : Addr) (fd : FuncData) (ps : List Str) (j : Nat) (fs : FS) : Prop where
  fn : FnOk P w K mg base (L2N.CX P w) j f fd ps (spOf K mg fs ps.length)
  at_ : PySem.W.findIn K (.ref C) m = some (some (.ref f))
  isf : PySem.W.isFn K (.ref f) = true
  kp : PySem.W.keepIn K (.ref f) = true
  bd : Binds K fd ps []
/-- what fills up the parameters that lack -/
def Dfl (K : PySem.W.Frag) (mg : Str → Option Value) (fd : FuncData) (ps : List Str) (dds : List D) : Prop := ∃ (dvs : List V) (ds : List Value), Vals dvs ds ∧ (∀ F, RepL K mg F dds dvs) ∧ Binds K fd ps ds
section
variable {X : Cx} {XE : XK} {k : Nat}
theorem go_add {a b : Expr} {wa wb : WE} {pos : Pos} (ha : PdE X XE a wa) (hb : PdE X XE b wb) : PdE X XE (.BinOp a .Add b pos) (wOp2 gAdd wa wb) := pd_op (op2_or op_add (op2_or op_cat op_catA)) op2_add ha hb
theorem go_sub {a b : Expr} {wa wb : WE} {pos : Pos} (ha : PdE X XE a wa) (hb : PdE X XE b wb) : PdE X XE (.BinOp a .Sub b pos) (wOp2 (gI fun i j => .int (i - j)) wa wb) := pd_op op_sub (op2_int fun _ _ _ => rfl) ha hb
theorem go_mul {a b : Expr} {wa wb : WE} {pos : Pos} (ha : PdE X XE a wa) (hb : PdE X XE b wb) : PdE X XE (.BinOp a .Mult b pos) (wOp2 gMul wa wb) := pd_op op_mul op2_mul ha hb
theorem go_le {a b : Expr} {wa wb : WE} {pos : Pos} (ha : PdE X XE a wa) (hb : PdE X XE b wb) : PdE X XE (.Compare a [.LtE] [b] pos) (wOp2 (gI fun i j => .bl (decide (i ≤ j))) wa wb) := pd_cmp op_le (op2_int fun _ _ _ => rfl) ha hb (nomark _)
theorem go_eq (C : Cc X XE k) {a b : Expr} {wa wb : WE} {pos : Pos} (ha : PdE X XE a wa) (hb : PdE X XE b wb) : PdE X XE (.Compare a [.Eq] [b] pos) (wOp2 (gEq id) wa wb) := pd_cmp (op_eqD C.room.units) op2_eq ha hb (nomark _)
theorem go_ne (C : Cc X XE k) {a b : Expr} {wa wb : WE} {pos : Pos} (ha : PdE X XE a wa) (hb : PdE X XE b wb) : PdE X XE (.Compare a [.NotEq] [b] pos) (wOp2 (gEq not) wa wb) := pd_cmp (op_neD C.room.units) op2_ne ha hb (nomark _)
theorem go_inS {a b : Expr} {wa wb : WE} {pos : Pos} (ha : PdE X XE a wa) (hb : PdE X XE b wb) (hm : behindInMarks .In b = false := by rfl) : PdE X XE (.Compare a [.In] [b] pos) (wOp2 (gInS id) wa wb) := pd_cmp op_in_sign op2_inS ha hb hm
theorem go_ix {a b : Expr} {wa wb : WE} {pos : Pos} (ha : PdE X XE a wa) (hb : PdE X XE b wb) (hs : PlainIx b := by exact fun _ _ => rfl) : PdE X XE (.Subscript a b pos) (wOp2 gIx wa wb) := pd_ix ix_seq op2_ix ha hb hs
abbrev gLe : G2 := gI fun i j => .bl (decide (i ≤ j))
theorem go_lele {a b d : Expr} {wa wb wc : WE} {pos : Pos} (ha : PdE X XE a wa) (hb : PdE X XE b wb) (hc : PdE X XE d wc) (hm : lastMarks [.LtE, .LtE] [b, d] = false := by with_unfolding_all rfl) : PdE X XE (.Compare a [.LtE, .LtE] [b, d] pos) (wChain gLe gLe wa wb wc) :=
  pd_chain op_le op_le (op2_int fun _ _ _ => rfl) (op2_int fun _ _ _ => rfl) ha hb hc hm
theorem boot_all : bootBuiltins "all" = some (.builtin "all") := by decide +kernel
theorem boot_any : bootBuiltins "any" = some (.builtin "any") := by decide +kernel
theorem boot_sum : bootBuiltins "sum" = some (.builtin "sum") := by decide +kernel
theorem boot_max : bootBuiltins "max" = some (.builtin "max") := by decide +kernel
theorem boot_min : bootBuiltins "min" = some (.builtin "min") := by decide +kernel
theorem boot_abs : bootBuiltins "abs" = some (.builtin "abs") := by decide +kernel
theorem boot_sorted : bootBuiltins "sorted" = some (.builtin "sorted") := by decide +kernel
theorem boot_divmod : bootBuiltins "divmod" = some (.builtin "divmod") := by decide +kernel
abbrev gMax2 : GN := gII fun i j => if j > i then j else i
abbrev gMin2 : GN := gII fun i j => if j < i then j else i
section
variable {p pos : Pos} {e e2 : Expr} {w : WR}
theorem go_len (hm : X.mg "len" = none) (ha : PdV X XE [e] w) (gl : Gl X "len" := by rfl) (he : starEach [e] X.env = (false, eval e X.env) :: starEach [] X.env := by rfl) (hpl : (backTo pos (starEach [] X.env)).any (·.1) = false := by rfl) : PdE X XE (.Call (.Name "len" p) [e] [] pos) (wCall gLen w) :=
  pd_callB call_len opn_len gl hm PySem.boot_len ha (by decide) (by decide) he hpl
theorem go_all (C : Cc X XE k) (hm : X.mg "all" = none) (ha : PdV X XE [e] w) (gl : Gl X "all" := by rfl) (he : starEach [e] X.env = (false, eval e X.env) :: starEach [] X.env := by rfl) (hpl : (backTo pos (starEach [] X.env)).any (·.1) = false := by rfl) : PdE X XE (.Call (.Name "all" p) [e] [] pos) (wCall gAll w) :=
  pd_callB (cr_all C.calm) opn_all gl hm boot_all ha (by decide) (by decide) he hpl
theorem go_any (C : Cc X XE k) (hm : X.mg "any" = none) (ha : PdV X XE [e] w) (gl : Gl X "any" := by rfl) (he : starEach [e] X.env = (false, eval e X.env) :: starEach [] X.env := by rfl) (hpl : (backTo pos (starEach [] X.env)).any (·.1) = false := by rfl) : PdE X XE (.Call (.Name "any" p) [e] [] pos) (wCall gAny w) :=
  pd_callB (cr_any C.calm) opn_any gl hm boot_any ha (by decide) (by decide) he hpl
theorem go_sum (C : Cc X XE k) (hm : X.mg "sum" = none) (ha : PdV X XE [e] w) (gl : Gl X "sum" := by rfl) (he : starEach [e] X.env = (false, eval e X.env) :: starEach [] X.env := by rfl) (hpl : (backTo pos (starEach [] X.env)).any (·.1) = false := by rfl) : PdE X XE (.Call (.Name "sum" p) [e] [] pos) (wCall gSum w) :=
  pd_callB (cr_sum C.calm) opn_sum gl hm boot_sum ha (by decide) (by decide) he hpl
theorem go_sorted (C : Cc X XE k) (hm : X.mg "sorted" = none) (ha : PdV X XE [e] w) (gl : Gl X "sorted" := by rfl) (he : starEach [e] X.env = (false, eval e X.env) :: starEach [] X.env := by rfl) (hpl : (backTo pos (starEach [] X.env)).any (·.1) = false := by rfl) : PdE X XE (.Call (.Name "sorted" p) [e] [] pos) (wCall gSort w) :=
  pd_callB (cr_sortD C.room.units) opn_sort gl hm boot_sorted ha (by decide) (by decide) he hpl
theorem go_minL (C : Cc X XE k) (hm : X.mg "min" = none) (ha : PdV X XE [e] w) (gl : Gl X "min" := by rfl) (he : starEach [e] X.env = (false, eval e X.env) :: starEach [] X.env := by rfl) (hpl : (backTo pos (starEach [] X.env)).any (·.1) = false := by rfl) : PdE X XE (.Call (.Name "min" p) [e] [] pos) (wCall gMin w) :=
  pd_callB (cr_minD C.calm C.room.units) opn_min gl hm boot_min ha (by decide) (by decide) he hpl
theorem go_max2 (C : Cc X XE k) (hm : X.mg "max" = none) (ha : PdV X XE [e, e2] w) (gl : Gl X "max" := by rfl) (he : starEach [e, e2] X.env = (false, eval e X.env) :: starEach [e2] X.env := by rfl) (hpl : (backTo pos (starEach [e2] X.env)).any (·.1) = false := by rfl) : PdE X XE (.Call (.Name "max" p) [e, e2] [] pos) (wCall gMax2 w) :=
  pd_callB (call_max2 C.calm) opn_ii gl hm boot_max ha (by decide) (by decide) he hpl
theorem go_min2 (C : Cc X XE k) (hm : X.mg "min" = none) (ha : PdV X XE [e, e2] w) (gl : Gl X "min" := by rfl) (he : starEach [e, e2] X.env = (false, eval e X.env) :: starEach [e2] X.env := by rfl) (hpl : (backTo pos (starEach [e2] X.env)).any (·.1) = false := by rfl) : PdE X XE (.Call (.Name "min" p) [e, e2] [] pos) (wCall gMin2 w) :=
  pd_callB (call_min2 C.calm) opn_ii gl hm boot_min ha (by decide) (by decide) he hpl
theorem go_tuple (hm : X.mg "tuple" = none) (ha : PdV X XE [e] w) (gl : Gl X "tuple" := by rfl) (he : starEach [e] X.env = (false, eval e X.env) :: starEach [] X.env := by rfl) (hpl : (backTo pos (starEach [] X.env)).any (·.1) = false := by rfl) : PdE X XE (.Call (.Name "tuple" p) [e] [] pos) (wCall gTuple w) :=
  pd_callTy call_tuple_of opn_tuple gl hm PySem.Pv.boot_tuple ha (by decide) (by decide) he hpl
theorem go_list (hm : X.mg "list" = none) (ha : PdV X XE [e] w) (gl : Gl X "list" := by rfl) (he : starEach [e] X.env = (false, eval e X.env) :: starEach [] X.env := by rfl) (hpl : (backTo pos (starEach [] X.env)).any (·.1) = false := by rfl) : PdE X XE (.Call (.Name "list" p) [e] [] pos) (wCall gList w) :=
  pd_callTy call_list_of opn_list gl hm PySem.Pv.boot_list ha (by decide) (by decide) he hpl
end
section
variable {p p2 pos : Pos} {a : Expr} {w : WE}
theorem go_isT (T : Ty) {x : Str} (hi : X.mg "isinstance" = none) (hm : X.mg x = none) (hv : bootBuiltins x = some (.type T.name)) (ha : PdE X XE a w) (gl : Gl X "isinstance" := by rfl) (gx : Gl X x := by rfl) (hn : x ≠ "__name__" := by decide) (hd : (x == ("__debug__" : Str)) = false := by decide)
    (he : starEach [a, .Name x p2] X.env = (false, eval a X.env) :: starEach [.Name x p2] X.env := by rfl) (he2 : starEach [.Name x p2] X.env = (false, eval (.Name x p2) X.env) :: starEach [] X.env := by rfl)
    (hpl : (backTo pos (starEach [.Name x p2] X.env)).any (·.1) = false := by rfl) : PdE X XE (.Call (.Name "isinstance" p) [a, .Name x p2] [] pos) (wIsi (fT T) w) :=
  pd_isi (fT_ok T) (pe_bltn (v := .ty T.name) gx hm hv rfl hn hd) (.ty _) gl hi ha he he2 hpl
def fObj (cn : Str) : D → Option Bool
  | .obj c _ _ => if c = cn then some true else none
  | _ => none
theorem fObj_ok {cn : Str} {Cl : Addr} {fl : List Str} (A : ClAt X.K X.mg cn Cl fl) (F H : Hp) (d : D) (v : V) (b : Bool) (s : Mono F H) (h : See X.K X.mg F H d v) (e : fObj cn d = some b) : ∃ t, TyX X.K H v t ∧ PySem.W.kitOne X.K t (.ref Cl) = some b := by
  cases d with
  | obj c fs ds =>
    have e' : (if c = cn then some true else none) = some b := e
    by_cases hc : c = cn
    · rw [if_pos hc] at e'
      subst hc; cases e'
      obtain ⟨a, C, dx, gs, rfl, hm, hH, _⟩ := h.obj s
      rw [A.mc] at hm; cases hm
      refine ⟨.ref Cl, .base (.ins hH A.cl A.cls A.gs A.tk A.ob), ?_⟩
      unfold PySem.W.kitOne
      rw [if_pos (by simp)]
    · rw [if_neg hc] at e'; cases e'
  | _ => cases e
theorem go_isO {cn : Str} {Cl : Addr} {fl : List Str} (A : ClAt X.K X.mg cn Cl fl) (hi : X.mg "isinstance" = none) (ha : PdE X XE a w) (gl : Gl X "isinstance" := by rfl) (gx : Gl X cn := by rfl) (hd : (cn == ("__debug__" : Str)) = false := by decide)
    (he : starEach [a, .Name cn p2] X.env = (false, eval a X.env) :: starEach [.Name cn p2] X.env := by rfl) (he2 : starEach [.Name cn p2] X.env = (false, eval (.Name cn p2) X.env) :: starEach [] X.env := by rfl)
    (hpl : (backTo pos (starEach [.Name cn p2] X.env)).any (·.1) = false := by rfl) : PdE X XE (.Call (.Name "isinstance" p) [a, .Name cn p2] [] pos) (wIsi (fObj cn) w) :=
  pd_isi (fObj_ok A) (pe_glob (v := .ref Cl) gx A.mc rfl hd) (.own _) gl hi ha he he2 hpl
end
end
end PL
namespace PL
open PySem PySem.Spec PyProof.Rows L2
variable [HasT]
def lookD : List Key → List D → Key → Option D
  | k :: ks, d :: ds, q => if k = q then some d else lookD ks ds q
  | _, _, _ => none
def keyD : D → Option Key
  | .int i => some (.inl i)
  | .str x => some (.inr x)
  | _ => none
section
variable {K : PySem.W.Frag} {mg : Str → Option Value}
theorem look_rep {F : Hp} {q : Key} {d : D} : ∀ {ks : List Key} {ds : List D} {kvs : List (Key × V)}, kvs.map (·.1) = ks → RepL K mg F ds (kvs.map (·.2)) → lookD ks ds q = some d → ∃ v, valV kvs q = some v ∧ Rep K mg F d v
  | [], _, _, _, _, e => by simp [lookD] at e
  | _ :: _, [], _, _, _, e => by simp [lookD] at e
  | k :: ks, d0 :: ds, [], h, _, _ => by simp at h
  | k :: ks, d0 :: ds, kv :: kvs, h, r, e => by
    simp at h
    obtain ⟨x, t, e1, r1, r2⟩ := r
    simp at e1
    unfold lookD at e
    by_cases hq : k = q
    · rw [if_pos hq] at e; cases e
      refine ⟨kv.2, ?_, by rw [e1.1]; exact r1⟩
      unfold valV
      rw [List.find?_cons_of_pos (by simp [h.1, hq])]
      rfl
    · rw [if_neg hq] at e
      obtain ⟨v, hv, rv⟩ := look_rep h.2 (by rw [e1.2]; exact r2) e
      refine ⟨v, ?_, rv⟩
      unfold valV
      rw [List.find?_cons_of_neg (by simp [h.1, hq])]
      exact hv
theorem See.dic {F H : Hp} {ks : List Key} {ds : List D} {v : V} (h : See K mg F H (.dic ks ds) v) (s : Mono F H) : ∃ a kvs, v = .ref a ∧ Rd H a (.dK kvs) ∧ kvs.map (·.1) = ks ∧ RepL K mg F ds (kvs.map (·.2)) := by
  rcases h with ⟨a, kvs, e, h1, h2, h3⟩ | ⟨ft, a, kvs, e, _, h1, h2, h3⟩
  · exact ⟨a, kvs, e, s.rd h1, h2, h3⟩
  · exact ⟨a, kvs, e, .inl h1, h2, h3⟩
theorem key_rep {F H : Hp} {d : D} {k : Key} {v : V} (h : See K mg F H d v) (e : keyD d = some k) : v = kV k := by
  cases d with
  | int i => cases e; exact h.int
  | str i => cases e; exact h.str
  | _ => cases e
def gDGet : G2 := fun d e Q => match d, keyD e with
  | .dic ks ds, some k => match lookD ks ds k with
    | some x => Q (.val x)
    | none => False
  | _, _ => False
def rDGet : R2 := fun x y H Q => ∃ a v, x = .ref a ∧ DGet H a y (some v) ∧ Q v H
theorem op2_dget : Op2 K mg rDGet gDGet := by
  intro F H d e v u Qg Q s h1 h2 hg k
  unfold gDGet at hg
  split at hg
  next d ks ds k' hk =>
    obtain ⟨a, kvs, rfl, hr, hm, rp⟩ := h1.dic s
    cases q : lookD ks ds k' with
    | none => rw [q] at hg; exact hg.elim
    | some x =>
      rw [q] at hg
      obtain ⟨w, hw, rw'⟩ := look_rep hm rp q
      exact ⟨a, w, rfl, .inl ⟨kvs, k', hr, key_rep h2 hk, hw.symm⟩, fin_val s k rw' hg⟩
  next => exact hg.elim
end
section
variable {X : Cx} {XE : XK} {k : Nat}
theorem go_dget (C : Cc X XE k) {a b : Expr} {wa wb : WE} {pos : Pos} (ha : PdE X XE a wa) (hb : PdE X XE b wb) (hs : NoSl b := by exact fun _ _ => rfl) : PdE X XE (.Subscript a b pos) (wOp2 gDGet wa wb) := by
  obtain ⟨ta, pa, sa⟩ := ha
  obtain ⟨tb, pb, sb⟩ := hb
  exact ⟨_, pe_dget (Nat.lt_of_le_of_lt (by omega) C.room.units) pa pb hs, op2_run (r := rDGet) (a := a) (b := b) op2_dget sa sb⟩
/-- a module's constant -/
theorem go_gc {x : Str} {v : V} {d : D} {pos : Pos} (h : ∃ u, X.mg x = some u ∧ RelV v u) (r : ∀ F, Rep X.K X.mg F d v) (gl : Gl X x := by rfl) (hd : (x == ("__debug__" : Str)) = false := by decide) : PdE X XE (.Name x pos) (wC d) := by
  obtain ⟨u, hm, ru⟩ := h
  exact pd_c (pe_glob gl hm ru hd) r
def wDic (ks : List Key) (w : WL) : WE := fun ρ Q Ep => w ρ (fun ds ρ' => Q (.tmp (.dic ks ds)) ρ') Ep
end
end PL
namespace PL
open PySem PySem.Spec PyProof.Rows L2
variable [HasT]
section
variable {X : Cx} {XE : XK} {k : Nat}
theorem pt_cmpD {op : CmpOp} {r : R2} {g : G2} {a b : Expr} {wa wb : WE} {pos : Pos} (ho : OpR X (compareOp op) r) (hg : Op2 X.K X.mg r g) (ha : PdE X XE a wa) (hb : PdE X XE b wb) (hm : behindInMarks op b = false) : PdT X XE (.Compare a [op] [b] pos) (wB (wOp2 g wa wb)) := by
  obtain ⟨ta, pa, sa⟩ := ha
  obtain ⟨tb, pb, sb⟩ := hb
  exact ⟨_, pt_cmpR ho pa pb hm, fun c Qp Ep Q ok hw x k => bl_run (op2_run (a := a) (b := b) hg sa sb) ok hw x fun b c' g e q => ⟨b, rfl, k b c' g e q⟩⟩
theorem to_lt {a b : Expr} {wa wb : WE} {pos : Pos} (ha : PdE X XE a wa) (hb : PdE X XE b wb) : PdT X XE (.Compare a [.Lt] [b] pos) (wB (wOp2 (gI fun i j => .bl (decide (i < j))) wa wb)) := pt_cmpD op_lt (op2_int fun _ _ _ => rfl) ha hb (nomark _)
theorem to_eq (C : Cc X XE k) {a b : Expr} {wa wb : WE} {pos : Pos} (ha : PdE X XE a wa) (hb : PdE X XE b wb) : PdT X XE (.Compare a [.Eq] [b] pos) (wB (wOp2 (gEq id) wa wb)) := pt_cmpD (op_eqD C.room.units) op2_eq ha hb (nomark _)
theorem to_ne (C : Cc X XE k) {a b : Expr} {wa wb : WE} {pos : Pos} (ha : PdE X XE a wa) (hb : PdE X XE b wb) : PdT X XE (.Compare a [.NotEq] [b] pos) (wB (wOp2 (gEq not) wa wb)) := pt_cmpD (op_neD C.room.units) op2_ne ha hb (nomark _)
theorem to_isnot {a b : Expr} {wa wb : WE} {pos : Pos} (ha : PdE X XE a wa) (hb : PdE X XE b wb) : PdT X XE (.Compare a [.IsNot] [b] pos) (wB (wOp2 (gIs not) wa wb)) := pt_cmpD op_notN op2_isnot ha hb (nomark _)
theorem pt_chainD {op op' : CmpOp} {r r' : R2} {g h : G2} {a b d : Expr} {wa wb wc : WE} {pos : Pos} (ho : OpR X (compareOp op) r) (ho' : OpR X (compareOp op') r') (hg : Op2 X.K X.mg r g) (hh : Op2 X.K X.mg r' h)
    (ha : PdE X XE a wa) (hb : PdE X XE b wb) (hc : PdE X XE d wc) (hm : lastMarks [op, op'] [b, d] = false := by with_unfolding_all rfl) : PdT X XE (.Compare a [op, op'] [b, d] pos) (wB (wChain g h wa wb wc)) := by
  obtain ⟨ta, pa, sa⟩ := ha
  obtain ⟨tb, pb, sb⟩ := hb
  obtain ⟨tc, pc, sc⟩ := hc
  exact ⟨_, pt_chain ho ho' pa pb pc hm, fun c Qp Ep Q ok hw x k => bl_run (chain_so (a := a) (b := b) (d := d) hg hh sa sb sc) ok hw x fun b c' g e q => ⟨b, rfl, k b c' g e q⟩⟩
theorem to_lele {a b d : Expr} {wa wb wc : WE} {pos : Pos} (ha : PdE X XE a wa) (hb : PdE X XE b wb) (hc : PdE X XE d wc) (hm : lastMarks [.LtE, .LtE] [b, d] = false := by with_unfolding_all rfl) : PdT X XE (.Compare a [.LtE, .LtE] [b, d] pos) (wB (wChain gLe gLe wa wb wc)) :=
  pt_chainD op_le op_le (op2_int fun _ _ _ => rfl) (op2_int fun _ _ _ => rfl) ha hb hc hm
theorem go_isT2 {p p2 p3 p4 pos : Pos} {a : Expr} {w : WE} {x1} (T T' : Ty) {x y : Str} (hi : X.mg "isinstance" = none) (hm : X.mg x = none) (hm' : X.mg y = none) (hv : bootBuiltins x = some (.type T.name)) (hv' : bootBuiltins y = some (.type T'.name)) (ha : PdE X XE a w) (gl : Gl X "isinstance" := by rfl) (gx : Gl X x := by rfl) (gy : Gl X y := by rfl)
    (hn : x ≠ "__name__" := by decide) (hn' : y ≠ "__name__" := by decide) (hd : (x == ("__debug__" : Str)) = false := by decide) (hd' : (y == ("__debug__" : Str)) = false := by decide)
    (hs1 : starEach [.Name x p3, .Name y p4] X.env = (false, eval (.Name x p3) X.env) :: starEach [.Name y p4] X.env := by rfl) (hs2 : starEach [.Name y p4] X.env = (false, eval (.Name y p4) X.env) :: starEach [] X.env := by rfl)
    (he : starEach [a, .Tuple [.Name x p3, .Name y p4] x1 p2] X.env = (false, eval a X.env) :: starEach [.Tuple [.Name x p3, .Name y p4] x1 p2] X.env := by rfl) (he2 : starEach [.Tuple [.Name x p3, .Name y p4] x1 p2] X.env = (false, eval (.Tuple [.Name x p3, .Name y p4] x1 p2) X.env) :: starEach [] X.env := by rfl)
    (hpl : (backTo pos (starEach [.Tuple [.Name x p3, .Name y p4] x1 p2] X.env)).any (·.1) = false := by rfl) : PdE X XE (.Call (.Name "isinstance" p) [a, .Tuple [.Name x p3, .Name y p4] x1 p2] [] pos) (wIsi (fT2 T T') w) :=
  pd_isiT (cs := [.ty T.name, .ty T'.name]) (us := [.type T.name, .type T'.name]) (fT2_ok T T') (pa_cons (pe_bltn (v := .ty T.name) gx hm hv rfl hn hd) (pa_cons (pe_bltn (v := .ty T'.name) gy hm' hv' rfl hn' hd') pa_nil hs2) hs1) (fun σ H Q h => h) (.cons (.ty _) (.cons (.ty _) .nil)) (by show 2 ≤ 16777216; decide) gl hi ha he he2 hpl
end
end PL
namespace PL
open PySem PySem.Spec PyProof.Rows L2
variable [HasT]
/-- [f x for x in ds] -/
theorem lc_map {wt : WG} {we : WE} {vs : List Nat} {ρ : Env} {Q : R → Env → Prop} (f : D → D) : ∀ {ds acc : List D},
    (∀ d ∈ ds, ∀ k : D → Env → Prop, (∀ ρ3, wipeE ρ3 vs = ρ → k (f d) ρ3) → wt d ρ fun ρ1 => wK we ρ1 k (fun _ _ => False)) → Q (.tmp (.lst (acc ++ ds.map f))) ρ → wLcL wt wYes we vs ds acc ρ Q
  | [], acc, _, q => by simpa [wLcL] using q
  | d :: ds, acc, h, q => by
    have ih := fun acc' q' => lc_map (wt := wt) (we := we) (vs := vs) (ρ := ρ) (Q := Q) f (ds := ds) (acc := acc') (fun d' hd => h d' (List.mem_cons_of_mem _ hd)) q'
    have h1 := h d List.mem_cons_self (fun y ρ3 => wLcL wt wYes we vs ds (acc ++ [y]) (wipeE ρ3 vs) Q) fun ρ3 e => by
      rw [e]
      exact ih _ (by simpa using q)
    simp only [wLcL, wYes, if_true]
    exact h1
/-- [f x for x in ds if p x] -/
theorem lc_fil {wt : WG} {tt : WT} {we : WE} {vs : List Nat} {ρ : Env} {Q : R → Env → Prop} (p : D → Bool) (f : D → D) : ∀ {ds acc : List D},
    (∀ d ∈ ds, ∀ (k : D → Env → Prop) (k0 : Env → Prop), (p d = true → ∀ ρ3, wipeE ρ3 vs = ρ → k (f d) ρ3) → (p d = false → ∀ ρ2, wipeE ρ2 vs = ρ → k0 ρ2) → wt d ρ fun ρ1 => tt ρ1 (fun b ρ2 => if b = true then wK we ρ2 k (fun _ _ => False) else k0 ρ2) (fun _ _ => False)) →
    Q (.tmp (.lst (acc ++ (ds.filter p).map f))) ρ → wLcL wt tt we vs ds acc ρ Q
  | [], acc, _, q => by simpa [wLcL] using q
  | d :: ds, acc, h, q => by
    have ih := fun acc' q' => lc_fil (wt := wt) (tt := tt) (we := we) (vs := vs) (ρ := ρ) (Q := Q) p f (ds := ds) (acc := acc') (fun d' hd => h d' (List.mem_cons_of_mem _ hd)) q'
    have h1 := h d List.mem_cons_self (fun y ρ3 => wLcL wt tt we vs ds (acc ++ [y]) (wipeE ρ3 vs) Q) (fun ρ2 => wLcL wt tt we vs ds acc (wipeE ρ2 vs) Q) (fun hp ρ3 e => by
      rw [e]
      exact ih _ (by simpa [hp] using q)) (fun hp ρ2 e => by
      rw [e]
      exact ih _ (by simpa [hp] using q))
    simp only [wLcL]
    exact h1
/-- for x in ds: an invariant of the turns done -/
theorem for_inv {wt : WG} {wb : WS} {Dp : PEnds} (I : Nat → Env → Prop) : ∀ {ds : List D} {ρ : Env} (i : Nat), I i ρ →
    (∀ j (d : D) ρ, ds[j]? = some d → I (i + j) ρ → ∀ N : Env → Prop, (∀ ρ', I (i + j + 1) ρ' → N ρ') → wt d ρ fun ρ1 => wb { Dp with nx := N, ct := N, bk := Dp.nx } ρ1) →
    (∀ ρ, I (i + ds.length) ρ → Dp.nx ρ) → wForL wt wb ds Dp ρ
  | [], ρ, i, h, _, q => q ρ h
  | d :: ds, ρ, i, h, st, q => by
    refine st 0 d ρ rfl h _ fun ρ2 h2 => ?_
    refine for_inv I (i + 1) h2 (fun j d' ρ' e hI N hN => ?_) fun ρ' hI => q ρ' (by simpa [Nat.add_assoc, Nat.add_comm, Nat.add_left_comm] using hI)
    exact st (j + 1) d' ρ' (by simpa using e) (by rw [show i + (j + 1) = i + 1 + j by omega]; exact hI) N fun ρ2 h3 => hN ρ2 (by rw [show i + 1 + j + 1 = i + (j + 1) + 1 by omega]; exact h3)
/-- while: an invariant and a measure -/
theorem while_inv {wt : WT} {wb : WS} {Dp : PEnds} (I : Nat → Env → Prop) {ρ : Env} {n : Nat} (h : I n ρ)
    (st : ∀ n ρ, I n ρ → ∀ N : Env → Prop, (∀ m ρ', m < n → I m ρ' → N ρ') → wt ρ (fun b ρ' => if b = true then wb { Dp with nx := N, ct := N, bk := Dp.nx } ρ' else Dp.nx ρ') Dp.ex) : wWhile wt wb Dp ρ := by
  have aux : ∀ (n : Nat) (ρ : Env), I n ρ → ∀ m, n < m → wWhileN wt wb m Dp ρ := by
    intro n
    induction n using Nat.strongRecOn with
    | _ n ih =>
      intro ρ h m hm
      cases m with
      | zero => omega
      | succ m => exact st n ρ h _ fun m' ρ' h1 h2 => ih m' h1 ρ' h2 m (by omega)
  exact ⟨n + 1, aux n ρ h _ (Nat.lt_succ_self n)⟩
theorem atI_nat {α : Type} (l : List α) (n : Nat) : atI l (n : Int) = l[n]? := by
  unfold atI ixN
  rw [if_pos (Int.natCast_nonneg n)]
  by_cases h : n < l.length
  · rw [if_pos (by omega)]
    rfl
  · rw [if_neg (by omega), List.getElem?_eq_none (by omega)]
    rfl
theorem atI_0 {α : Type} (a : α) (l : List α) : atI (a :: l) 0 = some a := atI_nat (a :: l) 0
theorem atI_1 {α : Type} (a b : α) (l : List α) : atI (a :: b :: l) 1 = some b := atI_nat (a :: b :: l) 1
theorem atI_2 {α : Type} (a b c : α) (l : List α) : atI (a :: b :: c :: l) 2 = some c := atI_nat (a :: b :: c :: l) 2
theorem atI_3 {α : Type} (a b c d : α) (l : List α) : atI (a :: b :: c :: d :: l) 3 = some d := atI_nat (a :: b :: c :: d :: l) 3
theorem atI_4 {α : Type} (a b c d e : α) (l : List α) : atI (a :: b :: c :: d :: e :: l) 4 = some e := atI_nat (a :: b :: c :: d :: e :: l) 4
theorem cut_from {α : Type} (l : List α) (n : Nat) : cut l (some (n : Int)) none = l.drop n := by
  unfold cut
  rw [HT.sIx_nat, HT.sIx_none]
  by_cases h : n ≤ l.length
  · rw [Nat.min_eq_left h, List.take_of_length_le (by simp)]
  · rw [Nat.min_eq_right (by omega), List.drop_eq_nil_of_le (Nat.le_refl _), List.drop_eq_nil_of_le (by omega)]
    simp
theorem cut_to {α : Type} (l : List α) (n : Nat) : cut l none (some (n : Int)) = l.take n := by
  unfold cut
  rw [HT.sIx_nat, HT.sIx_none]
  by_cases h : n ≤ l.length
  · rw [Nat.min_eq_left h]; rfl
  · rw [Nat.min_eq_right (by omega), List.take_of_length_le (by simp), List.take_of_length_le (by omega)]
    rfl
theorem cut_1 {α : Type} (a : α) (l : List α) : cut (a :: l) (some 1) none = l := cut_from (a :: l) 1
end PL
namespace PL
open PySem PySem.Spec PyProof.Rows L2
variable [HasT]
def kIf (A B : Env → Prop) (b : Bool) (ρ : Env) : Prop := if b = true then A ρ else B ρ
theorem kIf_t {A B : Env → Prop} {ρ : Env} : kIf A B true ρ = A ρ := Eq.trans rfl rfl
theorem kIf_f {A B : Env → Prop} {ρ : Env} : kIf A B false ρ = B ρ := Eq.trans rfl rfl
def oK {α : Type} (o : Option α) (k : α → Prop) : Prop := match o with
  | some a => k a
  | none => False
theorem oK_s {α : Type} {a : α} {k : α → Prop} : oK (some a) k = k a := Eq.trans rfl rfl
def kV (Q : R → Env → Prop) (r : R) (ρ : Env) : Prop := match r with
  | .tmp d => frz d (Q (.val d) ρ)
  | r => Q r ρ
theorem kV_val {Q : R → Env → Prop} {d : D} {ρ : Env} : kV Q (.val d) ρ = Q (.val d) ρ := Eq.trans rfl rfl
theorem kV_tmp {Q : R → Env → Prop} {d : D} {ρ : Env} : kV Q (.tmp d) ρ = frz d (Q (.val d) ρ) := Eq.trans rfl rfl
theorem kV_slot {Q : R → Env → Prop} {i : Nat} {ρ : Env} : kV Q (.slot i) ρ = Q (.slot i) ρ := Eq.trans rfl rfl
theorem frz_lst {ds : List D} {p : Prop} : frz (.lst ds) p = p := Eq.trans rfl rfl
theorem frz_dic {ks : List Key} {ds : List D} {p : Prop} : frz (.dic ks ds) p = p := Eq.trans rfl rfl
theorem frz_obj {c : Str} {ks : List Str} {ds : List D} {p : Prop} : frz (.obj c ks ds) p = p := Eq.trans rfl rfl
def kK (Q : D → Env → Prop) (r : R) (ρ' : Env) : Prop := match r with
  | .val d => Q d ρ'
  | .tmp d => frz d (Q d ρ')
  | .slot i => match ρ'[i]? with
    | some (some (.val d)) => Q d ρ'
    | some (some (.own false d)) => frz d (Q d (ρ'.set i (some (.val d))))
    | _ => False
theorem kK_val {Q : D → Env → Prop} {d : D} {ρ : Env} : kK Q (.val d) ρ = Q d ρ := Eq.trans rfl rfl
theorem kK_tmp {Q : D → Env → Prop} {d : D} {ρ : Env} : kK Q (.tmp d) ρ = frz d (Q d ρ) := Eq.trans rfl rfl
def kKo (Q : D → Env → Prop) (i : Nat) (ρ : Env) (o : Option Ent) : Prop := match o with
  | some (.val d) => Q d ρ
  | some (.own false d) => frz d (Q d (ρ.set i (some (.val d))))
  | _ => False
theorem kKo_v {Q : D → Env → Prop} {d : D} {i : Nat} {ρ : Env} : kKo Q i ρ (some (.val d)) = Q d ρ := Eq.trans rfl rfl
theorem kKo_o {Q : D → Env → Prop} {d : D} {i : Nat} {ρ : Env} : kKo Q i ρ (some (.own false d)) = frz d (Q d (ρ.set i (some (.val d)))) := Eq.trans rfl rfl
theorem kK_slot {Q : D → Env → Prop} {i : Nat} {ρ : Env} : kK Q (.slot i) ρ = oK (ρ[i]?) (kKo Q i ρ) := by
  have e2 : kK Q (.slot i) ρ = (match ρ[i]? with
      | some (some (.val d)) => Q d ρ
      | some (some (.own false d)) => frz d (Q d (ρ.set i (some (.val d))))
      | _ => False) := rfl
  rw [e2]
  unfold oK kKo
  cases ρ[i]? with
  | none => rfl
  | some e =>
    rcases e with _ | ⟨d⟩ | ⟨b, d⟩
    · rfl
    · rfl
    · cases b <;> rfl
def kB (Q : Bool → Env → Prop) (r : R) (ρ' : Env) : Prop := match r with
  | .val (.bl b) => Q b ρ'
  | _ => False
theorem kB_bl {Q : Bool → Env → Prop} {b : Bool} {ρ : Env} : kB Q (.val (.bl b)) ρ = Q b ρ := Eq.trans rfl rfl
def kSo (Q : Option Int → Env → Prop) (r : R) (ρ' : Env) : Prop := match r with
  | .val (.int i) => Q (some i) ρ'
  | _ => False
theorem kSo_int {Q : Option Int → Env → Prop} {i : Int} {ρ : Env} : kSo Q (.val (.int i)) ρ = Q (some i) ρ := Eq.trans rfl rfl
section
variable {n bk ct : Env → Prop} {r : R → Env → Prop} {ex : Ex → Env → Prop} {ρ : Env} {D' : PEnds} {i' : Nat}
theorem x_seq {a b : WS} : wSeq a b ⟨n, r, bk, ct, ex⟩ ρ = a ⟨fun ρ' => b ⟨n, r, bk, ct, ex⟩ ρ', r, bk, ct, ex⟩ ρ := Eq.trans rfl rfl
theorem x_next : wNext ⟨n, r, bk, ct, ex⟩ ρ = n ρ := Eq.trans rfl rfl
theorem x_break : wBreak ⟨n, r, bk, ct, ex⟩ ρ = bk ρ := Eq.trans rfl rfl
theorem x_expr {w : WE} : wExpr w ⟨n, r, bk, ct, ex⟩ ρ = w ρ (fun _ ρ' => n ρ') ex := Eq.trans rfl rfl
def kRet (r : R → Env → Prop) (s : R) (ρ' : Env) : Prop := match s with
  | .slot i => match ρ'[i]? with
    | some (some (.val d)) => r (.val d) ρ'
    | some (some (.own false d)) => r (.tmp d) (ρ'.set i none)
    | _ => False
  | s => r s ρ'
theorem kRet_val {d : D} : kRet r (.val d) ρ = r (.val d) ρ := Eq.trans rfl rfl
theorem kRet_tmp {d : D} : kRet r (.tmp d) ρ = r (.tmp d) ρ := Eq.trans rfl rfl
def kRo (r : R → Env → Prop) (i : Nat) (ρ : Env) (o : Option Ent) : Prop := match o with
  | some (.val d) => r (.val d) ρ
  | some (.own false d) => r (.tmp d) (ρ.set i none)
  | _ => False
theorem kRo_v {i : Nat} {d : D} : kRo r i ρ (some (.val d)) = r (.val d) ρ := Eq.trans rfl rfl
theorem kRo_o {i : Nat} {d : D} : kRo r i ρ (some (.own false d)) = r (.tmp d) (ρ.set i none) := Eq.trans rfl rfl
theorem kRet_slot {i : Nat} : kRet r (.slot i) ρ = oK (ρ[i]?) (kRo r i ρ) := by
  have e2 : kRet r (.slot i) ρ = (match ρ[i]? with
      | some (some (.val d)) => r (.val d) ρ
      | some (some (.own false d)) => r (.tmp d) (ρ.set i none)
      | _ => False) := rfl
  rw [e2]
  unfold oK kRo
  cases ρ[i]? with
  | none => rfl
  | some e =>
    rcases e with _ | ⟨d⟩ | ⟨b, d⟩
    · rfl
    · rfl
    · cases b <;> rfl
theorem x_ret {w : WE} : wRet w ⟨n, r, bk, ct, ex⟩ ρ = w ρ (kRet r) ex := Eq.trans rfl rfl
theorem x_retN : wRetN ⟨n, r, bk, ct, ex⟩ ρ = r (.val .non) ρ := Eq.trans rfl rfl
theorem x_if {wt : WT} {wa wb : WS} : wIf wt wa wb ⟨n, r, bk, ct, ex⟩ ρ = wt ρ (kIf (wa ⟨n, r, bk, ct, ex⟩) (wb ⟨n, r, bk, ct, ex⟩)) ex := Eq.trans rfl rfl
theorem x_asg {w : WE} {g : WG} : wAsg w g ⟨n, r, bk, ct, ex⟩ ρ = w ρ (kK fun d ρ' => g d ρ' n) ex := Eq.trans rfl rfl
/-- slot i may be stored to -/
def frS (ρ : Env) (i : Nat) : Bool := match ρ[i]? with
  | some (some (.own true _)) => false
  | some _ => true
  | none => false
def frO (o : Option (Option Ent)) : Bool := match o with
  | some (some (.own true _)) => false
  | some _ => true
  | none => false
theorem frO_n : frO (some none) = true := Eq.trans rfl rfl
theorem frO_v {d : D} : frO (some (some (.val d))) = true := Eq.trans rfl rfl
theorem frO_o {d : D} : frO (some (some (.own false d))) = true := Eq.trans rfl rfl
theorem x_frS : frS ρ i' = frO (ρ[i']?) := by
  unfold frS frO
  cases ρ[i']? with
  | none => rfl
  | some e =>
    rcases e with _ | ⟨d⟩ | ⟨b, d⟩
    · rfl
    · rfl
    · cases b <;> rfl
def kSet (i : Nat) (n : Env → Prop) (r : R) (ρ' : Env) : Prop := match ρ'[i]? with
  | some (some (.own true _)) => False
  | some _ => match r with
    | .val d => n (ρ'.set i (some (.val d)))
    | .tmp d => n (ρ'.set i (some (.own false d)))
    | .slot j => match ρ'[j]? with
      | some (some (.val d)) => n (ρ'.set i (some (.val d)))
      | some (some (.own false d)) => frz d (n ((ρ'.set j (some (.val d))).set i (some (.val d))))
      | _ => False
  | none => False
theorem frS_cases {ρ : Env} {i : Nat} (h : frS ρ i = true) : ρ[i]? = some none ∨ (∃ d, ρ[i]? = some (some (.val d))) ∨ ∃ d, ρ[i]? = some (some (.own false d)) := by
  unfold frS at h
  split at h
  · cases h
  next y hy e =>
    cases y with
    | none => exact .inl e
    | some y =>
      cases y with
      | val d => exact .inr (.inl ⟨d, e⟩)
      | own b d =>
        cases b with
        | false => exact .inr (.inr ⟨d, e⟩)
        | true => exact absurd rfl (hy d)
  · cases h
theorem kSet_val {i : Nat} {d : D} (h : frS ρ i = true) : kSet i n (.val d) ρ = n (ρ.set i (some (.val d))) := by
  unfold kSet
  rcases frS_cases h with e | ⟨_, e⟩ | ⟨_, e⟩ <;> simp only [e]
theorem kSet_tmp {i : Nat} {d : D} (h : frS ρ i = true) : kSet i n (.tmp d) ρ = n (ρ.set i (some (.own false d))) := by
  unfold kSet
  rcases frS_cases h with e | ⟨_, e⟩ | ⟨_, e⟩ <;> simp only [e]
def kSl (i j : Nat) (n : Env → Prop) (ρ : Env) (o : Option Ent) : Prop := match o with
  | some (.val d) => n (ρ.set i (some (.val d)))
  | some (.own false d) => frz d (n ((ρ.set j (some (.val d))).set i (some (.val d))))
  | _ => False
theorem kSl_v {i j : Nat} {d : D} : kSl i j n ρ (some (.val d)) = n (ρ.set i (some (.val d))) := Eq.trans rfl rfl
theorem kSl_o {i j : Nat} {d : D} : kSl i j n ρ (some (.own false d)) = frz d (n ((ρ.set j (some (.val d))).set i (some (.val d)))) := Eq.trans rfl rfl
theorem kSet_slot {i j : Nat} (h : frS ρ i = true) : kSet i n (.slot j) ρ = oK (ρ[j]?) (kSl i j n ρ) := by
  have : kSet i n (.slot j) ρ = (match ρ[j]? with
      | some (some (.val d)) => n (ρ.set i (some (.val d)))
      | some (some (.own false d)) => frz d (n ((ρ.set j (some (.val d))).set i (some (.val d))))
      | _ => False) := by
    unfold kSet
    rcases frS_cases h with e | ⟨_, e⟩ | ⟨_, e⟩ <;> simp only [e]
  rw [this]
  unfold oK kSl
  cases ρ[j]? with
  | none => rfl
  | some e =>
    rcases e with _ | ⟨d⟩ | ⟨b, d⟩
    · rfl
    · rfl
    · cases b <;> rfl
theorem x_set {i : Nat} {w : WE} : wSet i w ⟨n, r, bk, ct, ex⟩ ρ = w ρ (kSet i n) ex := Eq.trans rfl rfl
theorem x_for {wi : WI} {wt : WG} {wb : WS} : wFor wi wt wb ⟨n, r, bk, ct, ex⟩ ρ = wi ρ (fun ds ρ1 => wForL wt wb ds ⟨n, r, bk, ct, ex⟩ ρ1) ex := Eq.trans rfl rfl
theorem x_name {i : Nat} {d : D} {Q : Env → Prop} (h : frS ρ i = true) : wName i d ρ Q = Q (ρ.set i (some (.val d))) := by
  unfold wName
  rcases frS_cases h with e | ⟨_, e⟩ | ⟨_, e⟩ <;> simp only [e]
theorem x_gn {Q : Env → Prop} : wGn [] ρ Q = Q ρ := Eq.trans rfl rfl
theorem x_gc {w : WG} {wr : WGs} {d : D} {ds : List D} {Q : Env → Prop} : wGc w wr (d :: ds) ρ Q = w d ρ (fun ρ' => wr ds ρ' Q) := Eq.trans rfl rfl
theorem x_unpT {k : Nat} {ws : WGs} {ds : List D} {Q : Env → Prop} (h : ds.length = k) : wUnp k ws (.tup ds) ρ Q = ws ds ρ Q := by
  show (ds.length = k ∧ ws ds ρ Q) = _
  simp only [h, true_and]
theorem x_unpL {k : Nat} {ws : WGs} {ds : List D} {Q : Env → Prop} (h : ds.length = k) : wUnp k ws (.lst ds) ρ Q = ws ds ρ Q := by
  show (ds.length = k ∧ ws ds ρ Q) = _
  simp only [h, true_and]
def kAug (i : Nat) (C : Int → Int → Prop) (f : Int → Int → Int) (m : Int) (n : Env → Prop) (r : R) (ρ' : Env) : Prop := match r with
  | .val (.int k) => C m k ∧ (match ρ'[i]? with
    | some (some (.own _ _)) => False
    | some _ => n (ρ'.set i (some (.val (.int (f m k)))))
    | none => False)
  | _ => False
/-- slot i holds no object of its own -/
def vlS (ρ : Env) (i : Nat) : Bool := match ρ[i]? with
  | some (some (.own _ _)) => false
  | some _ => true
  | none => false
def vlO (o : Option (Option Ent)) : Bool := match o with
  | some (some (.own _ _)) => false
  | some _ => true
  | none => false
theorem vlO_n : vlO (some none) = true := Eq.trans rfl rfl
theorem vlO_v {d : D} : vlO (some (some (.val d))) = true := Eq.trans rfl rfl
theorem x_vlS : vlS ρ i' = vlO (ρ[i']?) := by
  unfold vlS vlO
  cases ρ[i']? with
  | none => rfl
  | some e => rcases e with _ | ⟨d⟩ | ⟨b, d⟩ <;> rfl
theorem kAug_int {i : Nat} {C : Int → Int → Prop} {f : Int → Int → Int} {m k : Int} (h : vlS ρ i = true) : kAug i C f m n (.val (.int k)) ρ = (C m k ∧ n (ρ.set i (some (.val (.int (f m k)))))) := by
  unfold kAug
  unfold vlS at h
  cases e : ρ[i]? with
  | none => rw [e] at h; cases h
  | some y =>
    rw [e] at h
    rcases y with _ | ⟨d⟩ | ⟨b, d⟩
    · rfl
    · rfl
    · cases h
def kAu (i : Nat) (C : Int → Int → Prop) (f : Int → Int → Int) (w : WE) (n : Env → Prop) (ex : Ex → Env → Prop) (ρ : Env) (o : Option Ent) : Prop := match o with
  | some (.val (.int m)) => w ρ (kAug i C f m n) ex
  | _ => False
theorem kAu_i {i : Nat} {C : Int → Int → Prop} {f : Int → Int → Int} {w : WE} {m : Int} : kAu i C f w n ex ρ (some (.val (.int m))) = w ρ (kAug i C f m n) ex := Eq.trans rfl rfl
theorem x_aug {i : Nat} {C : Int → Int → Prop} {f : Int → Int → Int} {w : WE} : wAugI i C f w ⟨n, r, bk, ct, ex⟩ ρ = oK (ρ[i]?) (kAu i C f w n ex ρ) := by
  unfold wAugI oK kAu
  cases ρ[i]? with
  | none => rfl
  | some e =>
    rcases e with _ | ⟨d⟩ | ⟨b, d⟩
    · rfl
    · cases d <;> rfl
    · rfl
def kSetF (i : Nat) (cn f : Str) (n : Env → Prop) (d : D) (ρ' : Env) : Prop := match ρ'[i]? with
  | some (some (.own b (.obj c fs ds))) => c = cn ∧ fs.length < 1000 ∧ isBx d = false ∧ n (ρ'.set i (some (.own b (.obj c (putN fs f) (putD fs ds f d)))))
  | _ => False
def kSF (i : Nat) (cn f : Str) (n : Env → Prop) (d : D) (ρ : Env) (o : Option Ent) : Prop := match o with
  | some (.own b (.obj c fs ds)) => c = cn ∧ fs.length < 1000 ∧ isBx d = false ∧ n (ρ.set i (some (.own b (.obj c (putN fs f) (putD fs ds f d)))))
  | _ => False
theorem kSF_ok {i : Nat} {cn f : Str} {d : D} {b : Bool} {fs : List Str} {ds : List D} : kSF i cn f n d ρ (some (.own b (.obj cn fs ds))) = (fs.length < 1000 ∧ isBx d = false ∧ n (ρ.set i (some (.own b (.obj cn (putN fs f) (putD fs ds f d)))))) := by
  show (cn = cn ∧ _) = _
  simp only [true_and]
theorem kSetF_s {i : Nat} {cn f : Str} {d : D} : kSetF i cn f n d ρ = oK (ρ[i]?) (kSF i cn f n d ρ) := by
  unfold kSetF oK kSF
  cases ρ[i]? with
  | none => rfl
  | some e =>
    rcases e with _ | ⟨d'⟩ | ⟨b, d'⟩
    · rfl
    · rfl
    · cases d' <;> rfl
theorem x_setF {i : Nat} {cn f : Str} {w : WE} : wSetF i cn f w ⟨n, r, bk, ct, ex⟩ ρ = w ρ (kK (kSetF i cn f n)) ex := Eq.trans rfl rfl
theorem entOf_val {d : D} {k : Ent → Prop} : entOf (.val d) k = k (.val d) := Eq.trans rfl rfl
theorem entOf_tmp {d : D} {k : Ent → Prop} : entOf (.tmp d) k = k (.own false d) := Eq.trans rfl rfl
theorem freeE_ok {i : Nat} (h : frS ρ i = true) : freeE ρ i = True := by
  unfold freeE
  rcases frS_cases h with e | ⟨_, e⟩ | ⟨_, e⟩ <;> simp only [e]
theorem x_par {i j : Nat} {wa wb : WE} : wPar i j wa wb ⟨n, r, bk, ct, ex⟩ ρ = wa ρ (fun r1 ρ1 => wb ρ1 (fun r2 ρ2 => entOf r1 fun e1 => entOf r2 fun e2 => freeE ρ2 i ∧ freeE ρ2 j ∧ n ((ρ2.set i (some e1)).set j (some e2))) ex) ex := Eq.trans rfl rfl
end
section
variable {ρ : Env} {Q : R → Env → Prop} {Ep : Ex → Env → Prop}
def kVar (i : Nat) (Q : R → Env → Prop) (ρ : Env) (o : Option Ent) : Prop := match o with
  | some (.val d) => Q (.val d) ρ
  | some (.own _ _) => Q (.slot i) ρ
  | none => False
theorem kVar_v {i : Nat} {d : D} : kVar i Q ρ (some (.val d)) = Q (.val d) ρ := Eq.trans rfl rfl
theorem kVar_o {i : Nat} {b : Bool} {d : D} : kVar i Q ρ (some (.own b d)) = Q (.slot i) ρ := Eq.trans rfl rfl
theorem x_var {i : Nat} : wVar i ρ Q Ep = oK (ρ[i]?) (kVar i Q ρ) := by
  unfold wVar oK kVar
  cases ρ[i]? with
  | none => rfl
  | some e => rcases e with _ | ⟨d⟩ | ⟨b, d⟩ <;> rfl
theorem x_C {d : D} : wC d ρ Q Ep = Q (.val d) ρ := Eq.trans rfl rfl
theorem pk1_val {d : D} {k : D → Prop} : pk1 ρ (.val d) k = k d := Eq.trans rfl rfl
theorem pk1_tmp {d : D} {k : D → Prop} : pk1 ρ (.tmp d) k = k d := Eq.trans rfl rfl
def kPk (k : D → Prop) (o : Option Ent) : Prop := match o with
  | some e => k e.d
  | none => False
theorem kPk_s {e : Ent} {k : D → Prop} : kPk k (some e) = k e.d := Eq.trans rfl rfl
theorem pk1_slot {i : Nat} {k : D → Prop} : pk1 ρ (.slot i) k = oK (ρ[i]?) (kPk k) := by
  have e2 : peek ρ (.slot i) = (match ρ[i]? with
      | some (some e) => some e.d
      | _ => none) := rfl
  unfold pk1
  rw [e2]
  unfold oK kPk
  cases ρ[i]? with
  | none => rfl
  | some e => cases e <;> rfl
theorem x_V {w : WE} : wV w ρ Q Ep = w ρ (kV Q) Ep := by
  unfold wV
  congr 1
theorem x_K {w : WE} {Q : D → Env → Prop} : wK w ρ Q Ep = w ρ (kK Q) Ep := Eq.trans rfl rfl
theorem x_op1 {g : G1} {wa : WE} : wOp1 g wa ρ Q Ep = wV wa ρ (fun r ρ1 => pk1 ρ1 r fun d => g d fun s => Q s ρ1) Ep := Eq.trans rfl rfl
theorem x_op2 {g : G2} {wa wb : WE} : wOp2 g wa wb ρ Q Ep = wV wa ρ (fun r ρ1 => wV wb ρ1 (fun s ρ2 => pk1 ρ2 r fun d => pk1 ρ2 s fun e => g d e fun z => Q z ρ2) Ep) Ep := Eq.trans rfl rfl
theorem x_B {w : WE} {Q : Bool → Env → Prop} : wB w ρ Q Ep = w ρ (kB Q) Ep := Eq.trans rfl rfl
theorem x_notT {w : WT} {Q : Bool → Env → Prop} : wNotT w ρ Q Ep = w ρ (fun b ρ' => Q (!b) ρ') Ep := Eq.trans rfl rfl
theorem x_andT {wa wb : WT} {Q : Bool → Env → Prop} : wAndT wa wb ρ Q Ep = wa ρ (kIf (fun ρ' => wb ρ' Q Ep) (fun ρ' => Q false ρ')) Ep := Eq.trans rfl rfl
theorem x_orT {wa wb : WT} {Q : Bool → Env → Prop} : wOrT wa wb ρ Q Ep = wa ρ (kIf (fun ρ' => Q true ρ') (fun ρ' => wb ρ' Q Ep)) Ep := Eq.trans rfl rfl
theorem x_and {wa wb : WE} : wAnd wa wb ρ Q Ep = wB wa ρ (kIf (fun ρ' => wb ρ' Q Ep) (fun ρ' => Q (.val (.bl false)) ρ')) Ep := Eq.trans rfl rfl
theorem x_or {wa wb : WE} : wOr wa wb ρ Q Ep = wB wa ρ (kIf (fun ρ' => Q (.val (.bl true)) ρ') (fun ρ' => wb ρ' Q Ep)) Ep := Eq.trans rfl rfl
theorem x_not {wa : WE} : wNot wa ρ Q Ep = wB wa ρ (fun b ρ' => Q (.val (.bl (!b))) ρ') Ep := Eq.trans rfl rfl
theorem x_ife {wt : WT} {wa wb : WE} : wIfE wt wa wb ρ Q Ep = wt ρ (kIf (fun ρ' => wa ρ' Q Ep) (fun ρ' => wb ρ' Q Ep)) Ep := Eq.trans rfl rfl
def kCh (h : G2) (wc : WE) (ρ2 : Env) (s : R) (Q : R → Env → Prop) (Ep : Ex → Env → Prop) (z : R) : Prop := match z with
  | .val (.bl true) => wV wc ρ2 (fun u ρ3 => pk1 ρ3 s fun e => pk1 ρ3 u fun f => h e f fun z => Q z ρ3) Ep
  | .val (.bl false) => Q (.val (.bl false)) ρ2
  | _ => False
theorem kCh_t {h : G2} {wc : WE} {s : R} : kCh h wc ρ s Q Ep (.val (.bl true)) = wV wc ρ (fun u ρ3 => pk1 ρ3 s fun e => pk1 ρ3 u fun f => h e f fun z => Q z ρ3) Ep := Eq.trans rfl rfl
theorem kCh_f {h : G2} {wc : WE} {s : R} : kCh h wc ρ s Q Ep (.val (.bl false)) = Q (.val (.bl false)) ρ := Eq.trans rfl rfl
theorem x_chain {g h : G2} {wa wb wc : WE} : wChain g h wa wb wc ρ Q Ep = wV wa ρ (fun r ρ1 => wV wb ρ1 (fun s ρ2 => pk1 ρ2 r fun d => pk1 ρ2 s fun e => g d e (kCh h wc ρ2 s Q Ep)) Ep) Ep := Eq.trans rfl rfl
theorem x_Kn {Q : List D → Env → Prop} : wKn ρ Q Ep = Q [] ρ := Eq.trans rfl rfl
theorem x_Kc {w : WE} {wr : WL} {Q : List D → Env → Prop} : wKc w wr ρ Q Ep = wK w ρ (fun d ρ1 => wr ρ1 (fun ds ρ2 => Q (d :: ds) ρ2) Ep) Ep := Eq.trans rfl rfl
theorem x_Vn {Q : List R → Env → Prop} : wVn ρ Q Ep = Q [] ρ := Eq.trans rfl rfl
theorem x_Vc {w : WE} {wr : WR} {Q : List R → Env → Prop} : wVc w wr ρ Q Ep = wV w ρ (fun d ρ1 => wr ρ1 (fun ds ρ2 => Q (d :: ds) ρ2) Ep) Ep := Eq.trans rfl rfl
theorem x_tup {w : WL} : wTup w ρ Q Ep = w ρ (fun ds ρ' => Q (.val (.tup ds)) ρ') Ep := Eq.trans rfl rfl
theorem x_lst {w : WL} : wLst w ρ Q Ep = w ρ (fun ds ρ' => Q (.tmp (.lst ds)) ρ') Ep := Eq.trans rfl rfl
theorem x_dic {ks : List Key} {w : WL} : wDic ks w ρ Q Ep = w ρ (fun ds ρ' => Q (.tmp (.dic ks ds)) ρ') Ep := Eq.trans rfl rfl
theorem x_None {Q : Option Int → Env → Prop} : wNone ρ Q Ep = Q none ρ := Eq.trans rfl rfl
theorem x_Some {w : WE} {Q : Option Int → Env → Prop} : wSome w ρ Q Ep = w ρ (kSo Q) Ep := Eq.trans rfl rfl
theorem x_Sl {w : WE} {wl wh : WO} : wSl w wl wh ρ Q Ep = wV w ρ (fun r ρ1 => wl ρ1 (fun lo ρ2 => wh ρ2 (fun hi ρ3 => pk1 ρ3 r fun d => gSl d lo hi fun z => Q z ρ3) Ep) Ep) Ep := Eq.trans rfl rfl
theorem gSl_lst {ds : List D} {lo hi : Option Int} {Q : R → Prop} : gSl (.lst ds) lo hi Q = Q (.tmp (.lst (cut ds lo hi))) := Eq.trans rfl rfl
theorem gSl_tup {ds : List D} {lo hi : Option Int} {Q : R → Prop} : gSl (.tup ds) lo hi Q = Q (.val (.tup (cut ds lo hi))) := Eq.trans rfl rfl
theorem x_call {g : GN} {w : WR} : wCall g w ρ Q Ep = w ρ (fun rs ρ' => pkL ρ' rs fun ds => g ds fun z => Q z ρ') Ep := Eq.trans rfl rfl
theorem pkL_nil {k : List D → Prop} : pkL ρ [] k = k [] := Eq.trans rfl rfl
theorem pkL_cons {r : R} {rs : List R} {k : List D → Prop} : pkL ρ (r :: rs) k = pk1 ρ r fun d => pkL ρ rs fun ds => k (d :: ds) := Eq.trans rfl rfl
def kIs (o : Option Bool) (Q : R → Env → Prop) (ρ : Env) : Prop := match o with
  | some b => Q (.val (.bl b)) ρ
  | none => False
theorem kIs_s {b : Bool} : kIs (some b) Q ρ = Q (.val (.bl b)) ρ := Eq.trans rfl rfl
theorem x_isi {f : D → Option Bool} {w : WE} : wIsi f w ρ Q Ep = wV w ρ (fun r ρ' => pk1 ρ' r fun d => kIs (f d) Q ρ') Ep := Eq.trans rfl rfl
theorem isBx_box {d : D} : isBx (.box d) = true := Eq.trans rfl rfl
theorem unB_box {d : D} : unB (.box d) = d := Eq.trans rfl rfl
theorem fQ_box {d : D} {k : D → Prop} : fldQ true (.box d) k = k d := by
  show ((true = true) ∧ k d) = _
  simp only [true_and]
theorem isBx_non : isBx (.non) = false := Eq.trans rfl rfl
theorem fQ_non {b' : Bool} {k : D → Prop} : fldQ b' (.non) k = k (.non) := Eq.trans rfl rfl
theorem isBx_bl {b : Bool} : isBx (.bl b) = false := Eq.trans rfl rfl
theorem fQ_bl {b : Bool} {b' : Bool} {k : D → Prop} : fldQ b' (.bl b) k = k (.bl b) := Eq.trans rfl rfl
theorem isBx_int {i : Int} : isBx (.int i) = false := Eq.trans rfl rfl
theorem fQ_int {i : Int} {b' : Bool} {k : D → Prop} : fldQ b' (.int i) k = k (.int i) := Eq.trans rfl rfl
theorem isBx_str {x : Str} : isBx (.str x) = false := Eq.trans rfl rfl
theorem fQ_str {x : Str} {b' : Bool} {k : D → Prop} : fldQ b' (.str x) k = k (.str x) := Eq.trans rfl rfl
theorem isBx_tup {ds : List D} : isBx (.tup ds) = false := Eq.trans rfl rfl
theorem fQ_tup {ds : List D} {b' : Bool} {k : D → Prop} : fldQ b' (.tup ds) k = k (.tup ds) := Eq.trans rfl rfl
theorem isBx_lst {ds : List D} : isBx (.lst ds) = false := Eq.trans rfl rfl
theorem fQ_lst {ds : List D} {b' : Bool} {k : D → Prop} : fldQ b' (.lst ds) k = k (.lst ds) := Eq.trans rfl rfl
theorem isBx_dic {ks : List Key} {ds : List D} : isBx (.dic ks ds) = false := Eq.trans rfl rfl
theorem fQ_dic {ks : List Key} {ds : List D} {b' : Bool} {k : D → Prop} : fldQ b' (.dic ks ds) k = k (.dic ks ds) := Eq.trans rfl rfl
theorem isBx_dit {ks : List (List Key)} {ds : List D} : isBx (.dit ks ds) = false := Eq.trans rfl rfl
theorem fQ_dit {ks : List (List Key)} {ds : List D} {b' : Bool} {k : D → Prop} : fldQ b' (.dit ks ds) k = k (.dit ks ds) := Eq.trans rfl rfl
theorem isBx_obj {c : Str} {fs : List Str} {ds : List D} : isBx (.obj c fs ds) = false := Eq.trans rfl rfl
theorem fQ_obj {c : Str} {fs : List Str} {ds : List D} {b' : Bool} {k : D → Prop} : fldQ b' (.obj c fs ds) k = k (.obj c fs ds) := Eq.trans rfl rfl
theorem isBx_exc {c : Str} {fs : List Str} {ds : List D} : isBx (.exc c fs ds) = false := Eq.trans rfl rfl
theorem fQ_exc {c : Str} {fs : List Str} {ds : List D} {b' : Bool} {k : D → Prop} : fldQ b' (.exc c fs ds) k = k (.exc c fs ds) := Eq.trans rfl rfl
theorem isBx_kst {ds : List D} : isBx (.kst ds) = false := Eq.trans rfl rfl
theorem fQ_kst {ds : List D} {b' : Bool} {k : D → Prop} : fldQ b' (.kst ds) k = k (.kst ds) := Eq.trans rfl rfl
def frzO (o : Option (Option Ent)) : Bool := match o with
  | some (some (.val _)) => true
  | _ => false
theorem frzO_v {d : D} : frzO (some (some (.val d))) = true := Eq.trans rfl rfl
theorem frzO_o {b : Bool} {d : D} : frzO (some (some (.own b d))) = false := Eq.trans rfl rfl
theorem frzR_v {d : D} : frzR ρ (.val d) = true := Eq.trans rfl rfl
theorem frzR_s {i : Nat} : frzR ρ (.slot i) = frzO (ρ[i]?) := by
  show (match ρ[i]? with | some (some (.val _)) => true | _ => false) = _
  unfold frzO
  cases ρ[i]? with
  | none => rfl
  | some e =>
    rcases e with _ | ⟨d⟩ | ⟨b, d⟩ <;> rfl
def kFld (cn f : Str) (Q : R → Env → Prop) (ρ : Env) (r : R) (d : D) : Prop := match d with
  | .obj c fs ds => c = cn ∧ match fldD fs ds f with
    | some x => fldQ (frzR ρ r) x fun y => Q (.val y) ρ
    | none => False
  | _ => False
theorem kFld_o {cn f : Str} {fs : List Str} {ds : List D} {r : R} : kFld cn f Q ρ r (.obj cn fs ds) = oK (fldD fs ds f) fun x => fldQ (frzR ρ r) x fun y => Q (.val y) ρ := by
  show (cn = cn ∧ (match fldD fs ds f with | some x => fldQ (frzR ρ r) x fun y => Q (.val y) ρ | none => False)) = _
  simp only [true_and]
  unfold oK
  cases fldD fs ds f <;> rfl
theorem x_fld {cn f : Str} {w : WE} : wFld cn f w ρ Q Ep = wV w ρ (fun r ρ' => pk1 ρ' r (kFld cn f Q ρ' r)) Ep := Eq.trans rfl rfl
theorem toArgs_nil {k : List Ent → Prop} : toArgs ρ [] k = k [] := Eq.trans rfl rfl
theorem toArgs_val {d : D} {rs : List R} {k : List Ent → Prop} : toArgs ρ (.val d :: rs) k = toArgs ρ rs fun as => k (.val d :: as) := Eq.trans rfl rfl
def kTa (ρ : Env) (rs : List R) (k : List Ent → Prop) (o : Option Ent) : Prop := match o with
  | some (.val d) => toArgs ρ rs fun as => k (.val d :: as)
  | some (.own _ d) => toArgs ρ rs fun as => k (.own true d :: as)
  | none => False
theorem kTa_v {d : D} {rs : List R} {k : List Ent → Prop} : kTa ρ rs k (some (.val d)) = toArgs ρ rs fun as => k (.val d :: as) := Eq.trans rfl rfl
theorem kTa_o {b : Bool} {d : D} {rs : List R} {k : List Ent → Prop} : kTa ρ rs k (some (.own b d)) = toArgs ρ rs fun as => k (.own true d :: as) := Eq.trans rfl rfl
theorem toArgs_slot {i : Nat} {rs : List R} {k : List Ent → Prop} : toArgs ρ (.slot i :: rs) k = oK (ρ[i]?) (kTa ρ rs k) := by
  have e1 : toArgs ρ (.slot i :: rs) k = (match argOf ρ (.slot i) with
      | some a => toArgs ρ rs fun as => k (a :: as)
      | none => False) := by
    rw [toArgs]
    all_goals (cases argOf ρ (.slot i) <;> rfl)
  have e2 : argOf ρ (.slot i) = (match ρ[i]? with
      | some (some (.val d)) => some (.val d)
      | some (some (.own _ d)) => some (.own true d)
      | _ => none) := rfl
  rw [e1, e2]
  unfold oK kTa
  cases ρ[i]? with
  | none => rfl
  | some e => rcases e with _ | ⟨d⟩ | ⟨b, d⟩ <;> rfl
theorem x_callF {fs : FS} {dds : List D} {wr : WR} : wCallF fs dds wr ρ Q Ep = wr ρ (fun rs ρ' => toArgs ρ' rs fun args => ndS rs = true ∧ fs (args ++ dds.map .val) (fun r args' => Q r (backA rs args' ρ')) (fun y args' => Ep y (backA rs args' ρ'))) Ep := Eq.trans rfl rfl
theorem backA_nil {as : List Ent} : backA [] as ρ = ρ := Eq.trans rfl rfl
theorem backA_v1 {d : D} {as : List Ent} : backA [.val d] as ρ = ρ := Eq.trans rfl rfl
theorem backA_v2 {d e : D} {as : List Ent} : backA [.val d, .val e] as ρ = ρ := Eq.trans rfl rfl
theorem backA_v3 {d e f : D} {as : List Ent} : backA [.val d, .val e, .val f] as ρ = ρ := Eq.trans rfl rfl
def kObj (cn m : Str) (d : D) : Prop := match d with
  | .obj c fn _ => c = cn ∧ fn.contains m = false
  | _ => False
theorem kObj_ok {cn m : Str} {fn : List Str} {ds : List D} (h : fn.contains m = false) : kObj cn m (.obj cn fn ds) = True := by
  unfold kObj
  simp only [h, and_self]
theorem x_meth {cn m : Str} {fs : FS} {dds : List D} {wo : WE} {wr : WR} : wMeth cn m fs dds wo wr ρ Q Ep = wV wo ρ (fun r0 ρ0 => pk1 ρ0 r0 fun d0 => kObj cn m d0 ∧ wr ρ0 (fun rs ρ' => toArgs ρ' (r0 :: rs) fun args => ndS (r0 :: rs) = true ∧ fs (args ++ dds.map .val) (fun r args' => Q r (backA (r0 :: rs) args' ρ')) (fun y args' => Ep y (backA (r0 :: rs) args' ρ'))) Ep) Ep := Eq.trans rfl rfl
def kMk (Q : R → Env → Prop) (rs : List R) (ρ' : Env) (r : R) (args' : List Ent) : Prop := match r, args' with
  | .val .non, .own true d :: rest => frz d (Q (.val d) (backA rs rest ρ'))
  | _, _ => False
theorem kMk_ok {rs : List R} {d : D} {rest : List Ent} : kMk Q rs ρ (.val .non) (.own true d :: rest) = frz d (Q (.val d) (backA rs rest ρ)) := Eq.trans rfl rfl
theorem x_make {cn : Str} {fs : FS} {dds : List D} {wr : WR} : wMake cn fs dds wr ρ Q Ep = wr ρ (fun rs ρ' => toArgs ρ' rs fun args => ndS rs = true ∧ fs (.own true (.obj cn [] []) :: (args ++ dds.map .val)) (kMk Q rs ρ') (fun y args' => Ep y (backA rs args'.tail ρ'))) Ep := Eq.trans rfl rfl
theorem isObj_val {cn : Str} {fs : List Str} {ds : List D} : PL.isObj cn ρ (.val (.obj cn fs ds)) = True := by
  show (cn = cn) = True
  simp
theorem x_own {cn : Str} {fs : FS} {wa wb : WE} : wOwn cn fs wa wb ρ Q Ep = wV wa ρ (fun r ρ1 => wV wb ρ1 (fun s ρ2 => PL.isObj cn ρ2 r ∧ PL.isObj cn ρ2 s ∧ toArgs ρ2 [r, s] fun args => ndS [r, s] = true ∧ fs (args ++ [].map .val) (fun z args' => Q z (backA [r, s] args' ρ2)) (fun y args' => Ep y (backA [r, s] args' ρ2))) Ep) Ep := Eq.trans rfl rfl
theorem x_ownB {cn : Str} {f : Bool → Bool} {fs : FS} {wa wb : WE} : wOwnB cn f fs wa wb ρ Q Ep = wV wa ρ (fun r ρ1 => wV wb ρ1 (fun s ρ2 => PL.isObj cn ρ2 r ∧ PL.isObj cn ρ2 s ∧ toArgs ρ2 [r, s] fun args => ndS [r, s] = true ∧ fs (args ++ [].map .val) (fun z args' => toB f Q (backA [r, s] args' ρ2) z) (fun y args' => Ep y (backA [r, s] args' ρ2))) Ep) Ep := Eq.trans rfl rfl
theorem x_ownIn {cn : Str} {f : Bool → Bool} {fs : FS} {wa wb : WE} : wOwnIn cn f fs wa wb ρ Q Ep = wV wa ρ (fun r ρ1 => wV wb ρ1 (fun s ρ2 => PL.isObj cn ρ2 s ∧ toArgs ρ2 [s, r] fun args => ndS [s, r] = true ∧ fs (args ++ [].map .val) (fun z args' => toB f Q (backA [s, r] args' ρ2) z) (fun y args' => Ep y (backA [s, r] args' ρ2))) Ep) Ep := Eq.trans rfl rfl
theorem toB_bl {f : Bool → Bool} {b : Bool} : toB f Q ρ (.val (.bl b)) = Q (.val (.bl (f b))) ρ := Eq.trans rfl rfl
theorem ndS_nil : ndS [] = true := Eq.trans rfl rfl
theorem ndS_val {d : D} {rs : List R} : ndS (.val d :: rs) = ndS rs := Eq.trans rfl rfl
def kSrc (Q : List D → Env → Prop) (d : D) (ρ' : Env) : Prop := match d with
  | .lst ds => Q ds ρ'
  | .tup ds => Q ds ρ'
  | .str z => z.cps.size ≤ sizeLine ∧ Q (z.cps.toList.map fun c => D.str ⟨#[c]⟩) ρ'
  | _ => False
theorem kSrc_lst {Q : List D → Env → Prop} {ds : List D} : kSrc Q (.lst ds) ρ = Q ds ρ := Eq.trans rfl rfl
theorem kSrc_tup {Q : List D → Env → Prop} {ds : List D} : kSrc Q (.tup ds) ρ = Q ds ρ := Eq.trans rfl rfl
theorem kSrc_str {Q : List D → Env → Prop} {z : Str} : kSrc Q (.str z) ρ = (z.cps.size ≤ sizeLine ∧ Q (z.cps.toList.map fun c => D.str ⟨#[c]⟩) ρ) := Eq.trans rfl rfl
theorem x_src {w : WE} {Q : List D → Env → Prop} : wSrc w ρ Q Ep = wK w ρ (kSrc Q) Ep := Eq.trans rfl rfl
def kEn (Q : List D → Env → Prop) (d : D) (ρ' : Env) : Prop := match d with
  | .lst ds => Q (enumD ds) ρ'
  | .tup ds => Q (enumD ds) ρ'
  | _ => False
theorem kEn_lst {Q : List D → Env → Prop} {ds : List D} : kEn Q (.lst ds) ρ = Q (enumD ds) ρ := Eq.trans rfl rfl
theorem kEn_tup {Q : List D → Env → Prop} {ds : List D} : kEn Q (.tup ds) ρ = Q (enumD ds) ρ := Eq.trans rfl rfl
theorem x_enum {w : WE} {Q : List D → Env → Prop} : wEnum w ρ Q Ep = wK w ρ (kEn Q) Ep := Eq.trans rfl rfl
def kR1 (Q : List D → Env → Prop) (d : D) (ρ' : Env) : Prop := match d with
  | .int j => (-(2 ^ 62) ≤ j ∧ j < 2 ^ 62 ∧ j.toNat ≤ sizeLine) ∧ Q (rangeD 0 j) ρ'
  | _ => False
theorem kR1_int {Q : List D → Env → Prop} {j : Int} : kR1 Q (.int j) ρ = ((-(2 ^ 62) ≤ j ∧ j < 2 ^ 62 ∧ j.toNat ≤ sizeLine) ∧ Q (rangeD 0 j) ρ) := Eq.trans rfl rfl
theorem x_rng1 {w : WE} {Q : List D → Env → Prop} : wRng1 w ρ Q Ep = wK w ρ (kR1 Q) Ep := Eq.trans rfl rfl
def kR2 (Q : List D → Env → Prop) (d e : D) (ρ' : Env) : Prop := match d, e with
  | .int i, .int j => (-(2 ^ 62) ≤ i ∧ i < 2 ^ 62 ∧ -(2 ^ 62) ≤ j ∧ j < 2 ^ 62 ∧ (j - i).toNat ≤ sizeLine) ∧ Q (rangeD i j) ρ'
  | _, _ => False
theorem kR2_int {Q : List D → Env → Prop} {i j : Int} : kR2 Q (.int i) (.int j) ρ = ((-(2 ^ 62) ≤ i ∧ i < 2 ^ 62 ∧ -(2 ^ 62) ≤ j ∧ j < 2 ^ 62 ∧ (j - i).toNat ≤ sizeLine) ∧ Q (rangeD i j) ρ) := Eq.trans rfl rfl
theorem x_rng2 {w u : WE} {Q : List D → Env → Prop} : wRng2 w u ρ Q Ep = wK w ρ (fun d ρ1 => wK u ρ1 (fun e ρ2 => kR2 Q d e ρ2) Ep) Ep := Eq.trans rfl rfl
def kZp (Q : List D → Env → Prop) (d e : D) (ρ' : Env) : Prop := match d, e with
  | .lst xs, .lst ys => Q (zipD xs ys) ρ'
  | .tup xs, .tup ys => Q (zipD xs ys) ρ'
  | _, _ => False
theorem kZp_lst {Q : List D → Env → Prop} {xs ys : List D} : kZp Q (.lst xs) (.lst ys) ρ = Q (zipD xs ys) ρ := Eq.trans rfl rfl
theorem kZp_tup {Q : List D → Env → Prop} {xs ys : List D} : kZp Q (.tup xs) (.tup ys) ρ = Q (zipD xs ys) ρ := Eq.trans rfl rfl
theorem x_zip {w u : WE} {Q : List D → Env → Prop} : wZip w u ρ Q Ep = wK w ρ (fun d ρ1 => wK u ρ1 (fun e ρ2 => kZp Q d e ρ2) Ep) Ep := Eq.trans rfl rfl
theorem x_lc {wi : WI} {wt : WG} {tt : WT} {we : WE} {vs : List Nat} : wLc wi wt tt we vs ρ Q Ep = wi ρ (fun ds ρ1 => okW ρ1 vs = true ∧ wLcL wt tt we vs ds [] (wipeE ρ1 vs) fun r ρ' => Q r (restE ρ' ρ1 vs)) Ep := Eq.trans rfl rfl
def kApp (i : Nat) (Q : R → Env → Prop) (d : D) (ρ' : Env) : Prop := match ρ'[i]? with
  | some (some (.own b (.lst ds))) => ds.length < sizeLine ∧ Q (.val .non) (ρ'.set i (some (.own b (.lst (ds ++ [d])))))
  | _ => False
def kAp1 (i : Nat) (Q : R → Env → Prop) (d : D) (ρ' : Env) (o : Option Ent) : Prop := match o with
  | some (.own b (.lst ds)) => ds.length < sizeLine ∧ Q (.val .non) (ρ'.set i (some (.own b (.lst (ds ++ [d])))))
  | _ => False
theorem kAp1_o {i : Nat} {d : D} {b : Bool} {ds : List D} : kAp1 i Q d ρ (some (.own b (.lst ds))) = (ds.length < sizeLine ∧ Q (.val .non) (ρ.set i (some (.own b (.lst (ds ++ [d])))))) := Eq.trans rfl rfl
theorem kApp_s {i : Nat} {d : D} : kApp i Q d ρ = oK (ρ[i]?) (kAp1 i Q d ρ) := by
  unfold kApp oK kAp1
  cases ρ[i]? with
  | none => rfl
  | some e =>
    rcases e with _ | ⟨d'⟩ | ⟨b, d'⟩
    · rfl
    · rfl
    · cases d' <;> rfl
def isOwnL (o : Option Ent) : Prop := match o with
  | some (.own _ (.lst _)) => True
  | _ => False
theorem isOwnL_o {b : Bool} {ds : List D} : isOwnL (some (.own b (.lst ds))) = True := Eq.trans rfl rfl
theorem x_append {i : Nat} {w : WE} : wAppend i w ρ Q Ep = (oK (ρ[i]?) isOwnL ∧ wK w ρ (kApp i Q) Ep) := by
  unfold wAppend
  congr 1
  unfold oK isOwnL
  cases ρ[i]? with
  | none => rfl
  | some e =>
    rcases e with _ | ⟨d'⟩ | ⟨b, d'⟩
    · rfl
    · rfl
    · cases d' <;> rfl
def kExt (i : Nat) (Q : R → Env → Prop) (d : D) (ρ' : Env) : Prop := match d with
  | .lst es => match ρ'[i]? with
    | some (some (.own b (.lst ds))) => ds.length + es.length ≤ sizeLine ∧ Q (.val .non) (ρ'.set i (some (.own b (.lst (ds ++ es)))))
    | _ => False
  | _ => False
def kEx1 (i : Nat) (Q : R → Env → Prop) (es : List D) (ρ' : Env) (o : Option Ent) : Prop := match o with
  | some (.own b (.lst ds)) => ds.length + es.length ≤ sizeLine ∧ Q (.val .non) (ρ'.set i (some (.own b (.lst (ds ++ es)))))
  | _ => False
theorem kEx1_o {i : Nat} {es : List D} {b : Bool} {ds : List D} : kEx1 i Q es ρ (some (.own b (.lst ds))) = (ds.length + es.length ≤ sizeLine ∧ Q (.val .non) (ρ.set i (some (.own b (.lst (ds ++ es)))))) := Eq.trans rfl rfl
theorem kExt_s {i : Nat} {es : List D} : kExt i Q (.lst es) ρ = oK (ρ[i]?) (kEx1 i Q es ρ) := by
  have e2 : kExt i Q (.lst es) ρ = (match ρ[i]? with
      | some (some (.own b (.lst ds))) => ds.length + es.length ≤ sizeLine ∧ Q (.val .non) (ρ.set i (some (.own b (.lst (ds ++ es)))))
      | _ => False) := rfl
  rw [e2]
  unfold oK kEx1
  cases ρ[i]? with
  | none => rfl
  | some e =>
    rcases e with _ | ⟨d'⟩ | ⟨b, d'⟩
    · rfl
    · rfl
    · cases d' <;> rfl
theorem x_extend {i : Nat} {w : WE} : wExtend i w ρ Q Ep = (oK (ρ[i]?) isOwnL ∧ wK w ρ (kExt i Q) Ep) := by
  unfold wExtend
  congr 1
  unfold oK isOwnL
  cases ρ[i]? with
  | none => rfl
  | some e =>
    rcases e with _ | ⟨d'⟩ | ⟨b, d'⟩
    · rfl
    · rfl
    · cases d' <;> rfl
end
section
variable {Q : R → Prop}
theorem gI_ii {f : Int → Int → D} {i j : Int} : gI f (.int i) (.int j) Q = Q (.val (f i j)) := Eq.trans rfl rfl
theorem gAdd_ii {i j : Int} : gAdd (.int i) (.int j) Q = Q (.val (.int (i + j))) := Eq.trans rfl rfl
theorem gAdd_ll {xs ys : List D} : gAdd (.lst xs) (.lst ys) Q = (xs.length + ys.length ≤ sizeLine ∧ Q (.tmp (.lst (xs ++ ys)))) := Eq.trans rfl rfl
theorem gAdd_tt {xs ys : List D} : gAdd (.tup xs) (.tup ys) Q = (xs.length + ys.length ≤ sizeLine ∧ Q (.val (.tup (xs ++ ys)))) := Eq.trans rfl rfl
theorem gMul_ii {i j : Int} : gMul (.int i) (.int j) Q = (CMul i j ∧ Q (.val (.int (i * j)))) := Eq.trans rfl rfl
theorem gIx_t {xs : List D} {i : Int} : gIx (.tup xs) (.int i) Q = oK (atI xs i) fun x => Q (.val x) := by
  show (match atI xs i with | some x => _ | none => False) = _
  unfold oK
  cases atI xs i <;> rfl
theorem gIx_l {xs : List D} {i : Int} : gIx (.lst xs) (.int i) Q = oK (atI xs i) fun x => Q (.val x) := by
  show (match atI xs i with | some x => _ | none => False) = _
  unfold oK
  cases atI xs i <;> rfl
theorem gIs_non {f : Bool → Bool} {d : D} : gIs f d .non Q = Q (.val (.bl (f (isNon d)))) := Eq.trans rfl rfl
theorem gLen_l {xs : List D} : gLen [.lst xs] Q = Q (.val (.int xs.length)) := Eq.trans rfl rfl
theorem gLen_t {xs : List D} : gLen [.tup xs] Q = Q (.val (.int xs.length)) := Eq.trans rfl rfl
theorem gLen_k {xs : List D} : gLen [.kst xs] Q = Q (.val (.int xs.length)) := Eq.trans rfl rfl
theorem gLen_s {z : Str} : gLen [.str z] Q = (z.length ≤ sizeLine ∧ Q (.val (.int z.length))) := Eq.trans rfl rfl
theorem gII_ii {f : Int → Int → Int} {i j : Int} : gII f [.int i, .int j] Q = Q (.val (.int (f i j))) := Eq.trans rfl rfl
theorem gTuple_l {xs : List D} : gTuple [.lst xs] Q = Q (.val (.tup xs)) := Eq.trans rfl rfl
theorem gTuple_t {xs : List D} : gTuple [.tup xs] Q = Q (.val (.tup xs)) := Eq.trans rfl rfl
theorem gList_l {xs : List D} : gList [.lst xs] Q = Q (.tmp (.lst xs)) := Eq.trans rfl rfl
theorem gList_t {xs : List D} : gList [.tup xs] Q = Q (.tmp (.lst xs)) := Eq.trans rfl rfl
theorem gAll_l {xs : List D} : gAll [.lst xs] Q = oK (blsD xs) fun bs => Q (.val (.bl (bs.all id))) := by
  show (match blsD xs with | some x => _ | none => False) = _
  unfold oK
  cases blsD xs <;> rfl
theorem gAny_l {xs : List D} : gAny [.lst xs] Q = oK (blsD xs) fun bs => Q (.val (.bl (bs.any id))) := by
  show (match blsD xs with | some x => _ | none => False) = _
  unfold oK
  cases blsD xs <;> rfl
theorem gSum_l {xs : List D} : gSum [.lst xs] Q = oK (intsD xs) fun bs => Q (.val (.int bs.sum)) := by
  show (match intsD xs with | some x => _ | none => False) = _
  unfold oK
  cases intsD xs <;> rfl
theorem gInS_1 {f : Bool → Bool} {c : Nat} {z : Str} : gInS f (.str ⟨#[c]⟩) (.str z) Q = Q (.val (.bl (f (decide (c ∈ z.cps.toList))))) := Eq.trans rfl rfl
theorem gDGet_o {ks : List Key} {ds : List D} {e : D} : gDGet (.dic ks ds) e Q = oK (keyD e) fun k => oK (lookD ks ds k) fun x => Q (.val x) := by
  unfold gDGet
  cases keyD e with
  | none => rfl
  | some k =>
    show (match lookD ks ds k with | some x => Q (.val x) | none => False) = oK (lookD ks ds k) fun x => Q (.val x)
    unfold oK
    cases lookD ks ds k <;> rfl
end
theorem env_of {args : List Ent} {m : Nat} : envOf args m = args.map some ++ List.replicate (m - args.length) none := Eq.trans rfl rfl
end PL
namespace PL
open PySem PySem.Spec PyProof.Rows L2
variable [HasT]
def wVk (w : WE) (wr : WR) : WR := fun ρ Q Ep => wK w ρ (fun d ρ1 => wr ρ1 (fun ds ρ2 => Q (.val d :: ds) ρ2) Ep) Ep
theorem x_Vk {w : WE} {wr : WR} {ρ : Env} {Q : List R → Env → Prop} {Ep : Ex → Env → Prop} : wVk w wr ρ Q Ep = wK w ρ (fun d ρ1 => wr ρ1 (fun ds ρ2 => Q (.val d :: ds) ρ2) Ep) Ep := Eq.trans rfl rfl
section
variable {X : Cx} {XE : XK}
theorem pv_consK {e : Expr} {es : List Expr} {w : WE} {wr : WR} (h : PdE X XE e w) (hr : PdV X XE es wr) (hs : starEach (e :: es) X.env = (false, eval e X.env) :: starEach es X.env := by rfl) : PdV X XE (e :: es) (wVk w wr) := by
  obtain ⟨t, p, s⟩ := h
  obtain ⟨tr, pr, sr⟩ := hr
  refine ⟨_, pa_cons p pr hs, fun c Qp Ep Q ok hw x k => ?_⟩
  refine runK (e := e) s ok hw x fun v c1 d g1 e1 r1 h1 => ?_
  rw [← e1]
  refine sr c1 _ Ep _ g1.ok h1 (x.go X.K X.mg g1 e1) fun vs c2 rs g2 e2 r2 l2 h2 => ?_
  exact k (v :: vs) c2 (.val d :: rs) (g1.trans X.K X.mg g2) (e2.trans e1) ⟨v, vs, rfl, r1.mono X.K X.mg g2.fr.mono _ _, r2⟩ (by simp [l2]) h2
end
end PL
namespace PL
open PySem PySem.Spec PyProof.Rows L2
variable [HasT]
theorem for_pre {α : Type} (f : α → D) (I : List α → Env → Prop) {wt : WG} {wb : WS} {Dp : PEnds} {all : List α} : ∀ (post pre : List α) {ρ : Env}, all = pre ++ post → I pre ρ →
    (∀ pre a post ρ, all = pre ++ a :: post → I pre ρ → ∀ N : Env → Prop, (∀ ρ', I (pre ++ [a]) ρ' → N ρ') → wt (f a) ρ fun ρ1 => wb { Dp with nx := N, ct := N, bk := Dp.nx } ρ1) →
    (∀ ρ, I all ρ → Dp.nx ρ) → wForL wt wb (post.map f) Dp ρ
  | [], pre, ρ, e, h, _, q => q ρ (by rw [e, List.append_nil]; exact h)
  | a :: post, pre, ρ, e, h, st, q =>
    st pre a post ρ e h _ fun ρ2 h2 => for_pre f I post (pre ++ [a]) (by rw [e, List.append_assoc]; rfl) h2 st q
theorem for_all {α : Type} (f : α → D) (I : List α → Env → Prop) {wt : WG} {wb : WS} {Dp : PEnds} {all : List α} {ρ : Env} (h : I [] ρ)
    (st : ∀ pre a post ρ, all = pre ++ a :: post → I pre ρ → ∀ N : Env → Prop, (∀ ρ', I (pre ++ [a]) ρ' → N ρ') → wt (f a) ρ fun ρ1 => wb { Dp with nx := N, ct := N, bk := Dp.nx } ρ1)
    (q : ∀ ρ, I all ρ → Dp.nx ρ) : wForL wt wb (all.map f) Dp ρ := for_pre f I all [] rfl h st q
/-- [g a for a in l] -/
theorem lc_all {α : Type} (f g : α → D) {wt : WG} {we : WE} {vs : List Nat} {ρ : Env} {Q : R → Env → Prop} : ∀ {l : List α} {acc : List D},
    (∀ a ∈ l, ∀ k : D → Env → Prop, (∀ ρ3, wipeE ρ3 vs = ρ → k (g a) ρ3) → wt (f a) ρ fun ρ1 => wK we ρ1 k (fun _ _ => False)) → Q (.tmp (.lst (acc ++ l.map g))) ρ → wLcL wt wYes we vs (l.map f) acc ρ Q
  | [], acc, _, q => by simpa [wLcL] using q
  | a :: l, acc, h, q => by
    have ih := fun acc' q' => lc_all f g (wt := wt) (we := we) (vs := vs) (ρ := ρ) (Q := Q) (l := l) (acc := acc') (fun d' hd => h d' (List.mem_cons_of_mem _ hd)) q'
    have h1 := h a List.mem_cons_self (fun y ρ3 => wLcL wt wYes we vs (l.map f) (acc ++ [y]) (wipeE ρ3 vs) Q) fun ρ3 e => by
      rw [e]
      exact ih _ (by simpa using q)
    simp only [List.map_cons, wLcL, wYes, if_true]
    exact h1
/-- [g a for a in l if p a] -/
theorem lc_allF {α : Type} (f g : α → D) (p : α → Bool) {wt : WG} {tt : WT} {we : WE} {vs : List Nat} {ρ : Env} {Q : R → Env → Prop} : ∀ {l : List α} {acc : List D},
    (∀ a ∈ l, ∀ (k : D → Env → Prop) (k0 : Env → Prop), (p a = true → ∀ ρ3, wipeE ρ3 vs = ρ → k (g a) ρ3) → (p a = false → ∀ ρ2, wipeE ρ2 vs = ρ → k0 ρ2) → wt (f a) ρ fun ρ1 => tt ρ1 (fun b ρ2 => if b = true then wK we ρ2 k (fun _ _ => False) else k0 ρ2) (fun _ _ => False)) →
    Q (.tmp (.lst (acc ++ (l.filter p).map g))) ρ → wLcL wt tt we vs (l.map f) acc ρ Q
  | [], acc, _, q => by simpa [wLcL] using q
  | d :: ds, acc, h, q => by
    have ih := fun acc' q' => lc_allF f g p (wt := wt) (tt := tt) (we := we) (vs := vs) (ρ := ρ) (Q := Q) (l := ds) (acc := acc') (fun d' hd => h d' (List.mem_cons_of_mem _ hd)) q'
    have h1 := h d List.mem_cons_self (fun y ρ3 => wLcL wt tt we vs (ds.map f) (acc ++ [y]) (wipeE ρ3 vs) Q) (fun ρ2 => wLcL wt tt we vs (ds.map f) acc (wipeE ρ2 vs) Q) (fun hp ρ3 e => by
      rw [e]
      exact ih _ (by simpa [hp] using q)) (fun hp ρ2 e => by
      rw [e]
      exact ih _ (by simpa [hp] using q))
    simp only [List.map_cons, wLcL]
    exact h1
/-- a comprehension by an invariant: what it has collected, and the slots -/
theorem lc_pre {α : Type} (f : α → D) (I : List α → List D → Env → Prop) {wt : WG} {tt : WT} {we : WE} {vs : List Nat} {Q : R → Env → Prop} {all : List α} : ∀ (post pre : List α) {acc : List D} {ρ : Env}, all = pre ++ post → I pre acc ρ →
    (∀ pre a post acc ρ, all = pre ++ a :: post → I pre acc ρ → ∀ (k : D → Env → Prop) (k0 : Env → Prop), (∀ d ρ3, I (pre ++ [a]) (acc ++ [d]) (wipeE ρ3 vs) → k d ρ3) → (∀ ρ2, I (pre ++ [a]) acc (wipeE ρ2 vs) → k0 ρ2) → wt (f a) ρ fun ρ1 => tt ρ1 (fun b ρ2 => if b = true then wK we ρ2 k (fun _ _ => False) else k0 ρ2) (fun _ _ => False)) →
    (∀ acc ρ, I all acc ρ → Q (.tmp (.lst acc)) ρ) → wLcL wt tt we vs (post.map f) acc ρ Q
  | [], pre, acc, ρ, e, h, _, q => by
    simp only [List.map_nil, wLcL]
    exact q acc ρ (by rw [e, List.append_nil]; exact h)
  | a :: post, pre, acc, ρ, e, h, st, q => by
    have h1 := st pre a post acc ρ e h (fun y ρ3 => wLcL wt tt we vs (post.map f) (acc ++ [y]) (wipeE ρ3 vs) Q) (fun ρ2 => wLcL wt tt we vs (post.map f) acc (wipeE ρ2 vs) Q)
      (fun d ρ3 hI => lc_pre f I post (pre ++ [a]) (by rw [e, List.append_assoc]; rfl) hI st q) (fun ρ2 hI => lc_pre f I post (pre ++ [a]) (by rw [e, List.append_assoc]; rfl) hI st q)
    simp only [List.map_cons, wLcL]
    exact h1
end PL
namespace PL
open PySem PySem.Spec PyProof.Rows L2
variable [HasT]
def isDr : Option (Option Ent) → Bool
  | some (some (.own _ .draw)) => true
  | _ => false
theorem isDr_s {b : Bool} : isDr (some (some (.own b .draw))) = true := Eq.trans rfl rfl
theorem anySlot_v {d : D} : anySlot (.val d) = false := Eq.trans rfl rfl
theorem isSlot_v {j : Nat} {d : D} : isSlot j (.val d) = false := Eq.trans rfl rfl
theorem isSlot_s {i j : Nat} : isSlot j (.slot i) = (i == j) := Eq.trans rfl rfl
theorem ndS_slot {j : Nat} {rs : List R} : ndS (.slot j :: rs) = (!(rs.any (isSlot j)) && ndS rs) := Eq.trans rfl rfl
theorem findOwn_vals : ∀ {rs : List R} {as : List Ent} {j : Nat}, rs.any anySlot = false → findOwn rs as j = none
  | [], _, _, _ => rfl
  | .slot i :: rs, _, _, h => by simp [anySlot] at h
  | .val d :: rs, [], _, h => rfl
  | .val d :: rs, a :: as, j, h => findOwn_vals (rs := rs) (as := as) (j := j) (by simpa [anySlot] using h)
  | .tmp d :: rs, [], _, h => rfl
  | .tmp d :: rs, a :: as, j, h => findOwn_vals (rs := rs) (as := as) (j := j) (by simpa [anySlot] using h)
def noSlot : List R → Bool
  | [] => true
  | .slot _ :: _ => false
  | _ :: rs => noSlot rs
theorem noS_nil : noSlot [] = true := Eq.trans rfl rfl
theorem noS_v {d : D} {rs : List R} : noSlot (.val d :: rs) = noSlot rs := Eq.trans rfl rfl
theorem noS_any : ∀ {rs : List R}, noSlot rs = true → rs.any anySlot = false
  | [], _ => rfl
  | .slot i :: rs, h => by simp [noSlot] at h
  | .val d :: rs, h => by simpa [anySlot] using noS_any (rs := rs) h
  | .tmp d :: rs, h => by simpa [anySlot] using noS_any (rs := rs) h
theorem backA_dr {rs : List R} {as : List Ent} {ρ : Env} {j : Nat} {b : Bool} (h : isDr ρ[j]? = true) (h2' : noSlot rs = true) : backA (.slot j :: rs) (.own b .draw :: as) ρ = ρ := by
  have h2 := noS_any h2'
  refine List.ext_getElem? fun i => ?_
  rw [backA_get]
  cases hi : ρ[i]? with
  | none => rfl
  | some e =>
    show some (backE (.slot j :: rs) (.own b .draw :: as) i e) = some e
    congr 1
    cases e with
    | none => rfl
    | some e =>
      cases e with
      | val d => rfl
      | own b' d =>
        show (match findOwn (.slot j :: rs) (.own b .draw :: as) i with | some d' => some (Ent.own b' d') | none => some (Ent.own b' d)) = _
        rw [findOwn]
        by_cases e : j = i
        · subst e
          rw [if_pos rfl]
          rw [hi] at h
          unfold isDr at h
          split at h
          · rename_i q; cases q; rfl
          · cases h
        · rw [if_neg e, findOwn_vals h2]
end PL
namespace PL
open PySem PySem.Spec PyProof.Rows L2
variable [HasT]
section
variable {K : PySem.W.Frag} {mg : Str → Option Value}
def kD : Key → D
  | .inl i => .int i
  | .inr x => .str x
end
def wKeys (w : WE) : WI := fun ρ Q Ep => wK w ρ (fun d ρ' => match d with
  | .dic ks _ => Q (ks.map kD) ρ'
  | _ => False) Ep
def wVals (w : WE) : WI := fun ρ Q Ep => wK w ρ (fun d ρ' => match d with
  | .dic _ ds => Q ds ρ'
  | _ => False) Ep
end PL
namespace PL
open PySem PySem.Spec PyProof.Rows L2
variable [HasT]
section
variable {X : Cx} {pos : Pos}
/-- a, *b = .. -/
def wUnpS (n i : Nat) (ws : WGs) : WG := fun d ρ Q => match d with
  | .tup ds => i < n ∧ n ≤ ds.length + 1 ∧ ws (ds.take i ++ [.lst ((ds.drop i).take (ds.length + 1 - n))] ++ (ds.drop i).drop (ds.length + 1 - n)) ρ Q
  | _ => False
end
end PL
namespace PL
open PySem PySem.Spec PyProof.Rows L2
variable [HasT]
section
variable {K : PySem.W.Frag} {mg : Str → Option Value}
/-- is the datum there? -/
def dIn (d : D) : D → Option Bool
  | .dic ks _ => match d with
    | .non => some false
    | _ => (keyD d).map fun k => ks.any fun q => decide (q = k)
  | e => match toP d, toP e with
    | some p, some (.list qs) => if (SeqAt.shaped p && SeqAt.shaped (.list qs)) = true then some (qs.any fun z => PyData.eqv z p) else none
    | some p, some (.tuple qs) => if (SeqAt.shaped p && SeqAt.shaped (.tuple qs)) = true then some (qs.any fun z => PyData.eqv z p) else none
    | _, _ => none
end
section
variable {X : Cx} {XE : XK} {k : Nat}
theorem Cc.u65 (C : Cc X XE k) : X.A.units + 65 < cLine := by have := C.room.un; omega
def wSc (w : WE) (wr : WL) : WL := fun ρ Q Ep => wK w ρ (fun d ρ1 => match d with
  | .lst xs => wr ρ1 (fun ds ρ2 => Q (xs ++ ds) ρ2) Ep
  | .tup xs => wr ρ1 (fun ds ρ2 => Q (xs ++ ds) ρ2) Ep
  | _ => False) Ep
def wTupS (w : WL) : WE := fun ρ Q Ep => w ρ (fun ds ρ' => ds.length ≤ sizeLine ∧ Q (.val (.tup ds)) ρ') Ep
def wLstS (w : WL) : WE := fun ρ Q Ep => w ρ (fun ds ρ' => ds.length ≤ sizeLine ∧ Q (.tmp (.lst ds)) ρ') Ep
end
end PL
namespace PL
open PySem PySem.Spec PyProof.Rows L2
variable [HasT]
def putKs (ks : List Key) (q : Key) : List Key := if (ks.any fun k => decide (k = q)) = true then ks else ks ++ [q]
def putDs (ks : List Key) (ds : List D) (q : Key) (d : D) : List D := if (ks.any fun k => decide (k = q)) = true then (ks.zip ds).map (fun p => if p.1 = q then d else p.2) else ds ++ [d]
section
variable {K : PySem.W.Frag} {mg : Str → Option Value}
theorem put_in {F : Hp} {q : Key} {d : D} {v : V} (r : Rep K mg F d v) : ∀ {kvs : List (Key × V)} {ks : List Key} {ds : List D}, kvs.map (·.1) = ks → RepL K mg F ds (kvs.map (·.2)) →
    (kvs.map (fun kv => if kv.1 = q then (kv.1, v) else kv)).map (·.1) = ks ∧ RepL K mg F ((ks.zip ds).map (fun p => if p.1 = q then d else p.2)) ((kvs.map (fun kv => if kv.1 = q then (kv.1, v) else kv)).map (·.2))
  | [], _, ds, h, rl => by
    subst h
    exact ⟨rfl, rfl⟩
  | kv :: kvs, _, [], h, rl => by
    exact absurd (show (kv :: kvs).map (·.2) = [] from rl) (by simp)
  | kv :: kvs, _, d0 :: ds, h, rl => by
    subst h
    obtain ⟨x, t, e1, r1, r2⟩ := rl
    rw [List.map_cons] at e1
    injection e1 with e1 e2
    obtain ⟨h1, h2⟩ := put_in r (kvs := kvs) (ds := ds) rfl (by rw [e2]; exact r2)
    simp only [List.map_cons, List.zip_cons_cons]
    by_cases hq : kv.1 = q
    · simp only [hq, if_true]
      exact ⟨by rw [h1], v, _, rfl, r, h2⟩
    · simp only [hq, if_false]
      exact ⟨by rw [h1], kv.2, _, rfl, by rw [e1]; exact r1, h2⟩
theorem putkd {F : Hp} {q : Key} {d : D} {v : V} {kvs : List (Key × V)} {ks : List Key} {ds : List D} (h : kvs.map (·.1) = ks) (rl : RepL K mg F ds (kvs.map (·.2))) (r : Rep K mg F d v) :
    (putK kvs q v).map (·.1) = putKs ks q ∧ RepL K mg F (putDs ks ds q d) ((putK kvs q v).map (·.2)) := by
  have e : (kvs.any fun kv => decide (kv.1 = q)) = ks.any fun k => decide (k = q) := by
    subst h
    rw [List.any_map]
    rfl
  unfold putK putKs putDs
  rw [e]
  by_cases hb : (ks.any fun k => decide (k = q)) = true
  · rw [if_pos hb, if_pos hb, if_pos hb]
    exact put_in r h rl
  · rw [if_neg hb, if_neg hb, if_neg hb]
    refine ⟨by rw [List.map_append, h]; rfl, ?_⟩
    rw [List.map_append]
    exact RepL.app K mg rl (RepL.one K mg r)
end
def wDcL (wt : WG) (tt : WT) (wk we : WE) (vs : List Nat) : List D → List Key → List D → Env → (R → Env → Prop) → Prop
  | [], ks, acc, ρ, Q => Q (.tmp (.dic ks acc)) ρ
  | d :: ds, ks, acc, ρ, Q => wt d ρ fun ρ1 => tt ρ1 (fun b ρ2 => if b = true then wK wk ρ2 (fun y ρ3 => match keyD y with
      | some q => wK we ρ3 (fun z ρ4 => wDcL wt tt wk we vs ds (putKs ks q) (putDs ks acc q z) (wipeE ρ4 vs) Q) (fun _ _ => False)
      | none => False) (fun _ _ => False) else wDcL wt tt wk we vs ds ks acc (wipeE ρ2 vs) Q) (fun _ _ => False)
def wDc (wi : WI) (wt : WG) (tt : WT) (wk we : WE) (vs : List Nat) : WE := fun ρ Q Ep => wi ρ (fun ds ρ1 => okW ρ1 vs = true ∧ wDcL wt tt wk we vs ds [] [] (wipeE ρ1 vs) fun r ρ' => Q r (restE ρ' ρ1 vs)) Ep
end PL
namespace PL
open PySem PySem.Spec PyProof.Rows L2
variable [HasT]
def wLcI (wt : WG) (tt : WT) (we : WE) (vs : List Nat) : List D → List D → Env → (List D → Env → Prop) → Prop
  | [], acc, ρ, Q => Q acc ρ
  | d :: ds, acc, ρ, Q => wt d ρ fun ρ1 => tt ρ1 (fun b ρ2 => if b = true then wK we ρ2 (fun y ρ3 => acc.length < sizeLine ∧ wLcI wt tt we vs ds (acc ++ [y]) (wipeE ρ3 vs) Q) (fun _ _ => False) else wLcI wt tt we vs ds acc (wipeE ρ2 vs) Q) (fun _ _ => False)
def wLcO (wt : WG) (tt : WT) (wi1 : WI) (wt1 : WG) (tt1 : WT) (we : WE) (vs vs1 : List Nat) : List D → List D → Env → (R → Env → Prop) → Prop
  | [], acc, ρ, Q => Q (.tmp (.lst acc)) ρ
  | d :: ds, acc, ρ, Q => wt d ρ fun ρ1 => tt ρ1 (fun b ρ2 => if b = true then wi1 ρ2 (fun items ρ3 => wLcI wt1 tt1 we vs1 items acc (wipeE ρ3 vs1) fun acc' ρ4 => wLcO wt tt wi1 wt1 tt1 we vs vs1 ds acc' (wipeE ρ4 vs) Q) (fun _ _ => False) else wLcO wt tt wi1 wt1 tt1 we vs vs1 ds acc (wipeE ρ2 vs) Q) (fun _ _ => False)
def wLc2 (wi : WI) (wt : WG) (tt : WT) (wi1 : WI) (wt1 : WG) (tt1 : WT) (we : WE) (vs vs1 : List Nat) : WE := fun ρ Q Ep => wi ρ (fun ds ρ1 => okW ρ1 vs = true ∧ wLcO wt tt wi1 wt1 tt1 we vs vs1 ds [] (wipeE ρ1 vs) fun r ρ' => Q r (restE ρ' ρ1 vs)) Ep
end PL
namespace PL
open PySem PySem.Spec PyProof.Rows L2
variable [HasT]
def rOr (r s : List V → Hp → VK → Prop) : List V → Hp → VK → Prop := fun xs H Q => r xs H Q ∨ s xs H Q
theorem callr_or {X : Cx} {f : Value} {r s : List V → Hp → VK → Prop} (h1 : CallR X f r) (h2 : CallR X f s) : CallR X f (rOr r s) := by
  intro pins st σ H xs us Q I rx h
  rcases h with h | h
  · exact h1 pins st σ H xs us Q I rx h
  · exact h2 pins st σ H xs us Q I rx h
def rDictP (K : PySem.W.Frag) : List V → Hp → VK → Prop := fun xs H Q => ∃ (a : Addr) (ps : List Addr) (kvs : List (Key × V)), xs = [.ref a] ∧ SqL K H a (ps.map V.ref) ∧ Paired (fun p kv => SqT K H p [L2.kV kv.1, kv.2]) ps kvs ∧
    ∀ p, H p = none → Q (.ref p) (upd H p (.dK (mergeK [] kvs)))
def rDictD : List V → Hp → VK → Prop := fun xs H Q => ∃ (a : Addr) (kvs : List (Key × V)), xs = [.ref a] ∧ Rd H a (.dK kvs) ∧ ∀ p, H p = none → Q (.ref p) (upd H p (.dK kvs))
/-- the pairs of a list -/
def pairsD : List D → Option (List (Key × D))
  | [] => some []
  | .tup [k, d] :: r => (keyD k).bind fun q => (pairsD r).map fun t => (q, d) :: t
  | _ => none
def mergeKs : List (Key × D) → List Key → List D → List Key × List D
  | [], ks, ds => (ks, ds)
  | (q, d) :: r, ks, ds => mergeKs r (putKs ks q) (putDs ks ds q d)
def gDict : GN := fun ds Q => match ds with
  | [.lst xs] => match pairsD xs with
    | some ps => Q (.tmp (.dic (mergeKs ps [] []).1 (mergeKs ps [] []).2))
    | none => False
  | [.dic ks ds] => Q (.tmp (.dic ks ds))
  | _ => False
def gListA : GN := fun ds Q => match ds with
  | [.lst xs] => Q (.tmp (.lst xs))
  | [.tup xs] => Q (.tmp (.lst xs))
  | [.dic ks _] => Q (.tmp (.lst (ks.map kD)))
  | _ => False
section
variable {K : PySem.W.Frag} {mg : Str → Option Value}
theorem mergeKs_rep {F : Hp} : ∀ {ps : List (Key × D)} {kvs : List (Key × V)} {acc : List (Key × V)} {ks : List Key} {ds : List D}, kvs.map (·.1) = ps.map (·.1) → RepL K mg F (ps.map (·.2)) (kvs.map (·.2)) →
    acc.map (·.1) = ks → RepL K mg F ds (acc.map (·.2)) → (mergeK acc kvs).map (·.1) = (mergeKs ps ks ds).1 ∧ RepL K mg F (mergeKs ps ks ds).2 ((mergeK acc kvs).map (·.2))
  | [], [], acc, ks, ds, _, _, h3, h4 => ⟨h3, h4⟩
  | [], _ :: _, _, _, _, h, _, _, _ => by simp at h
  | _ :: _, [], _, _, _, h, _, _, _ => by simp at h
  | (q, d) :: ps, kv :: kvs, acc, ks, ds, h, r, h3, h4 => by
    obtain ⟨x, t, e1, r1, r2⟩ := r
    rw [List.map_cons] at e1
    injection e1 with e1 e2
    simp only [List.map_cons, List.cons.injEq] at h
    have pr := putkd (q := q) h3 h4 (show Rep K mg F d kv.2 by rw [e1]; exact r1)
    have := mergeKs_rep (ps := ps) (kvs := kvs) (acc := putK acc q kv.2) (ks := putKs ks q) (ds := putDs ks ds q d) h.2 (by rw [e2]; exact r2) pr.1 pr.2
    show (mergeK (putK acc kv.1 kv.2) kvs).map (·.1) = _ ∧ RepL K mg F _ ((mergeK (putK acc kv.1 kv.2) kvs).map (·.2))
    rw [h.1]
    exact this
theorem pairs_rep {F H : Hp} (s : Mono F H) : ∀ {ds : List D} {xs : List V} {ps : List (Key × D)}, RepL K mg F ds xs → pairsD ds = some ps → ∃ as kvs, xs = as.map V.ref ∧ Paired (fun p (kv : Key × V) => SqT K H p [L2.kV kv.1, kv.2]) as kvs ∧ kvs.map (·.1) = ps.map (·.1) ∧ RepL K mg F (ps.map (·.2)) (kvs.map (·.2))
  | [], _, _, h, e => by
    cases e
    rw [show _ = [] from h]
    exact ⟨[], [], rfl, .nil, rfl, rfl⟩
  | d :: ds, _, ps, h, e => by
    obtain ⟨x, r, rfl, h1, h2⟩ := h
    unfold pairsD at e
    split at e
    next => contradiction
    next _ k' d' r' e' =>
      cases e'
      cases hq : keyD k' with
      | none => rw [hq] at e; cases e
      | some q =>
        rw [hq] at e
        cases hp : pairsD ds with
        | none => rw [hp] at e; cases e
        | some pt =>
          rw [hp] at e
          cases e
          obtain ⟨as, kvs, rfl, p1, p2, p3⟩ := pairs_rep s h2 hp
          obtain ⟨a, ys, rfl, ha, ra⟩ := h1
          obtain ⟨u, t, rfl, ru, rt⟩ := ra
          obtain ⟨u2, t2, rfl, ru2, rt2⟩ := rt
          obtain rfl : t2 = [] := rt2
          refine ⟨a :: as, (q, u2) :: kvs, rfl, .cons ?_ p1, by simp [p2], u2, _, rfl, ru2, p3⟩
          show SqT K H a [L2.kV q, u2]
          have := key_rep (H := H) (.inl ru : See K mg F H k' u) hq
          rw [← this]
          exact s.sqT K ha
    next => cases e
theorem new_dic {F H : Hp} {p : Addr} {kvs : List (Key × V)} {ks : List Key} {ds : List D} (h : H p = none) (s : Mono F H) (m : kvs.map (·.1) = ks) (r : RepL K mg F ds (kvs.map (·.2))) : NewR K mg H F (upd H p (.dK kvs)) (.tmp (.dic ks ds)) (.ref p) :=
  ⟨[p], ⟨p, kvs, rfl, rfl, upd_same, m, r⟩, fun b hb => by
    have e : b = p := by simpa using hb
    subst e
    exact ⟨fresh_F s h, by rw [upd_same]; simp, h⟩⟩
theorem opn_dict : OpN K mg (rOr (rDictP K) rDictD) gDict := by
  intro F H ds vs Qg Q s h hg k
  unfold gDict at hg
  split at hg
  next xs =>
    obtain ⟨v, rfl, h1⟩ := seeL1 h
    obtain ⟨a, zs, rfl, ha, ra⟩ := h1.lst s
    split at hg
    next ps hp =>
      obtain ⟨as, kvs, rfl, p1, p2, p3⟩ := pairs_rep s ra hp
      have mr := mergeKs_rep (acc := []) (ks := []) (ds := []) p2 p3 rfl rfl
      exact .inl ⟨a, as, kvs, rfl, SqL.of ha, p1, fun p hp => k _ _ _ _ (Step.new s hp) (new_dic hp s mr.1 mr.2) hg⟩
    next => exact hg.elim
  next ks ds =>
    obtain ⟨v, rfl, h1⟩ := seeL1 h
    obtain ⟨a, kvs, rfl, ha, hm, ra⟩ := h1.dic s
    exact .inr ⟨a, kvs, rfl, ha, fun p hp => k _ _ _ _ (Step.new s hp) (new_dic hp s hm ra) hg⟩
  next => exact hg.elim
end
section
variable {X : Cx} {XE : XK} {k : Nat} {p pos : Pos} {e : Expr} {w : WR}
theorem go_dict (C : Cc X XE k) (hm : X.mg "dict" = none) (ha : PdV X XE [e] w) (gl : Gl X "dict" := by rfl) (he : starEach [e] X.env = (false, eval e X.env) :: starEach [] X.env := by rfl) (hpl : (backTo pos (starEach [] X.env)).any (·.1) = false := by rfl) : PdE X XE (.Call (.Name "dict" p) [e] [] pos) (wCall gDict w) :=
  pd_callTy (callr_or (call_dictP C.calm) call_dictD) opn_dict gl hm (by decide +kernel) ha (by decide) (by decide) he hpl
end
end PL
namespace PL
open PySem PySem.Spec PyProof.Rows L2
variable [HasT]
section
variable {K : PySem.W.Frag} {mg : Str → Option Value}
def gNeg : G1 := fun d Q => match d with
  | .int i => Q (.val (.int (-i)))
  | _ => False
theorem op1_neg : Op1 K mg (rU fun i => .int (-i)) gNeg := by
  intro F H d v Qg Q s h hg k
  cases d <;> try exact hg.elim
  rename_i i
  rw [h.int]
  exact ⟨i, rfl, fin_val s k (d := .int _) rfl hg⟩
/-- the items at these places -/
def pick {α : Type} : List Nat → List α → List α
  | [], _ => []
  | i :: is, xs => match xs[i]? with
    | some x => x :: pick is xs
    | none => pick is xs
theorem RRVs.at {c : Cfg} {rs : List R} {vs : List V} (h : RRVs K mg c rs vs) : ∀ i : Nat, match rs[i]?, vs[i]? with
    | some r, some v => RRV K mg c r v
    | none, none => True
    | _, _ => False := by
  induction rs generalizing vs with
  | nil =>
    intro i
    rw [show vs = [] from h]
    simp
  | cons r rs ih =>
    obtain ⟨x, t, rfl, h1, h2⟩ := h
    intro i
    cases i with
    | zero => exact h1
    | succ i => exact ih h2 i
theorem RRVs.app {c : Cfg} {rs zs : List R} {vs ys : List V} (h : RRVs K mg c rs vs) (g : RRVs K mg c zs ys) : RRVs K mg c (rs ++ zs) (vs ++ ys) := by
  induction rs generalizing vs with
  | nil => rw [show vs = [] from h]; exact g
  | cons r rs ih =>
    obtain ⟨x, t, rfl, h1, h2⟩ := h
    exact ⟨x, t ++ ys, rfl, h1, ih h2⟩
theorem RRVs.len {c : Cfg} {rs : List R} {vs : List V} (h : RRVs K mg c rs vs) : rs.length = vs.length := by
  induction rs generalizing vs with
  | nil => rw [show vs = [] from h]; rfl
  | cons r rs ih =>
    obtain ⟨x, t, rfl, h1, h2⟩ := h
    simp [ih h2]
theorem RRVs.go {c c' : Cfg} {rs : List R} {vs : List V} (h : RRVs K mg c rs vs) (g : Go K mg c c') (e : c'.σ = c.σ) : RRVs K mg c' rs vs := by
  induction rs generalizing vs with
  | nil => exact h
  | cons r rs ih =>
    obtain ⟨x, t, rfl, h1, h2⟩ := h
    exact ⟨x, t, rfl, h1.go g e, ih h2⟩
end
def wCallK (fs : FS) (is : List Nat) (w wk : WR) : WE := fun ρ Q Ep => w ρ (fun rs ρ1 => wk ρ1 (fun zs ρ2 => toArgs ρ2 (pick is (rs ++ zs)) fun args => ndS (pick is (rs ++ zs)) = true ∧ fs (args ++ ([] : List D).map .val) (fun r args' => Q r (backA (pick is (rs ++ zs)) args' ρ2)) (fun y args' => Ep y (backA (pick is (rs ++ zs)) args' ρ2))) Ep) Ep
section
variable {X : Cx} {XE : XK} {k : Nat}
theorem go_neg {a : Expr} {wa : WE} {pos : Pos} (ha : PdE X XE a wa) : PdE X XE (.UnaryOp .USub a pos) (wOp1 gNeg wa) := pd_un un_neg op1_neg ha
def wProp (cn : Str) (fs : FS) (wo : WE) : WE := fun ρ Q Ep => wV wo ρ (fun r0 ρ0 => pk1 ρ0 r0 fun d0 => (match d0 with
  | .obj c _ _ => c = cn
  | _ => False) ∧ toArgs ρ0 [r0] fun args => ndS [r0] = true ∧ fs (args ++ ([] : List D).map .val) (fun r args' => Q r (backA [r0] args' ρ0)) (fun _ _ => False)) Ep
end
end PL
namespace PL
open PySem PySem.Spec PyProof.Rows L2
end PL
namespace PL
open PySem PySem.Spec PyProof.Rows L2
variable [HasT]
def wDic0 : WE := fun ρ Q _ => Q (.tmp (.dic [] [])) ρ
end PL
namespace PL
open PySem PySem.Spec PyProof.Rows L2
variable [HasT]
section
variable {K : PySem.W.Frag} {mg : Str → Option Value}
theorem See.dit {F H : Hp} {ks : List (List Key)} {ds : List D} {v : V} (h : See K mg F H (.dit ks ds) v) (s : Mono F H) : ∃ a kvs, v = .ref a ∧ Rd H a (.dT kvs) ∧ kvs.map (·.1) = ks ∧ RepL K mg F ds (kvs.map (·.2)) := by
  rcases h with ⟨a, kvs, e, h1, h2, h3⟩ | ⟨ft, a, kvs, e, _, h1, h2, h3⟩
  · exact ⟨a, kvs, e, s.rd h1, h2, h3⟩
  · exact ⟨a, kvs, e, .inl h1, h2, h3⟩
end
end PL
namespace PL
open PySem PySem.Spec PyProof.Rows L2
variable [HasT]
def wDit0 : WE := fun ρ Q _ => Q (.tmp (.dit [] [])) ρ
end PL
namespace PL
open PySem PySem.Spec PyProof.Rows L2
variable [HasT]
def gLenD : GN := fun ds Q => match ds with
  | [.dic ks _] => Q (.val (.int ks.length))
  | [.dit ks _] => Q (.val (.int ks.length))
  | _ => False
end PL
namespace PL
open PySem PySem.Spec PyProof.Rows L2
variable [HasT]
variable {ρ : Env} {Q : R → Env → Prop} {Ep : Ex → Env → Prop} {n : Env → Prop} {rt : R → Env → Prop} {bk ct : Env → Prop} {ex : Ex → Env → Prop}
def kCls (cn : Str) (d : D) : Prop := match d with
  | .obj c _ _ => c = cn
  | _ => False
theorem kCls_ok {cn : Str} {fs : List Str} {ds : List D} : kCls cn (.obj cn fs ds) = True := by
  show (cn = cn) = True
  simp
theorem x_prop {cn : Str} {fs : FS} {wo : WE} : wProp cn fs wo ρ Q Ep = wV wo ρ (fun r0 ρ0 => pk1 ρ0 r0 fun d0 => kCls cn d0 ∧ toArgs ρ0 [r0] fun args => ndS [r0] = true ∧ fs (args ++ ([] : List D).map .val) (fun r args' => Q r (backA [r0] args' ρ0)) (fun _ _ => False)) Ep := Eq.trans rfl rfl
theorem x_unpS {m i : Nat} {ws : WGs} {ds : List D} {K : Env → Prop} : wUnpS m i ws (.tup ds) ρ K = (i < m ∧ m ≤ ds.length + 1 ∧ ws (ds.take i ++ [.lst ((ds.drop i).take (ds.length + 1 - m))] ++ (ds.drop i).drop (ds.length + 1 - m)) ρ K) := Eq.trans rfl rfl
theorem x_tupS {w : WL} : wTupS w ρ Q Ep = w ρ (fun ds ρ' => ds.length ≤ sizeLine ∧ Q (.val (.tup ds)) ρ') Ep := Eq.trans rfl rfl
theorem x_lstS {w : WL} : wLstS w ρ Q Ep = w ρ (fun ds ρ' => ds.length ≤ sizeLine ∧ Q (.tmp (.lst ds)) ρ') Ep := Eq.trans rfl rfl
def kSc (wr : WL) (K : List D → Env → Prop) (Ep : Ex → Env → Prop) (d : D) (ρ1 : Env) : Prop := match d with
  | .lst xs => wr ρ1 (fun ds ρ2 => K (xs ++ ds) ρ2) Ep
  | .tup xs => wr ρ1 (fun ds ρ2 => K (xs ++ ds) ρ2) Ep
  | _ => False
theorem kSc_l {wr : WL} {K : List D → Env → Prop} {xs : List D} : kSc wr K Ep (.lst xs) ρ = wr ρ (fun ds ρ2 => K (xs ++ ds) ρ2) Ep := Eq.trans rfl rfl
theorem kSc_t {wr : WL} {K : List D → Env → Prop} {xs : List D} : kSc wr K Ep (.tup xs) ρ = wr ρ (fun ds ρ2 => K (xs ++ ds) ρ2) Ep := Eq.trans rfl rfl
theorem x_sc {w : WE} {wr : WL} {K : List D → Env → Prop} : wSc w wr ρ K Ep = wK w ρ (kSc wr K Ep) Ep := Eq.trans rfl rfl
def kKeys (K : List D → Env → Prop) (d : D) (ρ' : Env) : Prop := match d with
  | .dic ks _ => K (ks.map kD) ρ'
  | _ => False
theorem kKeys_d {K : List D → Env → Prop} {ks : List Key} {ds : List D} : kKeys K (.dic ks ds) ρ = K (ks.map kD) ρ := Eq.trans rfl rfl
theorem x_keys {w : WE} {K : List D → Env → Prop} : wKeys w ρ K Ep = wK w ρ (kKeys K) Ep := Eq.trans rfl rfl
def kVals (K : List D → Env → Prop) (d : D) (ρ' : Env) : Prop := match d with
  | .dic _ ds => K ds ρ'
  | _ => False
theorem kVals_d {K : List D → Env → Prop} {ks : List Key} {ds : List D} : kVals K (.dic ks ds) ρ = K ds ρ := Eq.trans rfl rfl
theorem x_vals {w : WE} {K : List D → Env → Prop} : wVals w ρ K Ep = wK w ρ (kVals K) Ep := Eq.trans rfl rfl
theorem gNeg_i {i : Int} {K : R → Prop} : gNeg (.int i) K = K (.val (.int (-i))) := Eq.trans rfl rfl
theorem gLenD_d {ks : List Key} {ds : List D} {K : R → Prop} : gLenD [.dic ks ds] K = K (.val (.int ks.length)) := Eq.trans rfl rfl
theorem gLenD_t {ks : List (List Key)} {ds : List D} {K : R → Prop} : gLenD [.dit ks ds] K = K (.val (.int ks.length)) := Eq.trans rfl rfl
theorem gDict_d {ks : List Key} {ds : List D} {K : R → Prop} : gDict [.dic ks ds] K = K (.tmp (.dic ks ds)) := Eq.trans rfl rfl
theorem gListA_d {ks : List Key} {ds : List D} {K : R → Prop} : gListA [.dic ks ds] K = K (.tmp (.lst (ks.map kD))) := Eq.trans rfl rfl
theorem x_dic0 : wDic0 ρ Q Ep = Q (.tmp (.dic [] [])) ρ := Eq.trans rfl rfl
theorem x_dit0 : wDit0 ρ Q Ep = Q (.tmp (.dit [] [])) ρ := Eq.trans rfl rfl
theorem x_dc {wi : WI} {wt : WG} {tt : WT} {wk we : WE} {vs : List Nat} : wDc wi wt tt wk we vs ρ Q Ep = wi ρ (fun ds ρ1 => okW ρ1 vs = true ∧ wDcL wt tt wk we vs ds [] [] (wipeE ρ1 vs) fun r ρ' => Q r (restE ρ' ρ1 vs)) Ep := Eq.trans rfl rfl
theorem x_lc2 {wi wi1 : WI} {wt wt1 : WG} {tt tt1 : WT} {we : WE} {vs vs1 : List Nat} : wLc2 wi wt tt wi1 wt1 tt1 we vs vs1 ρ Q Ep = wi ρ (fun ds ρ1 => okW ρ1 vs = true ∧ wLcO wt tt wi1 wt1 tt1 we vs vs1 ds [] (wipeE ρ1 vs) fun r ρ' => Q r (restE ρ' ρ1 vs)) Ep := Eq.trans rfl rfl
theorem x_callK {fs : FS} {is : List Nat} {w wk : WR} : wCallK fs is w wk ρ Q Ep = w ρ (fun rs ρ1 => wk ρ1 (fun zs ρ2 => toArgs ρ2 (pick is (rs ++ zs)) fun args => ndS (pick is (rs ++ zs)) = true ∧ fs (args ++ ([] : List D).map .val) (fun r args' => Q r (backA (pick is (rs ++ zs)) args' ρ2)) (fun y args' => Ep y (backA (pick is (rs ++ zs)) args' ρ2))) Ep) Ep := Eq.trans rfl rfl
theorem dIn_str {x : Str} {ks : List Key} {ds : List D} : dIn (.str x) (.dic ks ds) = some (ks.any fun q => decide (q = .inr x)) := Eq.trans rfl rfl
end PL
namespace PL
open PySem PySem.Spec PyProof.Rows L2
end PL
namespace PL
open PySem PySem.Spec PyProof.Rows L2
end PL
namespace PL
open PySem PySem.Spec PyProof.Rows L2
end PL
namespace PL
open PySem PySem.Spec PyProof.Rows L2 LamX
end PL
namespace PL
open PySem PySem.Spec PyProof.Rows L2 LamX
end PL
namespace PL
open PySem PySem.Spec PyProof.Rows L2
end PL
namespace PL
open PySem PySem.Spec PyProof.Rows L2 RZ
section
variable {prog : Program} {w : World} {A : Around} {E : Value → Shared → Prop} {s : Shared} {z TI TO i1 i2 l1 l2 : Addr} {k1 k2 : Nat} {xs ys : Array Value} {x y a b : Value}
theorem zipTL_item {Q : Value → Shared → Prop} (Ap : ZipApart z TI TO i1 i2 l1 l2) (Z : IsZip s.heap z TI TO .none) (pI : IsPair s.heap TI (.ref i1) (.ref i2)) (pO : IsPair s.heap TO a b)
    (it1 : s.heap.IsTupleIter i1 l1 k1) (it2 : s.heap.IsListIter i2 l2 k2) (q1 : s.heap.IsTuple l1 xs) (q2 : s.heap.IsList l2 ys) (ex : xs[k1]? = some x) (ey : ys[k2]? = some y)
    (go : ∀ g, IsZip g z TI TO (rawInt s.heap.objs.size) → IsPair g TO x y → g.IsTupleIter i1 l1 (k1 + 1) → g.IsListIter i2 l2 (k2 + 1) → IsPair g s.heap.objs.size x y → g.objs.size = s.heap.objs.size + 1 →
      (∀ c o, c ≠ z → c ≠ TO → c ≠ i1 → c ≠ i2 → s.heap.get? c = some o → g.get? c = some o) → Q (.ref s.heap.objs.size) { s with heap := g }) :
    wpAny (model prog w) A (Builtin.«zip.__next__» ⟨[.ref z], []⟩) (fun r s' => ∃ v, r = .done (.ret v) ∧ Q v s') E s := by
  show wpAny _ _ (field (.ref z) 2 >>= _) _ _ s
  refine wpAny_bind (wpAny_field Z rfl (x := .bool false) rfl (?_ : wpAny _ _ (field (.ref z) 3 >>= _) _ _ _))
  refine wpAny_bind (wpAny_field Z rfl (x := .ref TI) rfl (wpAny_bind (wpAny_seqItems pI rfl ?_)))
  refine (?_ : wpAny _ _ (Builtin.SmallTypes.ownedTupleIsFree (.ref z) >>= _) _ _ _)
  unfold Builtin.SmallTypes.ownedTupleIsFree
  refine wpAny_bind (wpAny_bind (wpAny_field Z rfl (x := .none) rfl (wpAny_pure ?_)))
  simp only [if_true]
  refine wpAny_bind (wpAny_rule (wpAny_bind (wpAny_field Z rfl (x := .ref TO) rfl (wpAny_bind (wpAny_setField_rec Z (by simp) fun g1 Z1 e1 => ?_)))))
  replace Z1 : IsZip g1 z TI TO .ellipsis := Z1
  simp only [List.zipIdx_cons, List.zipIdx_nil, List.forIn_cons, List.forIn_nil]
  refine wpAny_bind (wpAny_bind (wpAny_bind (wpAny_onRaise (?_ : wpAny _ _ (Builtin.SmallTypes.nextOf (.ref i1) >>= _) _ _ _))))
  refine wpAny_bind (nextOf_tuple_item (it1.extBut e1.extBut Ap.i1z) (q1.extBut e1.extBut Ap.l1z) ex fun g2 n1 e2 => wpAny_pure ?_)
  have pO2 : IsPair g2 TO a b := e2.extBut _ _ Ap.TOi1 (e1.extBut _ _ Ap.TOz pO)
  refine wpAny_bind (wpAny_seqItems pO2 rfl (wpAny_bind (wpAny_updateSeq_pair pO2 fun g3 pO3 e3 => wpAny_bind (wpAny_letGo (wpAny_pure ?_)))))
  replace pO3 : IsPair g3 TO x b := pO3
  refine wpAny_bind (wpAny_bind (wpAny_onRaise (?_ : wpAny _ _ (Builtin.SmallTypes.nextOf (.ref i2) >>= _) _ _ _)))
  refine wpAny_bind (wpAny_nextOf_list_item (((it2.extBut e1.extBut Ap.i2z).extBut e2.extBut Ap.i12.symm).extBut e3.extBut Ap.TOi2.symm) (((q2.extBut e1.extBut Ap.l2z).extBut e2.extBut Ap.l2i1).extBut e3.extBut Ap.l2TO) ey fun g4 n2 e4 => wpAny_pure ?_)
  have pO4 : IsPair g4 TO x b := e4.extBut _ _ Ap.TOi2 pO3
  refine wpAny_bind (wpAny_seqItems pO4 rfl (wpAny_bind (wpAny_updateSeq_pair pO4 fun g5 pO5 e5 => wpAny_bind (wpAny_letGo (wpAny_pure (wpAny_pure ?_))))))
  replace pO5 : IsPair g5 TO x y := pO5
  refine wpAny_bind (wpAny_seqItems pO5 rfl (wpAny_bind (wpAny_newTuple ?_)))
  have size5 : g5.objs.size = s.heap.objs.size := by rw [e5.1, e4.1, e3.1, e2.1, e1.1]
  have Z5 : IsZip g5 z TI TO .ellipsis := e5.extBut _ _ Ap.TOz.symm (e4.extBut _ _ Ap.i2z.symm (e3.extBut _ _ Ap.TOz.symm (e2.extBut _ _ Ap.i1z.symm Z1)))
  have all5 : ∀ c o, c ≠ z → c ≠ TO → c ≠ i1 → c ≠ i2 → s.heap.get? c = some o → g5.get? c = some o := fun c o d1 d2 d3 d4 q =>
    e5.extBut _ _ d2 (e4.extBut _ _ d4 (e3.extBut _ _ d2 (e2.extBut _ _ d3 (e1.extBut _ _ d1 q))))
  have n15 : g5.IsTupleIter i1 l1 (k1 + 1) := ((n1.extBut e3.extBut Ap.TOi1.symm).extBut e4.extBut Ap.i12).extBut e5.extBut Ap.TOi1.symm
  have n25 : g5.IsListIter i2 l2 (k2 + 1) := n2.extBut e5.extBut Ap.TOi2.symm
  have zlt : z < g5.objs.size := Heap.lt_size Z5
  refine (?_ : wpAny _ _ (Builtin.SmallTypes.ownedTupleHandOut (.ref z) (.ref g5.objs.size) >>= _) _ _ _)
  unfold Builtin.SmallTypes.ownedTupleHandOut
  have Z6 : IsZip (g5.push { cls := .type "tuple", data := .seq #[x, y] }) z TI TO .ellipsis := Heap.get?_push_of_some _ Z5
  refine wpAny_bind (wpAny_bind (wpAny_setField_rec Z6 (by simp) fun g7 Z7 e7 => ?_))
  replace Z7 : IsZip g7 z TI TO (rawInt g5.objs.size) := Z7
  refine wpAny_setField_rec Z7 (by simp) fun g8 Z8 e8 => wpAny_pure ⟨_, rfl, ?_⟩
  replace Z8 : IsZip g8 z TI TO (rawInt g5.objs.size) := Z8
  have up : ∀ c o, c ≠ z → g5.get? c = some o → g8.get? c = some o := fun c o d1 q => e8.extBut _ _ d1 (e7.extBut _ _ d1 (Heap.get?_push_of_some _ q))
  have T8 : IsPair g8 g5.objs.size x y := e8.extBut _ _ (Nat.ne_of_gt zlt) (e7.extBut _ _ (Nat.ne_of_gt zlt) (Heap.get?_push_size _ rfl))
  have size8 : g8.objs.size = g5.objs.size + 1 := by rw [e8.1, e7.1, Heap.size_push]
  rw [size5] at Z8 T8 size8
  show Q (.ref g5.objs.size) _
  rw [size5]
  exact go g8 Z8 (up _ _ Ap.TOz pO5) (n15.at fun o q => up _ o Ap.i1z q) (n25.at fun o q => up _ o Ap.i2z q) T8 size8 fun c o d1 d2 d3 d4 q => up c o d1 (all5 c o d1 d2 d3 d4 q)
theorem zipTL_end {R : PySem.Fin → Shared → Prop} (hh : A.handled = none) (Ap : ZipApart z TI TO i1 i2 l1 l2) (Z : IsZip s.heap z TI TO .none) (pI : IsPair s.heap TI (.ref i1) (.ref i2))
    (it1 : s.heap.IsTupleIter i1 l1 k1) (q1 : s.heap.IsTuple l1 xs) (ex : xs[k1]? = none)
    (stop : ∀ g e, (∀ c o, c ≠ z → c ≠ i1 → s.heap.get? c = some o → g.get? c = some o) → (∃ o, g.get? e = some o ∧ o.cls = .type "StopIteration") → E (.ref e) { s with heap := g }) :
    wpAny (model prog w) A (Builtin.«zip.__next__» ⟨[.ref z], []⟩) R E s := by
  show wpAny _ _ (field (.ref z) 2 >>= _) _ _ s
  refine wpAny_bind (wpAny_field Z rfl (x := .bool false) rfl (?_ : wpAny _ _ (field (.ref z) 3 >>= _) _ _ _))
  refine wpAny_bind (wpAny_field Z rfl (x := .ref TI) rfl (wpAny_bind (wpAny_seqItems pI rfl ?_)))
  refine (?_ : wpAny _ _ (Builtin.SmallTypes.ownedTupleIsFree (.ref z) >>= _) _ _ _)
  unfold Builtin.SmallTypes.ownedTupleIsFree
  refine wpAny_bind (wpAny_bind (wpAny_field Z rfl (x := .none) rfl (wpAny_pure ?_)))
  simp only [if_true]
  refine wpAny_bind (wpAny_rule (wpAny_bind (wpAny_field Z rfl (x := .ref TO) rfl (wpAny_bind (wpAny_setField_rec Z (by simp) fun g1 Z1 e1 => ?_)))))
  replace Z1 : IsZip g1 z TI TO .ellipsis := Z1
  simp only [List.zipIdx_cons, List.zipIdx_nil, List.forIn_cons, List.forIn_nil]
  refine wpAny_bind (wpAny_bind (wpAny_bind (wpAny_onRaise (?_ : wpAny _ _ (Builtin.SmallTypes.nextOf (.ref i1) >>= _) _ _ _))))
  refine wpAny_bind (nextOf_tuple_end hh (it1.extBut e1.extBut Ap.i1z) (q1.extBut e1.extBut Ap.l1z) ex fun g2 e e2 ⟨oe, he, ce⟩ => ?_)
  have Z2 : IsZip g2 z TI TO .ellipsis := e2 _ _ Ap.i1z.symm Z1
  have ez : e ≠ z := fun q => by subst q; rw [Z2] at he; cases he; simp at ce
  exact wpAny_setField_rec Z2 (by simp) fun g3 _ e3 => stop g3 e (fun c o d1 d3 q => e3.extBut _ _ d1 (e2 _ _ d3 (e1.extBut _ _ d1 q))) ⟨oe, e3.extBut _ _ ez he, ce⟩
end
def zTL (h : Heap) (l1 l2 : Addr) : Heap := ((((h.push { cls := .type "tuple_iterator", data := .fields #[.ref l1, .int 0 0] }).push { cls := .type "list_iterator", data := .fields #[.ref l2, .int 0 0] }).push { cls := .type "tuple", data := .seq #[.ref h.objs.size, .ref (h.objs.size + 1)] }).push { cls := .type "tuple", data := .seq #[.none, .none] }).push
  { cls := .type "zip", data := .fields #[.none, .bool false, .bool false, .ref (h.objs.size + 2), .ref (h.objs.size + 3)] }
theorem pushN {h : Heap} {o : Obj} {n : Nat} (e : n = h.objs.size) (f : o.isFreed = false := by rfl) : (h.push o).get? n = some o := by
  subst e
  exact Heap.get?_push_size _ f
theorem meetsTL (l1 l2 : Addr) (xs ys : Array Value) : Meets (Builtin.«zip.__new__» ⟨[.type "zip", .ref l1, .ref l2], []⟩) (fun _ R s => s.heap.IsTuple l1 xs ∧ s.heap.IsList l2 ys ∧ R (.ok (.ret (.ref (s.heap.objs.size + 4)))) { s with heap := zTL s.heap l1 l2 }) :=
  .of_wp fun prog w A R s h => by
    obtain ⟨hp, gs, dr, tk, os⟩ := s
    obtain ⟨q1, q2, h⟩ := h
    have isZ := sub_zip
    have first : Heap.IsTuple (Shared.heap ⟨hp, gs, dr, tk, os⟩) l1 xs := q1
    have second : Heap.IsList (Shared.heap ⟨hp.push { cls := .type "tuple_iterator", data := .fields #[.ref l1, .int 0 0] }, gs, dr, tk, os⟩) l2 ys := Heap.IsList.push q2 _
    wp_walk using wpAny_pyIter_tuple first, wpAny_pyIter_list second
    refine ⟨_, rfl, ?_⟩
    unfold zTL at h
    simp only [Heap.size_push] at h ⊢
    exact h
section
variable {prog : Program} {w : World} {A : Around} {E : Value → Shared → Prop} {s : Shared} {z TI TO i1 i2 l1 l2 : Addr} {k1 k2 : Nat} {xs ys : Array Value} {x y a b : Value}
theorem callTL {Q : Value → Shared → Prop} (q1 : s.heap.IsTuple l1 xs) (q2 : s.heap.IsList l2 ys)
    (go : ∀ g, IsZip g (s.heap.objs.size + 4) (s.heap.objs.size + 2) (s.heap.objs.size + 3) .none → IsPair g (s.heap.objs.size + 2) (.ref s.heap.objs.size) (.ref (s.heap.objs.size + 1)) → IsPair g (s.heap.objs.size + 3) .none .none →
      g.IsTupleIter s.heap.objs.size l1 0 → g.IsListIter (s.heap.objs.size + 1) l2 0 → (∀ c o, s.heap.get? c = some o → g.get? c = some o) → Q (.ref (s.heap.objs.size + 4)) { s with heap := g }) : wpAny (model prog w) A (call (.type "zip") [.ref l1, .ref l2]) Q E s := by
  refine callType_new F.called_zip (by decide) (F.typeCall_zip_2 _ _) (F.newCall_zip_2 _ _) (fun o => F.args_object_init_3 o _ _) F.entry_zip_new (meetsTL l1 l2 xs ys) ⟨q1, q2, ?_⟩
  have at4 : (zTL s.heap l1 l2).get? (s.heap.objs.size + 4) = some { cls := .type "zip", data := .fields #[.none, .bool false, .bool false, .ref (s.heap.objs.size + 2), .ref (s.heap.objs.size + 3)] } := pushN (by simp only [Heap.size_push])
  have at3 : (zTL s.heap l1 l2).get? (s.heap.objs.size + 3) = some { cls := .type "tuple", data := .seq #[.none, .none] } := Heap.get?_push_of_some _ (pushN (by simp only [Heap.size_push]))
  have at2 : (zTL s.heap l1 l2).get? (s.heap.objs.size + 2) = some { cls := .type "tuple", data := .seq #[.ref s.heap.objs.size, .ref (s.heap.objs.size + 1)] } := Heap.get?_push_of_some _ (Heap.get?_push_of_some _ (pushN (by simp only [Heap.size_push])))
  have at1 : (zTL s.heap l1 l2).get? (s.heap.objs.size + 1) = some { cls := .type "list_iterator", data := .fields #[.ref l2, .int 0 0] } := Heap.get?_push_of_some _ (Heap.get?_push_of_some _ (Heap.get?_push_of_some _ (pushN (by simp only [Heap.size_push]))))
  have at0 : (zTL s.heap l1 l2).get? s.heap.objs.size = some { cls := .type "tuple_iterator", data := .fields #[.ref l1, .int 0 0] } := Heap.get?_push_of_some _ (Heap.get?_push_of_some _ (Heap.get?_push_of_some _ (Heap.get?_push_of_some _ (pushN rfl))))
  show _ ∧ _
  exact ⟨⟨_, at4, rfl⟩, go _ at4 at2 at3 ⟨_, at0, rfl, rfl⟩ ⟨_, at1, rfl, rfl⟩ fun c o q => Heap.get?_push_of_some _ (Heap.get?_push_of_some _ (Heap.get?_push_of_some _ (Heap.get?_push_of_some _ (Heap.get?_push_of_some _ q))))⟩
end
/-- a tuple and a list, walked side by side; the tuple ends it -/
def ItzM (K : PySem.W.Frag) (a b : Addr) : It where
  go i H := ∃ (xs ys : List V) (x y : V), SqT K H a xs ∧ SqL K H b ys ∧ xs[i]? = some x ∧ ys[i]? = some y
  yld i H v H' := ∃ T x y, v = .ref T ∧ H T = none ∧ H' = upd H T (.tup [x, y]) ∧ (∀ xs, SqT K H a xs → xs[i]? = some x) ∧ ∀ ys, SqL K H b ys → ys[i]? = some y
  stop i H := ∃ xs : List V, SqT K H a xs ∧ xs.length ≤ i
theorem turnM {P : Program} {w : World} {K : PySem.W.Frag} {elts : List Expr} {kk : Nat} {tpos : Pos} {a b z TI TO i1 i2 : Addr} (Ap : ZipApart z TI TO i1 i2 a b) :
    Turn P w K (.Tuple elts kk tpos) (ItzM K a b) [z, TI, TO, i1, i2] z (fun i h => IsZip h z TI TO .none ∧ IsPair h TI (.ref i1) (.ref i2) ∧ (∃ x y, IsPair h TO x y) ∧ h.IsTupleIter i1 a i ∧ h.IsListIter i2 b i) := by
  have five : ∀ {c : Addr}, c ∈ [z, TI, TO, i1, i2] → c = z ∨ c = TI ∨ c = TO ∨ c = i1 ∨ c = i2 := fun {c} h => by simpa using h
  have out : ∀ {c : Addr}, c ∉ [z, TI, TO, i1, i2] → c ≠ z ∧ c ≠ TI ∧ c ≠ TO ∧ c ≠ i1 ∧ c ≠ i2 := fun {c} h => by simpa using h
  refine ⟨by simp, fun i h st c hc => ?_, fun i h h' st keep => ?_, ?_, ?_, fun A i s Q E st h => wpAny_pyIter_zip st.1 h⟩
  · obtain ⟨Z, pI, ⟨x, y, pO⟩, ⟨o1, g1, _, d1⟩, ⟨o2, g2, _, d2⟩⟩ := st
    rcases five hc with rfl | rfl | rfl | rfl | rfl
    · exact ⟨_, Z, fun v q => nomatch q⟩
    · exact ⟨_, pI, fun v q => nomatch q⟩
    · exact ⟨_, pO, fun v q => nomatch q⟩
    · exact ⟨o1, g1, fun v q => by rw [d1] at q; cases q⟩
    · exact ⟨o2, g2, fun v q => by rw [d2] at q; cases q⟩
  · obtain ⟨Z, pI, ⟨x, y, pO⟩, n1, n2⟩ := st
    exact ⟨keep z (by simp) _ Z, keep TI (by simp) _ pI, ⟨x, y, keep TO (by simp) _ pO⟩, n1.at fun o q => keep i1 (by simp) o q, n2.at fun o q => keep i2 (by simp) o q⟩
  · rintro X rfl rfl rfl hcalm i pins s σ H E I hf ⟨Z, pI, ⟨x0, y0, pO⟩, n1, n2⟩ ⟨xs, ys, x, y, qx, qy, ex, ey⟩
    obtain ⟨its, rv, p, _⟩ := I.tuple qx
    obtain ⟨its2, rv2, p2, _⟩ := I.list qy
    obtain ⟨u, hu, ru⟩ := rv.get ex
    obtain ⟨u2, hu2, ru2⟩ := rv2.get ey
    have zlt : z < s.heap.objs.size := Heap.lt_size Z
    have isz : s.TypeIs (.ref z) "zip" := ⟨_, Z, rfl⟩
    unfold pyNext
    refine wpAny_bind (wpAny_attempt (wpAny_callSpecial?_slot (name := Str.ofString "__next__") isz F.slot_zip_next (wpAny_call_entry F.slot_zip_next isz F.entry_zip_next
      (zipTL_item Ap Z pI pO n1 n2 (show s.heap.IsTuple a its.toArray from p) p2.isList (x := u) (y := u2) (by simpa using hu) (by simpa using hu2) fun g Z' pO' n1' n2' pT gsz old => wpAny_pure ?_) (F.args_zip_next_1 _))))
    refine ⟨_, rfl, wpAny_letOwnedTupleGo_zip (s := { s with heap := g }) Z' fun g2 Z2 sb => ?_⟩
    have pT2 : g2.get? s.heap.objs.size = some { cls := .type "tuple", data := .seq #[u, u2] } := (sb.2 _ (Nat.ne_of_gt zlt)).trans pT
    have I1 : Inv X pins σ (upd H s.heap.objs.size (.tup [x, y])) { s with heap := g2 } := by
      refine I.turnedNew (t' := s.toks) (ch := [z, TI, TO, i1, i2]) (fun c o hb q => ?_) hf (Nat.le_refl _) ⟨by show 2 ≤ sizeLine; decide, [u, u2], .cons ru (.cons ru2 .nil), ⟨_, pT2, rfl, _, rfl⟩⟩
      obtain ⟨c1, c2, c3, c4, c5⟩ := out hb
      exact (sb.2 c c1).trans (old c o c1 c3 c4 c5 q)
    refine ⟨.ref s.heap.objs.size, _, I1, rfl, ⟨_, x, y, rfl, I.hok.fresh (Nat.le_refl _), rfl, fun l hl => by rw [I.tuple_inj hl qx]; exact ex, fun l hl => by rw [I.list_inj hl qy]; exact ey⟩, ⟨Z2, ?_, ⟨u, u2, ?_⟩, ?_, ?_⟩, fun c hc => ?_⟩
    · exact (sb.2 _ Ap.TIz).trans (old _ _ Ap.TIz Ap.TITO Ap.TIi1 Ap.TIi2 pI)
    · exact (sb.2 _ Ap.TOz).trans pO'
    · exact n1'.at fun o q => (sb.2 _ Ap.i1z).trans q
    · exact n2'.at fun o q => (sb.2 _ Ap.i2z).trans q
    · have clt : c < s.heap.objs.size := by
        rcases five hc with rfl | rfl | rfl | rfl | rfl
        · exact zlt
        · exact Heap.lt_size pI
        · exact Heap.lt_size pO
        · exact let ⟨_, e1, _⟩ := n1; Heap.lt_size e1
        · exact let ⟨_, e2, _⟩ := n2; Heap.lt_size e2
      rw [upd_ne (Nat.ne_of_lt clt)]
      exact (hf c hc).1
  · rintro X rfl rfl rfl hcalm i pins s σ H E I hf ⟨Z, pI, ⟨x0, y0, pO⟩, n1, n2⟩ ⟨xs, qx, hend⟩
    obtain ⟨its, rv, p, _⟩ := I.tuple qx
    have l1 := rv.length
    have isz : s.TypeIs (.ref z) "zip" := ⟨_, Z, rfl⟩
    unfold pyNext
    refine wpAny_bind (wpAny_attempt (wpAny_callSpecial?_slot (name := Str.ofString "__next__") isz F.slot_zip_next (wpAny_call_entry F.slot_zip_next isz F.entry_zip_next
      (zipTL_end (I.ok.hd hcalm) Ap Z pI n1 (show s.heap.IsTuple a its.toArray from p) (by simp; omega) fun g e old ⟨o, ho, ce⟩ => ?_) (F.args_zip_next_1 _))))
    refine wpAny_bind (wpAny_isInstance (T := "StopIteration") (b := true) ⟨o, ho, ce⟩ isSubtype_stop (wpAny_pure ⟨rfl, ?_⟩))
    refine I.turnedL (t' := s.toks) (ch := [z, TI, TO, i1, i2]) (fun c o hb q => ?_) hf
    obtain ⟨c1, c2, c3, c4, c5⟩ := out hb
    exact old c o c1 c4 q
def iZipM (K : PySem.W.Frag) (ta : TA) : TI := fun σ H R => ta σ H fun vs H1 => ∃ a b xs ys, vs = [.ref a, .ref b] ∧ SqT K H1 a xs ∧ SqL K H1 b ys ∧ R (ItzM K a b) H1
theorem pi_zipM {X : Cx} {e e2 : Expr} {ta : TA} {p pos tpos : Pos} {elts : List Expr} {kk : Nat} (hg : Gl X "zip") (hm : X.mg "zip" = none) (ha : PA X [e, e2] ta)
    (hs : starEach [e, e2] X.env = (false, eval e X.env) :: starEach [e2] X.env := by rfl) (hpl : (backTo pos (starEach [e2] X.env)).any (·.1) = false := by rfl) : PI X (.Tuple elts kk tpos) (.Call (.Name "zip" p) [e, e2] [] pos) (iZipM X.K ta) := by
  refine ⟨fun pins s σ H R I h => Call_ (ld_blt I hg hm PyProof.Rows.boot_zip (PyProof.Rows.callWith_type1 (thn (ha.run pos pins s σ H _ I h) fun us s1 ⟨vs, H1, I1, r1, a, b, xs, ys, ex, qx, qy, q⟩ => ?_) hs hpl))⟩
  subst ex
  obtain ⟨u1, u2, rfl, t1, t2⟩ := vals2 r1
  cases t1
  cases t2
  obtain ⟨its, rv, p1, _⟩ := I1.tuple qx
  obtain ⟨its2, rv2, p2, _⟩ := I1.list qy
  obtain ⟨o1, ho1, _⟩ := id p1
  refine callTL (show s1.heap.IsTuple a its.toArray from p1) p2.isList fun g Z pI pO n1 n2 old => wpAny_pyIter_zip Z ?_
  have I2 : Inv X pins σ H1 { s1 with heap := g } := I1.kept (t' := s1.toks) old
  refine ⟨s1.heap.objs.size + 4, [s1.heap.objs.size + 4, s1.heap.objs.size + 2, s1.heap.objs.size + 3, s1.heap.objs.size, s1.heap.objs.size + 1], _, _, H1, rfl, I2, turnM (PySem.W.ktu_apart s1.heap.objs.size a b (Heap.lt_size ho1) p2.lt), ⟨Z, pI, ⟨_, _, pO⟩, n1, n2⟩, fun c hc => ?_, q⟩
  have le : s1.heap.objs.size ≤ c := by
    have : c = s1.heap.objs.size + 4 ∨ c = s1.heap.objs.size + 2 ∨ c = s1.heap.objs.size + 3 ∨ c = s1.heap.objs.size ∨ c = s1.heap.objs.size + 1 := by simpa using hc
    show s1.heap.objs.size ≤ (c : Nat)
    rcases this with z | z | z | z | z <;> (rw [z]; first | exact Nat.le_add_right _ _ | exact Nat.le_refl _)
  exact I1.fpOk le (I1.hok.fresh le)
end PL
namespace PL
open PySem PySem.Spec PyProof.Rows L2
variable [HasT]
section
variable {K : PySem.W.Frag} {mg : Str → Option Value}
theorem it_zipM {a b : Addr} {ds es : List D} (hl : ds.length ≤ sizeLine) (hle : ds.length ≤ es.length) : ItOk K mg (ItzM K a b) (zipD ds es) (fun F => (∃ xs, SqT K F a xs ∧ RepL K mg F ds xs) ∧ ∃ ys, F b = some (.lst ys) ∧ RepL K mg F es ys) := by
  unfold zipD
  refine ⟨fun F H i d s _ ⟨⟨xs, h, r⟩, ys, h', r'⟩ e => ?_, fun F H s ⟨⟨xs, h, r⟩, _⟩ => ⟨xs, s.sqT K h, ?_⟩, fun F F' m ⟨⟨xs, h, r⟩, ys, h', r'⟩ => ⟨⟨xs, m.sqT K h, r.mono K mg m _ _⟩, ys, m.lst h', r'.mono K mg m _ _⟩, by simp; omega⟩
  · rw [List.getElem?_map] at e
    cases q : (ds.zip es)[i]? with
    | none => rw [q] at e; cases e
    | some p =>
      rw [q] at e; cases e
      obtain ⟨q1, q2⟩ := get_zip q
      obtain ⟨x, hx, rx⟩ := r.get K mg q1
      obtain ⟨y, hy, ry⟩ := r'.get K mg q2
      refine ⟨⟨xs, ys, x, y, s.sqT K h, SqL.of (s.lst h'), hx, hy⟩, fun v H' z => ?_⟩
      obtain ⟨T, x', y', rfl, hT, rfl, hxs, hys⟩ := z
      have e1 := hxs xs (s.sqT K h)
      have e2 := hys ys (SqL.of (s.lst h'))
      rw [hx] at e1; cases e1
      rw [hy] at e2; cases e2
      exact step_pair s hT rx ry
  · have l1 := r.len K mg
    simp only [List.length_map, List.length_zip]
    omega
end
section
variable {X : Cx} {XE : XK}
def wZipM (w u : WE) : WI := fun ρ Q Ep => wK w ρ (fun d ρ1 => wK u ρ1 (fun e ρ2 => match d, e with
  | .tup xs, .lst ys => xs.length ≤ ys.length ∧ Q (zipD xs ys) ρ2
  | _, _ => False) Ep) Ep
theorem pi_zip2M {a b : Expr} {w u : WE} {p pos tpos : Pos} {elts : List Expr} {kk : Nat} (hg : Gl X "zip") (hm : X.mg "zip" = none) (h : PdE X XE a w) (h' : PdE X XE b u)
    (hs : starEach [a, b] X.env = (false, eval a X.env) :: starEach [b] X.env := by rfl) (hs1 : starEach [b] X.env = (false, eval b X.env) :: starEach [] X.env := by rfl) (hpl : (backTo pos (starEach [b] X.env)).any (·.1) = false := by rfl) :
    PdI X XE (.Tuple elts kk tpos) (.Call (.Name "zip" p) [a, b] [] pos) (wZipM w u) := by
  obtain ⟨t, pa, s⟩ := h
  obtain ⟨t', pa', s'⟩ := h'
  refine ⟨_, PI.len (pi_zipM hg hm (pa_cons pa (pa_cons pa' pa_nil hs1) hs) hs hpl), fun c Qp Ep R ok hw x k => ?_⟩
  refine runK (e := a) s ok hw x fun v c1 d g1 e1 r1 h1 => ?_
  rw [← e1]
  refine runK (e := b) s' g1.ok h1 (x.go X.K X.mg g1 e1) fun v' c2 d' g2 e2 r2 h2 => ?_
  have g := g1.trans X.K X.mg g2
  have r1' := Rep.mono X.K X.mg g2.fr.mono _ _ r1
  cases d with
  | tup ds =>
    cases d' with
    | lst es =>
      obtain ⟨hle, h2⟩ := h2
      obtain ⟨a', xs, rfl, ha, ra⟩ := r1'
      obtain ⟨b', ys, rfl, hb, rb⟩ := r2
      exact ⟨a', b', xs, ys, rfl, g2.ok.sub.sqT X.K ha, SqL.of (g2.ok.sub.lst hb), fun L => k _ (zipD ds es) _ c2 g (e2.trans e1) (it_zipM (L.tup g2.ok.sub ha ra) hle) ⟨⟨xs, ha, ra⟩, ys, hb, rb⟩ h2⟩
    | _ => exact h2.elim
  | _ => cases d' <;> exact h2.elim
end
end PL
namespace PL
open PySem PySem.Spec PyProof.Rows L2
open He (ga ma fAd ba eqO eqO_ok Fa DefD fnW AlD valD frG frG_in asD DefD.funD glo_ok free_ok cls_ok)
abbrev FaX : Type := PySem.W.Frag → Bool
def obsX (fa : List FaX) (fn : List DefD) (K : PySem.W.Frag) : AlD := ((fa.all fun f => f K) && fn.all fun d => d.ok K, fn.map fun d => fnW K d.at_)
def SaysX (fa : List FaX) (fn : List DefD) (K : PySem.W.Frag) : Prop := obsX fa fn K = valD fn
section
variable {fa : List FaX} {fn : List DefD} {K : PySem.W.Frag}
theorem SaysX.fact (c : SaysX fa fn K) (i : Nat) {f : FaX} (h : fa[i]? = some f := by rfl) : f K = true := by
  have c1 := (ba (show ((fa.all fun f => f K) && fn.all fun d => d.ok K) = true from congrArg (fun z : AlD => z.1) c)).1
  exact List.all_eq_true.mp c1 f (List.mem_of_getElem? h)
theorem SaysX.def_ (c : SaysX fa fn K) (i : Nat) {d : DefD} (h : fn[i]? = some d := by rfl) : ∃ fd, FunD K d.name d.qual d.params d.body d.scope (d.dvs K) (d.kws K) (fAd K d.at_) fd := by
  have c2 := (ba (show ((fa.all fun f => f K) && fn.all fun d => d.ok K) = true from congrArg (fun z : AlD => z.1) c)).2
  have e : fn.map (fun d => fnW K d.at_) = fn.map DefD.val := congrArg (fun z : AlD => z.2) c
  have e2 : (fn.map fun d => fnW K d.at_)[i]? = (fn.map DefD.val)[i]? := by rw [e]
  rw [List.getElem?_map, List.getElem?_map, h] at e2
  exact DefD.funD (Option.some.inj e2) (List.all_eq_true.mp c2 d (List.mem_of_getElem? h))
end
def oneB (a b : Option Bool) : Bool := decide (a = b)
def clsB (x : Str) (flds : List Str) : FaX := fun K => (Fa.glo x).ok K && ((Fa.cls x).ok K && (flds.all (fun f => (Fa.noat x f).ok K) &&
  (eqO (PySem.W.findIn K (.ref (ga K x)) "__class__") (some (some (.builtin "object.__class__"))) && (eqO (PySem.W.specialIn K (.builtin "object.__class__") "__get__") (some (some (.builtin "getset_descriptor.__get__"))) &&
  (oneB (PySem.W.takesIn K (.builtin "object.__class__")) (some true) && (oneB (PySem.W.mroIn K (ga K x) (.type "object")) (some true) && (eqO (PySem.W.findIn K (.ref (ga K x)) "__ne__") (some (some (.builtin "object.__ne__"))) &&
  (oneB (PySem.W.subIn K (.ref (ga K x)) (.type "object")) (some true) && (PySem.W.selfFirst K (ga K x) && (PySem.W.makesIn K (ga K x) && PySem.W.keepIn K (.ref (ga K x))))))))))))
theorem clsB_ok {K : PySem.W.Frag} {h : Heap} {mg : Str → Option Value} (X : K.In h) (G : h.Ns mainGlobals mg) {x : Str} {flds : List Str} (c : clsB x flds K = true) : ClAt K mg x (ga K x) flds := by
  obtain ⟨c1, c⟩ := ba c
  obtain ⟨c2, c⟩ := ba c
  obtain ⟨c3, c⟩ := ba c
  obtain ⟨c4, c⟩ := ba c
  obtain ⟨c5, c⟩ := ba c
  obtain ⟨c6, c⟩ := ba c
  obtain ⟨c7, c⟩ := ba c
  obtain ⟨c8, c⟩ := ba c
  obtain ⟨c9, c⟩ := ba c
  obtain ⟨c10, c⟩ := ba c
  obtain ⟨c11, c12⟩ := ba c
  exact ⟨glo_ok X G c1, cls_ok c2, fun f hf => He.noat_ok (List.all_eq_true.mp c3 f hf), eqO_ok c4, eqO_ok c5, of_decide_eq_true c6, of_decide_eq_true c7, eqO_ok c8, of_decide_eq_true c9, c10, c11, c12⟩
/-- an empty tuple -/
def empB (p : PySem.W.Frag → Addr) : FaX := fun K => match K.lookup (p K) with
  | some ⟨.type c, _, .seq its _, _⟩ => decide (c = "tuple") && decide (its.size = 0)
  | _ => false
theorem empB_ok {K : PySem.W.Frag} {p : PySem.W.Frag → Addr} (h : empB p K = true) (H : Hp) : SqT K H (p K) [] := by
  unfold empB at h
  cases q : K.lookup (p K) with
  | none =>
    rw [q] at h
    cases h
  | some o =>
    obtain ⟨oc, od, dt, osl⟩ := o
    rw [q] at h
    cases oc with
    | type c =>
      cases dt with
      | seq its n =>
        obtain ⟨h1, h2⟩ := ba (show (decide (c = "tuple") && decide (its.size = 0)) = true from h)
        have e : its.toList = [] := by
          have := of_decide_eq_true h2
          exact List.length_eq_zero_iff.mp (by simpa using this)
        exact .inr ⟨_, its, n, q, congrArg Value.type (of_decide_eq_true h1), rfl, by have := of_decide_eq_true h2; omega, by rw [e]; exact .nil⟩
      | _ => cases h
    | _ => cases dt <;> cases h
section
variable [HasT] {P : Program} {w : World} {K : PySem.W.Frag} {mg : Str → Option Value} {base h : Heap}
theorem dfAt {x : Str} {fd : FuncData} {ps : List Str} {j : Nat} {fs : FS} (X : K.In h) (G : h.Ns mainGlobals mg) (c : (Fa.glo x).ok K = true) (kp : PySem.W.keepIn K (.ref (ga K x)) = true) (b : Binds K fd ps []) (F : FnOk P w K mg base (L2N.CX P w) j (ga K x) fd ps (spOf K mg fs ps.length)) : DfAt P w K mg base x (ga K x) fd ps j fs :=
  ⟨F, glo_ok X G c, kp, b⟩
theorem mtAt {x m : Str} {fd : FuncData} {ps : List Str} {j : Nat} {fs : FS} (c : (Fa.meth x m).ok K = true) (b : Binds K fd ps []) (F : FnOk P w K mg base (L2N.CX P w) j (ma K (ga K x) m) fd ps (spOf K mg fs ps.length)) : MtAt P w K mg base (ga K x) m (ma K (ga K x) m) fd ps j fs := by
  obtain ⟨c1, c2, c3⟩ := He.meth_ok c
  exact ⟨F, c1, c2, c3, b⟩
end
theorem no_way (P : Program) (w : World) (H : Hp) (s : Shared) (e : Value) (s' : Shared) (h : L2N.CX P w [] H s (fun _ _ _ => False) e s') : False := by
  obtain ⟨_, _, _, _, _, _, _, _, _, _, _, _, z⟩ := h
  exact z
/-- the law's call: the script is a list that nobody changes -/
theorem law_sp [HasT] {K : PySem.W.Frag} {mg : Str → Option Value} {fs : FS} {H : Hp} {a : Addr} {ns : List Int} (ht : LamX.Tabs HasT.T H) (hn : ns.length ≤ 63) (hS : SqL K H a (ns.map V.int))
    (hfs : ∀ Q : R → List Ent → Prop, ∀ Ep : Ex → List Ent → Prop, (Q (.val (.bl true)) ([Ent.val (.kst (ns.map .int))])) → fs ([Ent.val (.kst (ns.map .int))]) Q Ep) : spOf K mg fs 1 [.ref a] H (fun v _ => v = .bl true) fun _ _ _ => False := by
  have rep : Rep K mg H (.kst (ns.map .int)) (.ref a) := ⟨a, _, rfl, hS, RepL.map K mg D.int V.int (fun _ => rfl) ns⟩
  refine ⟨⟨H, H, [some (.ref a)], [some (.val (.kst (ns.map .int)))], fun _ => []⟩, [Ent.val (.kst (ns.map .int))], fun r _ => r = .val (.bl true), fun _ _ => False, ⟨ht, Mono.refl _, rfl, fun i e he => ?_, fun i _ => rfl, fun i b hb => absurd hb (by simp), fun i j b hb => absurd hb (by simp), fun _ _ e => e⟩, rfl, rfl, rfl, rfl, fun e he d => ?_, hfs _ _ rfl, fun _ _ _ _ _ _ _ _ _ _ _ _ _ _ e => e.elim, fun v F' H' r args' _ _ _ _ _ _ rr hq => ?_⟩
  · match i, he with
    | 0, he => cases he; exact ⟨.ref a, rfl, rep, rfl⟩
    | i + 1, he => simp at he
  · have he' : e ∈ [Ent.val (.kst (ns.map .int))] := he
    rw [List.mem_singleton.mp he']
    intro z; cases z
  · rw [hq] at rr
    exact rr
end PL
namespace PL
open PySem PySem.Spec PyProof.Rows L2
open He (ga ma fAd ba eqO eqO_ok Fa DefD FnW AlD valD frG frG_in glo_ok free_ok cls_ok Dv dflB dflB_ok kwdB kwdB_ok)
def memN (a : Addr) : List Addr → Bool
  | [] => false
  | b :: r => match Nat.beq a b with
    | true => true
    | false => memN a r
def refsY (o : Obj) : List Addr := match o.cls with
  | .type "code" => []
  | _ => He.refsD o
def addY (seen acc : List Addr) (a : Addr) : List Addr := match memN a acc with
  | true => acc
  | false => match memN a seen with
    | true => acc
    | false => a :: acc
def addsY (seen : List Addr) : List Addr → List Addr → List Addr
  | [], acc => acc
  | a :: r, acc => addsY seen r (addY seen acc a)
def nextY (g : Addr → Option Obj) (seen : List Addr) : List Addr → List Addr → List Addr
  | [], acc => acc
  | a :: r, acc => match g a with
    | some o => nextY g seen r (addsY seen (refsY o) acc)
    | none => nextY g seen r acc
def asR (g : Addr → Option Obj) : Nat → List Addr → List Addr → List Addr
  | 0, seen, fr => seen ++ fr
  | n + 1, seen, fr => asR g n (seen ++ fr) (nextY g (seen ++ fr) fr [])
def asY (g : Addr → Option Obj) (n : Nat) : List Addr := asR g n [] [mainGlobals, cStatics]
/-- a def at an address that the frame tells -/
structure DefY where
  p : PySem.W.Frag → Addr
  d : DefD
  cl : List Str := []
/-- what a def must be: cl, the names that it closes over -/
def DefY.val (d : DefY) : FnW := some (d.d.name, d.d.qual, d.d.params, .stmts d.d.body, d.d.scope, mainGlobals, d.cl.map (fun x => (x, 0)), builtinsNs)
def fnY (K : PySem.W.Frag) (a : Addr) : FnW := match K.lookup a with
  | some ⟨_, _, .func fd, _⟩ => some (fd.name, fd.qualname, fd.params, fd.body, fd.scope, fd.globals, fd.closure.map (fun q => (q.1, 0)), fd.builtins)
  | _ => none
def DefY.ok (K : PySem.W.Frag) (d : DefY) : Bool := PySem.W.keepIn K (.ref (d.p K)) && (match K.lookup (d.p K) with
  | some ⟨_, _, .func fd, _⟩ => PySem.W.codeIn K fd.code d.d.qual && (dflB K fd.defaults (d.d.dvs K) && kwdB K fd.kwdefaults (d.d.kws K))
  | _ => false)
theorem DefY.funD {K : PySem.W.Frag} {d : DefY} (hcl : d.cl = []) (e : fnY K (d.p K) = d.val) (c : d.ok K = true) : ∃ fd, FunD K d.d.name d.d.qual d.d.params d.d.body d.d.scope (d.d.dvs K) (d.d.kws K) (d.p K) fd := by
  obtain ⟨kp, c2⟩ := ba c
  unfold fnY at e
  cases q : K.lookup (d.p K) with
  | none =>
    rw [q] at c2
    cases c2
  | some o =>
    obtain ⟨oc, od, dt, osl⟩ := o
    rw [q] at c2 e
    cases dt with
    | func fd =>
      obtain ⟨n1, n2, n3, n4, n5, n6, n7, n8, n9, n10, n11, n12, n13, n14, n15⟩ := fd
      have e2 : (some (n1, n2, n3, n4, n5, n6, n7.map (fun q => (q.1, 0)), n15) : FnW) = some (d.d.name, d.d.qual, d.d.params, .stmts d.d.body, d.d.scope, mainGlobals, d.cl.map (fun x => (x, 0)), builtinsNs) := e
      rw [hcl] at e2
      simp only [Option.some.injEq, Prod.mk.injEq, List.map_nil, List.map_eq_nil_iff] at e2
      obtain ⟨h1, h2, h3, h4, h5, h6, h7, h8⟩ := e2
      subst h1 h2 h3 h4 h5 h6 h7 h8
      have c3 : (PySem.W.codeIn K n13 d.d.qual && (dflB K n8 (d.d.dvs K) && kwdB K n9 (d.d.kws K))) = true := c2
      obtain ⟨k1, k2⟩ := ba c3
      obtain ⟨k3, k4⟩ := ba k2
      exact ⟨_, ⟨oc, od, n8, n9, n10, n11, n12, n13, n14, osl, rfl, q, k1, dflB_ok k3, kwdB_ok k4⟩, kp⟩
    | _ => cases c2
open He (Defn cT codeOf codeOf_eq codeIn_ref emptyTab emptyTab_eq frT frT_in frT_none tabsB)
def obsY (fa : List FaX) (fn : List DefY) (K : PySem.W.Frag) : AlD := ((fa.all fun f => f K) && fn.all fun d => d.ok K, fn.map fun d => fnY K (d.p K))
def valY (fn : List DefY) : AlD := (true, fn.map DefY.val)
abbrev AlY : Type := AlD × Bool
/-- the facts, the defs, the tables of code objects: empty, not in K -/
structure SaysY (fa : List FaX) (fn : List DefY) (tf : List Defn) (h : Heap) (K : PySem.W.Frag) : Prop where
  t : obsY fa fn K = valY fn
  hd : ∀ p ∈ tf, PySem.W.codeHdIn K (cT K p).1 (cT K p).2 = true
  out : ∀ p ∈ tf, K.lookup (cT K p).2 = none
  empty : ∀ p ∈ tf, h.get? (cT K p).2 = some { cls := .none, data := .fields #[] }
def obsYG (n : Nat) (fa : List FaX) (fn : List DefY) (tf : List Defn) (g : Addr → Option Obj) : AlY := (obsY fa fn (frT g (asY g n)), tabsB g tf (frT g (asY g n)))
theorem saysY_of {n : Nat} {fa : List FaX} {fn : List DefY} {tf : List Defn} {h : Heap} (e : obsYG n fa fn tf h.get? = (valY fn, true)) : SaysY fa fn tf h (frT h.get? (asY h.get? n)) := by
  have e1 : obsY fa fn (frT h.get? (asY h.get? n)) = valY fn := congrArg (fun z : AlY => z.1) e
  have h2 : tabsB h.get? tf (frT h.get? (asY h.get? n)) = true := congrArg (fun z : AlY => z.2) e
  have key : ∀ p ∈ tf, PySem.W.codeHdIn (frT h.get? (asY h.get? n)) (cT (frT h.get? (asY h.get? n)) p).1 (cT (frT h.get? (asY h.get? n)) p).2 = true ∧ ∃ o, h.get? (cT (frT h.get? (asY h.get? n)) p).2 = some o ∧ emptyTab o = true := fun p hp => by
    obtain ⟨h3, h4⟩ := ba (List.all_eq_true.mp h2 p hp)
    refine ⟨h3, ?_⟩
    cases q : h.get? (cT (frT h.get? (asY h.get? n)) p).2 with
    | none =>
      rw [q] at h4
      cases h4
    | some o =>
      rw [q] at h4
      exact ⟨o, rfl, h4⟩
  exact ⟨e1, fun p hp => (key p hp).1, fun p hp => by
    obtain ⟨_, o, q, z⟩ := key p hp
    exact frT_none q z, fun p hp => by
    obtain ⟨_, o, q, z⟩ := key p hp
    rw [q, emptyTab_eq z]⟩
def hookY (n : Nat) (fa : List FaX) (fn : List DefY) (tf : List Defn) : PySem.W.Hook where
  α := AlY
  obs := fun s => obsYG n fa fn tf s.heap.get?
  val := fun _ => (valY fn, true)
  says := fun _ h => ∃ K : PySem.W.Frag, K.In h ∧ SaysY fa fn tf h K
  of := fun _ _ e => ⟨_, frT_in, saysY_of e⟩
  keeps := fun _ _ _ ⟨K, hK, c⟩ k => ⟨K, PySem.W.Frag.In.keeps hK k, ⟨c.t, c.hd, c.out, fun p hp => k _ _ (c.empty p hp)⟩⟩
theorem obsYG_eq {n : Nat} {fa : List FaX} {fn : List DefY} {tf : List Defn} {g : Addr → Option Obj} {s : Shared} (h : ∀ a, g a = s.heap.get? a) : obsYG n fa fn tf g = (hookY n fa fn tf).obs s := by
  have e : g = s.heap.get? := funext h
  rw [e] <;> rfl
section
variable {fa : List FaX} {fn : List DefY} {tf : List Defn} {h : Heap} {K : PySem.W.Frag}
theorem SaysY.fact (c : SaysY fa fn tf h K) (i : Nat) {f : FaX} (e : fa[i]? = some f := by rfl) : f K = true := by
  have c1 := (ba (show ((fa.all fun f => f K) && fn.all fun d => d.ok K) = true from congrArg (fun z : AlD => z.1) c.t)).1
  exact List.all_eq_true.mp c1 f (List.mem_of_getElem? e)
theorem SaysY.def_ (c : SaysY fa fn tf h K) (i : Nat) {d : DefY} (hi : fn[i]? = some d := by rfl) (hcl : d.cl = [] := by rfl) : ∃ fd, FunD K d.d.name d.d.qual d.d.params d.d.body d.d.scope (d.d.dvs K) (d.d.kws K) (d.p K) fd := by
  have c2 := (ba (show ((fa.all fun f => f K) && fn.all fun d => d.ok K) = true from congrArg (fun z : AlD => z.1) c.t)).2
  have e : fn.map (fun d => fnY K (d.p K)) = fn.map DefY.val := congrArg (fun z : AlD => z.2) c.t
  have e2 : (fn.map fun d => fnY K (d.p K))[i]? = (fn.map DefY.val)[i]? := by rw [e]
  rw [List.getElem?_map, List.getElem?_map, hi] at e2
  exact DefY.funD hcl (Option.some.inj e2) (List.all_eq_true.mp c2 d (List.mem_of_getElem? hi))
end
/-- the law's promise at the head's heap, tables of code objects beside it -/
theorem lawAtY {l : PySem.W.OpenLaw} {w : World} {K : PySem.W.Frag} {k n : Nat} {x : Str} {mg : Str → Option Value} {fa : List FaX} {fn : List DefY} {tf : List Defn} {f : Addr} {h : Heap} {fd : FuncData} {sp : Sp} (X : K.In h) (c : SaysY fa fn tf h K)
    (hb : ∀ (s : Shared) (u : Value), BindsTo s fd ⟨[u], []⟩ [(x, u)])
    (hsp : ∀ (H : Hp) (a : Addr) (ns : List Int), ns.length ≤ n → (∀ p ∈ tf, H (cT K p).2 = some (.tbl #[])) → SqL K H a (ns.map V.int) → sp [.ref a] H (fun v _ => v = .bl true) fun _ _ _ => False)
    (hF : ∀ base : Heap, K.In base → base.Ns mainGlobals mg → (∀ p ∈ tf, LamX.TabB base mg (cT K p).1 (cT K p).2) → FnOk l.prog w K mg base (L2N.CX l.prog w) k f fd [x] sp) :
    LamX.LawAtS l w K (L2N.CX l.prog w) k n x mg f h := by
  refine ⟨fd, tf.map (cT K), sp, ?_, ?_, ?_, hb, fun H a ns l1 _ hT hS => hsp H a ns l1 (fun p hp => hT _ (List.mem_map.mpr ⟨p, hp, rfl⟩)) hS, fun base KX G T => hF base KX G fun p hp => T _ (List.mem_map.mpr ⟨p, hp, rfl⟩)⟩
  · intro q hq
    obtain ⟨p, hp, rfl⟩ := List.mem_map.mp hq
    exact c.empty p hp
  · intro q hq
    obtain ⟨p, hp, rfl⟩ := List.mem_map.mp hq
    exact c.out p hp
  · intro q hq
    obtain ⟨p, hp, rfl⟩ := List.mem_map.mp hq
    exact PySem.W.codeHd_of_K X (c.hd p hp)
end PL
namespace PL
open PySem PySem.Spec PyProof.Rows L2
open He (tabsB frT FnW)
section
variable {σ : Type} {x : Option σ}
theorem om_eq {α : Type} {f : σ → α} {a : α} {s : σ} (e : x = some s) (h : x.map f = some a) : f s = a := by
  rw [e] at h
  exact Option.some.inj h
theorem om_some {α : Type} {f : σ → α} {a : α} (h : x.map f = some a) : ∃ s, x = some s := by
  cases e : x with
  | none => rw [e] at h; cases h
  | some s => exact ⟨s, rfl⟩
end
/-- the frame that a state's look gives -/
abbrev KT (s : PySem.W.SharedT) : PySem.W.Frag := frT (HandSHeadRun.getT s) (asY (HandSHeadRun.getT s) 6)
abbrev faOk (fa : List FaX) (s : PySem.W.SharedT) : Bool := fa.all ((fun s f => f (KT s)) s)
abbrev fnOk (fn : List DefY) (s : PySem.W.SharedT) : Bool := fn.all ((fun s d => d.ok (KT s)) s)
abbrev fnVs (fn : List DefY) (s : PySem.W.SharedT) : List FnW := fn.map ((fun s d => fnY (KT s) (d.p (KT s))) s)
theorem run_split {x : Option PySem.W.SharedT} {α β : Type} {A : PySem.W.SharedT → α} {B : PySem.W.SharedT → β} {a : α} {b : β} {fa : List FaX} {fn : List DefY} {tf : List He.Defn}
    (h1 : x.map A = some a) (h2 : x.map B = some b) (h3 : x.map (faOk fa) = some true) (h4 : x.map (fnOk fn) = some true) (h5 : x.map (fnVs fn) = some (fn.map DefY.val)) (h6 : x.map (fun s => tabsB (HandSHeadRun.getT s) tf (KT s)) = some true) :
    x.map (fun s => (A s, B s, obsYG 6 fa fn tf (HandSHeadRun.getT s))) = some (a, b, (valY fn, true)) := by
  obtain ⟨s, e⟩ := om_some h1
  have a1 := om_eq e h1
  have a2 := om_eq e h2
  have a3 := om_eq e h3
  have a4 := om_eq e h4
  have a5 := om_eq e h5
  have a6 := om_eq e h6
  rw [e]
  show some (A s, B s, ((faOk fa s && fnOk fn s, fnVs fn s), tabsB (HandSHeadRun.getT s) tf (KT s))) = _
  rw [a1, a2, a3, a4, a5, a6]
  rfl
end PL
namespace PL
open PySem PySem.Spec PyProof.Rows L2
end PL
namespace PL
open PySem PySem.Spec PyProof.Rows L2
end PL
namespace PL
open PySem PySem.Spec PyProof.Rows L2
end PL
namespace PL
open PySem PySem.Spec PyProof.Rows L2
end PL
namespace PL
open PySem PySem.Spec PyProof.Rows L2 LamX
end PL
namespace PL
open PySem PySem.Spec PyProof.Rows L2 LamX
end PL
namespace PL
open PySem PySem.Spec PyProof.Rows L2 LamX
end PL
namespace PL
open PySem PySem.Spec PyProof.Rows L2
end PL
namespace PySem
end PySem
namespace PL
open PySem PySem.Spec PyProof.Rows L2
end PL
namespace PL
open PySem PySem.Spec PyProof.Rows L2
end PL
namespace PL
open PySem PySem.Spec PyProof.Rows L2
end PL
namespace PL
open PySem PySem.Spec PyProof.Rows L2 LamX
end PL
namespace PL
open PySem PySem.Spec PyProof.Rows L2
end PL
namespace PL
open PySem PySem.Spec PyProof.Rows L2 LamX
end PL
namespace PL
open PySem PySem.Spec PyProof.Rows L2
open He (ga ma fAd ba eqO eqO_ok Fa DefD FnW dflB dflB_ok kwdB kwdB_ok glo_ok)
/-- `some true` -/
def oT (o : Option Bool) : Bool := match o with
  | some true => true
  | _ => false
end PL
namespace PL
open PySem PySem.Spec PyProof.Rows L2
open He (ga ma fAd ba Fa glo_ok)
end PL
namespace PL
open PySem
end PL
namespace PL.K4
open PySem PySem.Spec PyProof.Rows L2
def top (i : Nat) : Stmt := PySem.Challenge.pw_wardgates_k04_whole_sets_counted_over_cu.main.body.getD i (.Pass ⟨0, 0, 0, 0⟩)
abbrev s__law_take : Stmt := top 28
abbrev s__law_begin : Stmt := top 27
abbrev s_is_number : Stmt := top 8
abbrev s_is_name : Stmt := top 9
abbrev s_is_range : Stmt := top 10
abbrev s_is_end : Stmt := top 11
abbrev s_is_packet : Stmt := top 12
abbrev s_are_ranges : Stmt := top 13
abbrev s_is_block : Stmt := top 14
abbrev s_turned_block : Stmt := top 15
abbrev s_has_packet : Stmt := top 16
abbrev s_met : Stmt := top 17
abbrev s_split : Stmt := top 18
abbrev s_without_block : Stmt := top 19
abbrev s_side_by_side : Stmt := top 20
abbrev s_pushed_together : Stmt := top 21
abbrev s_disjoint : Stmt := top 22
abbrev s_size_of : Stmt := top 23
abbrev s_check_blocks : Stmt := top 24
abbrev s_Packets_init : Stmt := inClass (top 25) 0
abbrev s_Packets_contains : Stmt := inClass (top 25) 1
abbrev s_Packets_or : Stmt := inClass (top 25) 3
abbrev s_Packets_and : Stmt := inClass (top 25) 4
abbrev s_Packets_sub : Stmt := inClass (top 25) 5
abbrev s_Packets_blocks : Stmt := inClass (top 25) 6
abbrev s_Packets_size : Stmt := inClass (top 25) 7
abbrev s_Packets_least : Stmt := inClass (top 25) 8
abbrev s_Packets_turned : Stmt := inClass (top 25) 9
abbrev s__law_pick : Stmt := top 29
abbrev s__law_in : Stmt := top 30
abbrev s__law_any_range : Stmt := top 31
abbrev s__law_any_cells : Stmt := top 32
abbrev s__law_cuts : Stmt := top 33
abbrev s__law_corners : Stmt := top 34
abbrev s__law_volume : Stmt := top 35
abbrev s__law_block_size : Stmt := top 36
abbrev s__law_set_right : Stmt := top 37
abbrev s_law : Stmt := top 38
end PL.K4
namespace PL.K4
open PySem PySem.Spec PyProof.Rows L2
def dd__law_begin : DefY := ⟨fun K => He.fAd K ("_law_begin", none), ⟨("_law_begin", none), "_law_begin", "_law_begin", defArgs s__law_begin, defBody s__law_begin, defScope s__law_begin, [], []⟩, []⟩
def dd__law_take : DefY := ⟨fun K => He.fAd K ("_law_take", none), ⟨("_law_take", none), "_law_take", "_law_take", defArgs s__law_take, defBody s__law_take, defScope s__law_take, [], []⟩, []⟩
def dd_is_number : DefY := ⟨fun K => He.fAd K ("is_number", none), ⟨("is_number", none), "is_number", "is_number", defArgs s_is_number, defBody s_is_number, defScope s_is_number, [], []⟩, []⟩
def dd_is_name : DefY := ⟨fun K => He.fAd K ("is_name", none), ⟨("is_name", none), "is_name", "is_name", defArgs s_is_name, defBody s_is_name, defScope s_is_name, [], []⟩, []⟩
def dd_is_range : DefY := ⟨fun K => He.fAd K ("is_range", none), ⟨("is_range", none), "is_range", "is_range", defArgs s_is_range, defBody s_is_range, defScope s_is_range, [], []⟩, []⟩
def dd_is_end : DefY := ⟨fun K => He.fAd K ("is_end", none), ⟨("is_end", none), "is_end", "is_end", defArgs s_is_end, defBody s_is_end, defScope s_is_end, [], []⟩, []⟩
def dd_is_packet : DefY := ⟨fun K => He.fAd K ("is_packet", none), ⟨("is_packet", none), "is_packet", "is_packet", defArgs s_is_packet, defBody s_is_packet, defScope s_is_packet, [], []⟩, []⟩
def dd_are_ranges : DefY := ⟨fun K => He.fAd K ("are_ranges", none), ⟨("are_ranges", none), "are_ranges", "are_ranges", defArgs s_are_ranges, defBody s_are_ranges, defScope s_are_ranges, [], []⟩, []⟩
def dd_is_block : DefY := ⟨fun K => He.fAd K ("is_block", none), ⟨("is_block", none), "is_block", "is_block", defArgs s_is_block, defBody s_is_block, defScope s_is_block, [], []⟩, []⟩
def dd_turned_block : DefY := ⟨fun K => He.fAd K ("turned_block", none), ⟨("turned_block", none), "turned_block", "turned_block", defArgs s_turned_block, defBody s_turned_block, defScope s_turned_block, [], []⟩, []⟩
def dd_has_packet : DefY := ⟨fun K => He.fAd K ("has_packet", none), ⟨("has_packet", none), "has_packet", "has_packet", defArgs s_has_packet, defBody s_has_packet, defScope s_has_packet, [], []⟩, []⟩
def dd_met : DefY := ⟨fun K => He.fAd K ("met", none), ⟨("met", none), "met", "met", defArgs s_met, defBody s_met, defScope s_met, [], []⟩, []⟩
def dd_split : DefY := ⟨fun K => He.fAd K ("split", none), ⟨("split", none), "split", "split", defArgs s_split, defBody s_split, defScope s_split, [], []⟩, []⟩
def dd_without_block : DefY := ⟨fun K => He.fAd K ("without_block", none), ⟨("without_block", none), "without_block", "without_block", defArgs s_without_block, defBody s_without_block, defScope s_without_block, [], []⟩, []⟩
def dd_side_by_side : DefY := ⟨fun K => He.fAd K ("side_by_side", none), ⟨("side_by_side", none), "side_by_side", "side_by_side", defArgs s_side_by_side, defBody s_side_by_side, defScope s_side_by_side, [], []⟩, []⟩
def dd_pushed_together : DefY := ⟨fun K => He.fAd K ("pushed_together", none), ⟨("pushed_together", none), "pushed_together", "pushed_together", defArgs s_pushed_together, defBody s_pushed_together, defScope s_pushed_together, [], []⟩, []⟩
def dd_disjoint : DefY := ⟨fun K => He.fAd K ("disjoint", none), ⟨("disjoint", none), "disjoint", "disjoint", defArgs s_disjoint, defBody s_disjoint, defScope s_disjoint, [], []⟩, []⟩
def dd_size_of : DefY := ⟨fun K => He.fAd K ("size_of", none), ⟨("size_of", none), "size_of", "size_of", defArgs s_size_of, defBody s_size_of, defScope s_size_of, [], []⟩, []⟩
def dd_check_blocks : DefY := ⟨fun K => He.fAd K ("check_blocks", none), ⟨("check_blocks", none), "check_blocks", "check_blocks", defArgs s_check_blocks, defBody s_check_blocks, defScope s_check_blocks, [], []⟩, []⟩
def dd_Packets_init : DefY := ⟨fun K => He.fAd K ("Packets", some "__init__"), ⟨("Packets", some "__init__"), "__init__", "Packets.__init__", defArgs s_Packets_init, defBody s_Packets_init, defScope s_Packets_init, [.adr (He.dflAt ("Packets", some "__init__") 0)], []⟩, []⟩
def dd_Packets_contains : DefY := ⟨fun K => He.fAd K ("Packets", some "__contains__"), ⟨("Packets", some "__contains__"), "__contains__", "Packets.__contains__", defArgs s_Packets_contains, defBody s_Packets_contains, defScope s_Packets_contains, [], []⟩, []⟩
def dd_Packets_or : DefY := ⟨fun K => He.fAd K ("Packets", some "__or__"), ⟨("Packets", some "__or__"), "__or__", "Packets.__or__", defArgs s_Packets_or, defBody s_Packets_or, defScope s_Packets_or, [], []⟩, []⟩
def dd_Packets_and : DefY := ⟨fun K => He.fAd K ("Packets", some "__and__"), ⟨("Packets", some "__and__"), "__and__", "Packets.__and__", defArgs s_Packets_and, defBody s_Packets_and, defScope s_Packets_and, [], []⟩, []⟩
def dd_Packets_sub : DefY := ⟨fun K => He.fAd K ("Packets", some "__sub__"), ⟨("Packets", some "__sub__"), "__sub__", "Packets.__sub__", defArgs s_Packets_sub, defBody s_Packets_sub, defScope s_Packets_sub, [], []⟩, []⟩
def dd_Packets_blocks : DefY := ⟨fun K => He.fAd K ("Packets", some "blocks"), ⟨("Packets", some "blocks"), "blocks", "Packets.blocks", defArgs s_Packets_blocks, defBody s_Packets_blocks, defScope s_Packets_blocks, [], []⟩, []⟩
def dd_Packets_size : DefY := ⟨fun K => He.fAd K ("Packets", some "size"), ⟨("Packets", some "size"), "size", "Packets.size", defArgs s_Packets_size, defBody s_Packets_size, defScope s_Packets_size, [], []⟩, []⟩
def dd_Packets_least : DefY := ⟨fun K => He.fAd K ("Packets", some "least"), ⟨("Packets", some "least"), "least", "Packets.least", defArgs s_Packets_least, defBody s_Packets_least, defScope s_Packets_least, [], []⟩, []⟩
def dd_Packets_turned : DefY := ⟨fun K => He.fAd K ("Packets", some "turned"), ⟨("Packets", some "turned"), "turned", "Packets.turned", defArgs s_Packets_turned, defBody s_Packets_turned, defScope s_Packets_turned, [], []⟩, []⟩
def dd__law_pick : DefY := ⟨fun K => He.fAd K ("_law_pick", none), ⟨("_law_pick", none), "_law_pick", "_law_pick", defArgs s__law_pick, defBody s__law_pick, defScope s__law_pick, [], []⟩, []⟩
def dd__law_in : DefY := ⟨fun K => He.fAd K ("_law_in", none), ⟨("_law_in", none), "_law_in", "_law_in", defArgs s__law_in, defBody s__law_in, defScope s__law_in, [], []⟩, []⟩
def dd__law_any_range : DefY := ⟨fun K => He.fAd K ("_law_any_range", none), ⟨("_law_any_range", none), "_law_any_range", "_law_any_range", defArgs s__law_any_range, defBody s__law_any_range, defScope s__law_any_range, [], []⟩, []⟩
def dd__law_any_cells : DefY := ⟨fun K => He.fAd K ("_law_any_cells", none), ⟨("_law_any_cells", none), "_law_any_cells", "_law_any_cells", defArgs s__law_any_cells, defBody s__law_any_cells, defScope s__law_any_cells, [], []⟩, []⟩
def dd__law_cuts : DefY := ⟨fun K => He.fAd K ("_law_cuts", none), ⟨("_law_cuts", none), "_law_cuts", "_law_cuts", defArgs s__law_cuts, defBody s__law_cuts, defScope s__law_cuts, [], []⟩, []⟩
def dd__law_corners : DefY := ⟨fun K => He.fAd K ("_law_corners", none), ⟨("_law_corners", none), "_law_corners", "_law_corners", defArgs s__law_corners, defBody s__law_corners, defScope s__law_corners, [], []⟩, []⟩
def dd__law_volume : DefY := ⟨fun K => He.fAd K ("_law_volume", none), ⟨("_law_volume", none), "_law_volume", "_law_volume", defArgs s__law_volume, defBody s__law_volume, defScope s__law_volume, [], []⟩, []⟩
def dd__law_block_size : DefY := ⟨fun K => He.fAd K ("_law_block_size", none), ⟨("_law_block_size", none), "_law_block_size", "_law_block_size", defArgs s__law_block_size, defBody s__law_block_size, defScope s__law_block_size, [], []⟩, []⟩
def dd__law_set_right : DefY := ⟨fun K => He.fAd K ("_law_set_right", none), ⟨("_law_set_right", none), "_law_set_right", "_law_set_right", defArgs s__law_set_right, defBody s__law_set_right, defScope s__law_set_right, [], []⟩, []⟩
def dd_law : DefY := ⟨fun K => He.fAd K ("law", none), ⟨("law", none), "law", "law", defArgs s_law, defBody s_law, defScope s_law, [], []⟩, []⟩
def tfA : List He.Defn := []
def fnA0 : List DefY := [dd__law_begin, dd__law_take, dd_is_number, dd_is_name, dd_is_range, dd_is_end, dd_is_packet, dd_are_ranges, dd_is_block, dd_turned_block, dd_has_packet, dd_met, dd_split, dd_without_block, dd_side_by_side, dd_pushed_together, dd_disjoint, dd_size_of, dd_check_blocks, dd_Packets_init, dd_Packets_contains, dd_Packets_or, dd_Packets_and, dd_Packets_sub, dd_Packets_blocks, dd_Packets_size, dd_Packets_least, dd_Packets_turned, dd__law_pick, dd__law_in, dd__law_any_range, dd__law_any_cells, dd__law_cuts, dd__law_corners, dd__law_volume, dd__law_block_size, dd__law_set_right, dd_law]
def fnA : List DefY := fnA0
def faA0 : List FaX := [(fun K => (He.Fa.free "abs").ok K),
  (fun K => (He.Fa.free "all").ok K),
  (fun K => (He.Fa.free "any").ok K),
  (fun K => (He.Fa.free "bool").ok K),
  (fun K => (He.Fa.free "dict").ok K),
  (fun K => (He.Fa.free "divmod").ok K),
  (fun K => (He.Fa.free "enumerate").ok K),
  (fun K => (He.Fa.free "int").ok K),
  (fun K => (He.Fa.free "isinstance").ok K),
  (fun K => (He.Fa.free "len").ok K),
  (fun K => (He.Fa.free "list").ok K),
  (fun K => (He.Fa.free "max").ok K),
  (fun K => (He.Fa.free "min").ok K),
  (fun K => (He.Fa.free "range").ok K),
  (fun K => (He.Fa.free "set").ok K),
  (fun K => (He.Fa.free "sorted").ok K),
  (fun K => (He.Fa.free "str").ok K),
  (fun K => (He.Fa.free "sum").ok K),
  (fun K => (He.Fa.free "tuple").ok K),
  (fun K => (He.Fa.free "zip").ok K),
  (fun K => (He.Fa.str "ALPHABET" "abcdefghijklmnopqrstuvwxyz").ok K),
  (fun K => (He.Fa.int "MOST_NUMBER" 255).ok K),
  (fun K => (He.Fa.int "MOST_SIGNS" 6).ok K),
  (fun K => (He.Fa.glo "_law_begin").ok K),
  (fun K => (He.Fa.glo "_law_take").ok K),
  (fun K => (He.Fa.glo "is_number").ok K),
  (fun K => (He.Fa.glo "is_name").ok K),
  (fun K => (He.Fa.glo "is_range").ok K),
  (fun K => (He.Fa.glo "is_end").ok K),
  (fun K => (He.Fa.glo "is_packet").ok K),
  (fun K => (He.Fa.glo "are_ranges").ok K),
  (fun K => (He.Fa.glo "is_block").ok K),
  (fun K => (He.Fa.glo "turned_block").ok K),
  (fun K => (He.Fa.glo "has_packet").ok K),
  (fun K => (He.Fa.glo "met").ok K),
  (fun K => (He.Fa.glo "split").ok K),
  (fun K => (He.Fa.glo "without_block").ok K),
  (fun K => (He.Fa.glo "side_by_side").ok K),
  (fun K => (He.Fa.glo "pushed_together").ok K),
  (fun K => (He.Fa.glo "disjoint").ok K),
  (fun K => (He.Fa.glo "size_of").ok K),
  (fun K => (He.Fa.glo "check_blocks").ok K),
  (fun K => (He.Fa.meth "Packets" "__init__").ok K),
  (fun K => (He.Fa.meth "Packets" "__contains__").ok K),
  (fun K => (He.Fa.meth "Packets" "__or__").ok K),
  (fun K => (He.Fa.meth "Packets" "__and__").ok K),
  (fun K => (He.Fa.meth "Packets" "__sub__").ok K),
  (fun K => (He.Fa.meth "Packets" "blocks").ok K),
  (fun K => (He.Fa.meth "Packets" "size").ok K),
  (fun K => (He.Fa.meth "Packets" "least").ok K),
  (fun K => (He.Fa.meth "Packets" "turned").ok K),
  (fun K => (He.Fa.glo "_law_pick").ok K),
  (fun K => (He.Fa.glo "_law_in").ok K),
  (fun K => (He.Fa.glo "_law_any_range").ok K),
  (fun K => (He.Fa.glo "_law_any_cells").ok K),
  (fun K => (He.Fa.glo "_law_cuts").ok K),
  (fun K => (He.Fa.glo "_law_corners").ok K),
  (fun K => (He.Fa.glo "_law_volume").ok K),
  (fun K => (He.Fa.glo "_law_block_size").ok K),
  (fun K => (He.Fa.glo "_law_set_right").ok K),
  (fun K => (He.Fa.glo "law").ok K),
  clsB "Packets" ["p_blocks"],
  empB (He.dflAt ("Packets", some "__init__") 0)]
def faA : List FaX := faA0
abbrev RowA : PySem.W.OpenRow := PySem.W.OpenLaw.row PySem.Challenge.rw_wardgates_k04_whole_sets_counted_over_cu
abbrev hk : PySem.W.Hook := hookY 6 faA fnA tfA
def obA (s : PySem.W.SharedT) : AlY := obsYG 6 faA fnA tfA (HandSHeadRun.getT s)
theorem obA_eq (s : PySem.W.SharedT) : obA s = hk.obs s.abs := obsYG_eq (HandSHeadRun.getT_eq s)
def names0 : List PySem.Str := ["GateError", "NoBlocks", "NoPackets", "ALPHABET", "MOST_SIGNS", "MOST_NUMBER", "is_number", "is_name", "is_range", "is_end", "is_packet", "are_ranges", "is_block", "turned_block", "has_packet", "met", "split", "without_block", "side_by_side", "pushed_together", "disjoint", "size_of", "check_blocks", "Packets", "_law_begin", "_law_take", "_law_pick", "_law_in", "_law_any_range", "_law_any_cells"]
def names1 : List PySem.Str := ["_law_cuts", "_law_corners", "_law_volume", "_law_block_size", "_law_set_right"]
def namesA : List PySem.Str := names0 ++ names1
noncomputable abbrev EX (w : World) (os : PySem.OsState) : Option PySem.W.SharedT := HandSHeadRun.endF (HandSHeadRun.stepQ (HandSHeadRun.denQ HandSHeadRun.tabQ) RowA.prog w) 20000 RowA.prog w os
abbrev QV : Program := PySem.W.view RowA.prog [38]
theorem run_l (w : World) (os : PySem.OsState) : (EX w os).map (fun s => HandSHeadRun.looksF RowA.prog (PySem.W.boot_heap w.params) s.abs) = some true := by kernel_rfl
theorem run_s (w : World) (os : PySem.OsState) : (EX w os).map (fun s => HandSHeadRun.seenQ QV namesA (importedModules RowA.prog.main.body) (fun s => PySem.W.xlAt QV [] s && PySem.W.recOk RowA.toRowW.records s) s.abs) = some (PySem.W.openGood QV namesA) := by kernel_rfl
theorem run_t (w : World) (os : PySem.OsState) : (EX w os).map (fun s => He.tabsB (HandSHeadRun.getT s) tfA (KT s)) = some true := by kernel_rfl
theorem run_f0 (w : World) (os : PySem.OsState) : (EX w os).map (faOk faA0) = some true := by kernel_rfl
theorem run_k0 (w : World) (os : PySem.OsState) : (EX w os).map (fnOk fnA0) = some true := by kernel_rfl
theorem run_v0 (w : World) (os : PySem.OsState) : (EX w os).map (fnVs fnA0) = some (fnA0.map DefY.val) := by kernel_rfl
theorem run (w : World) : HandSHeadRun.RunEq RowA QV hk obA 20000 namesA w := fun os =>
  run_split (run_l w os) (run_s w os) (run_f0 w os) (run_k0 w os) (run_v0 w os) (run_t w os)
end PL.K4
namespace PL
open PySem PySem.Spec PyProof.Rows L2
variable [HasT]
abbrev Rg := Int × Int
def rgD (r : Rg) : D := .tup [.int r.1, .int r.2]
structure Bk where
  k : Str
  rs : List Rg
def bD (b : Bk) : D := .tup (.str b.k :: b.rs.map rgD)
structure Pk where
  k : Str
  a : Int
  b : Int
  c : Int
  d : Int
def pkD (p : Pk) : D := .tup [.str p.k, .tup [.int p.a, .int p.b], .tup [.int p.c, .int p.d]]
def Pk.ns (p : Pk) : List Int := [p.a, p.b, p.c, p.d]
def letters : Str := "abcdefghijklmnopqrstuvwxyz"
def nameOk (x : Str) : Prop := 1 ≤ x.length ∧ x.length ≤ 6 ∧ ∀ c ∈ x.cps.toList, c ∈ letters.cps.toList
def numOk (n : Int) : Prop := 0 ≤ n ∧ n ≤ 255
def rgOk (r : Rg) : Prop := 0 ≤ r.1 ∧ r.1 ≤ r.2 ∧ r.2 ≤ 255
def bOk (b : Bk) : Prop := nameOk b.k ∧ b.rs.length = 4 ∧ ∀ r ∈ b.rs, rgOk r
/-- a text that can be compared -/
def sOk (x : Str) : Prop := PyData.canLay0 (.str x) = true
/-- what every block has, empty or not -/
def bWell (b : Bk) : Prop := sOk b.k ∧ b.rs.length = 4
def pOk (p : Pk) : Prop := nameOk p.k ∧ numOk p.a ∧ numOk p.b ∧ numOk p.c ∧ numOk p.d
def inR : List Rg → List Int → Bool
  | [], [] => true
  | r :: rs, n :: ns => decide (r.1 ≤ n ∧ n ≤ r.2) && inR rs ns
  | _, _ => false
def hasP (b : Bk) (p : Pk) : Bool := decide (b.k = p.k) && inR b.rs p.ns
def interR (r q : Rg) : Rg := (if q.1 > r.1 then q.1 else r.1, if q.2 < r.2 then q.2 else r.2)
def metF (b o : Bk) : List Bk := if b.k = o.k then
    let rs := (b.rs.zip o.rs).map fun p => interR p.1 p.2
    if rs.all (fun r => decide (r.1 ≤ r.2)) then [⟨b.k, rs⟩] else []
  else []
/-- one dimension cut: what lies under, what lies over, what is left -/
def cutAt (l : Bk) (i : Nat) (r q : Rg) : List Bk := (if r.1 < q.1 then [⟨l.k, l.rs.set i (r.1, q.1 - 1)⟩] else []) ++ (if q.2 < r.2 then [⟨l.k, l.rs.set i (q.2 + 1, r.2)⟩] else [])
def splitL (o : Bk) : List Nat → Bk → List Bk → List Bk
  | [], _, acc => acc
  | i :: is_, l, acc => match l.rs[i]?, o.rs[i]? with
    | some r, some q => splitL o is_ ⟨l.k, l.rs.set i (interR r q)⟩ (acc ++ cutAt l i r q)
    | _, _ => acc
def splitF (b o : Bk) : List Bk := match metF b o with
  | [] => [b]
  | _ => splitL o [0, 1, 2, 3] b []
def withoutF (bs : List Bk) (o : Bk) : List Bk := (bs.map fun b => splitF b o).flatten
def turnB (b : Bk) : Bk := ⟨b.k, match b.rs with
  | [r0, r1, r2, r3] => [r2, r3, r0, r1]
  | l => l⟩
def turnP (p : Pk) : Pk := ⟨p.k, p.c, p.d, p.a, p.b⟩
/-- two blocks that lie side by side, as one -/
def sideF (b o : Bk) : List Bk := if b.k = o.k then
    match (List.range 4).filter (fun i => decide (b.rs[i]? ≠ o.rs[i]?)) with
    | [i] => match b.rs[i]?, o.rs[i]? with
      | some r, some q => let lo := if q.1 < r.1 ∨ (q.1 = r.1 ∧ q.2 < r.2) then q else r
        let hi := if q.1 < r.1 ∨ (q.1 = r.1 ∧ q.2 < r.2) then r else q
        if lo.2 + 1 = hi.1 then [⟨b.k, b.rs.set i (lo.1, hi.2)⟩] else []
      | _, _ => []
    | _ => []
  else []
def memB (bs : List Bk) (p : Pk) : Prop := ∃ b ∈ bs, hasP b p = true
/-- the grid in whose lines the blocks lie: names, addresses, ports -/
structure Grid where
  ks : List Str
  xs : List Int
  ys : List Int
def Grid.ok (G : Grid) : Prop := G.ks.length * (G.xs.length * G.xs.length * (G.ys.length * G.ys.length)) ≤ 8388608
def onL (l : List Int) (r : Rg) : Prop := r.1 ∈ l ∧ r.2 + 1 ∈ l
def inG (G : Grid) (b : Bk) : Prop := b.k ∈ G.ks ∧ ∀ i r, b.rs[i]? = some r → onL (if i % 2 = 0 then G.xs else G.ys) r
def apart (a b : Bk) : Prop := ∀ p, ¬(hasP a p = true ∧ hasP b p = true)
/-- a list of blocks as Packets keeps it -/
structure PS (G : Grid) (bs : List Bk) : Prop where
  ok : ∀ b ∈ bs, bOk b
  ap : bs.Pairwise apart
  gr : ∀ b ∈ bs, inG G b
def setD (bs : List Bk) : D := .obj "Packets" ["p_blocks"] [.lst (bs.map bD)]
def volF (b : Bk) : Int := (b.rs.map fun r => r.2 - r.1 + 1).foldl (· * ·) 1
def lowP (b : Bk) : Option Pk := match b.rs with
  | [r0, r1, r2, r3] => some ⟨b.k, r0.1, r1.1, r2.1, r3.1⟩
  | _ => none
abbrev vals (l : List D) : List Ent := l.map .val
def fs_is_number : FS := fun args Q _ => ∃ n : Int, args = vals [.int n] ∧ numOk n ∧ Q (.val (.bl true)) args
def fs_is_name : FS := fun args Q _ => ∃ (x : Str), args = vals [.str x] ∧ nameOk x ∧ Q (.val (.bl true)) args
def fs_is_range : FS := fun args Q _ => ∃ (r : Rg), args = vals [rgD r] ∧ rgOk r ∧ Q (.val (.bl true)) args
def fs_is_end : FS := fun args Q _ => ∃ m n : Int, args = vals [.tup [.int m, .int n]] ∧ numOk m ∧ numOk n ∧ Q (.val (.bl true)) args
def fs_is_packet : FS := fun args Q _ => ∃ (p : Pk), args = vals [pkD p] ∧ pOk p ∧ Q (.val (.bl true)) args
def fs_are_ranges : FS := fun args Q _ => ∃ rs : List Rg, args = vals [.tup (rs.map rgD)] ∧ rs.length = 4 ∧ (∀ r ∈ rs, rgOk r) ∧ Q (.val (.bl true)) args
def fs_is_block : FS := fun args Q _ => ∃ (b : Bk), args = vals [bD b] ∧ bOk b ∧ Q (.val (.bl true)) args
def fs_turned_block : FS := fun args Q _ => ∃ (b : Bk), args = vals [bD b] ∧ bWell b ∧ Q (.val (bD (turnB b))) args
def fs_has_packet : FS := fun args Q _ => ∃ (b : Bk) (p : Pk), args = vals [bD b, pkD p] ∧ bWell b ∧ sOk p.k ∧ Q (.val (.bl (hasP b p))) args
def fs_met : FS := fun args Q _ => ∃ (b : Bk) (o : Bk), args = vals [bD b, bD o] ∧ bWell b ∧ bWell o ∧ Q (.tmp (.lst ((metF b o).map bD))) args
def fs_split : FS := fun args Q _ => ∃ (b : Bk) (o : Bk), args = vals [bD b, bD o] ∧ bWell b ∧ bWell o ∧ Q (.tmp (.lst ((splitF b o).map bD))) args
def fs_without_block : FS := fun args Q _ => ∃ (bs : List Bk) (o : Bk), args = vals [.lst (bs.map bD), bD o] ∧ (∀ b ∈ bs, bWell b) ∧ bWell o ∧ (withoutF bs o).length ≤ sizeLine ∧ Q (.tmp (.lst ((withoutF bs o).map bD))) args
def fs_side_by_side : FS := fun args Q _ => ∃ (b : Bk) (o : Bk), args = vals [bD b, bD o] ∧ bWell b ∧ bWell o ∧ Q (.tmp (.lst ((sideF b o).map bD))) args
/-- blocks put together, two by two -/
inductive Joins : List Bk → List Bk → Prop
  | perm {l m : List Bk} : l.Perm m → Joins l m
  | join {l t m : List Bk} {a b c : Bk} : l.Perm (a :: b :: t) → sideF a b = [c] → Joins (c :: t) m → Joins l m
def fs_pushed_together : FS := fun args Q _ => ∃ (bs : List Bk), args = vals [.lst (bs.map bD)] ∧ (∀ b ∈ bs, bWell b) ∧ bs.length < sizeLine ∧ ∀ bs', Joins bs bs' → Q (.tmp (.lst (bs'.map bD))) args
def listy (l : List D) (d : D) : Prop := d = .lst l ∨ d = .tup l
def fs_disjoint : FS := fun args Q _ => ∃ (G : Grid) (bs : List Bk) (d : D), args = vals [d] ∧ listy (bs.map bD) d ∧ Grid.ok G ∧ (∀ b ∈ bs, bOk b) ∧ (∀ b ∈ bs, inG G b) ∧ ∀ bs', PS G bs' → (∀ p, memB bs' p ↔ memB bs p) → Q (.tmp (.lst (bs'.map bD))) args
def fs_size_of : FS := fun args Q _ => ∃ (b : Bk), args = vals [bD b] ∧ bOk b ∧ Q (.val (.int (volF b))) args
def fs_check_blocks : FS := fun args Q _ => ∃ (bs : List Bk) (d : D), args = vals [d] ∧ listy (bs.map bD) d ∧ (∀ b ∈ bs, bOk b) ∧ Q (.val .non) args
def fs_Packets_init : FS := fun args Q _ => ∃ (G : Grid) (bs : List Bk) (d : D), args = [.own true (.obj "Packets" [] []), .val d] ∧ listy (bs.map bD) d ∧ Grid.ok G ∧ (∀ b ∈ bs, bOk b) ∧ (∀ b ∈ bs, inG G b) ∧ ∀ bs', PS G bs' → (∀ p, memB bs' p ↔ memB bs p) → Q (.val .non) [.own true (setD bs'), .val d]
open Classical in
def fs_Packets_contains : FS := fun args Q _ => ∃ (G : Grid) (a : List Bk) (p : Pk), args = vals [setD a, pkD p] ∧ PS G a ∧ pOk p ∧ Q (.val (.bl (decide (memB a p)))) args
def fsOp (f : Prop → Prop → Prop) : FS := fun args Q _ => ∃ (G : Grid) (a : List Bk) (b : List Bk), args = vals [setD a, setD b] ∧ Grid.ok G ∧ PS G a ∧ PS G b ∧ ∀ c, PS G c → (∀ p, memB c p ↔ f (memB a p) (memB b p)) → Q (.val (setD c)) args
def fs_Packets_or : FS := fsOp fun a b => a ∨ b
def fs_Packets_and : FS := fsOp fun a b => a ∧ b
def fs_Packets_sub : FS := fsOp fun a b => a ∧ ¬b
def fs_Packets_blocks : FS := fun args Q _ => ∃ (a : List Bk), args = vals [setD a] ∧ Q (.tmp (.lst (a.map bD))) args
def fs_Packets_size : FS := fun args Q _ => ∃ (G : Grid) (a : List Bk), args = vals [setD a] ∧ PS G a ∧ Q (.val (.int (a.map volF).sum)) args
def fs_Packets_least : FS := fun args Q _ => ∃ (G : Grid) (a : List Bk), args = vals [setD a] ∧ Grid.ok G ∧ PS G a ∧ (a = [] → Q (.val .non) args) ∧ ∀ b ∈ a, ∀ p, lowP b = some p → Q (.val (pkD p)) args
def fs_Packets_turned : FS := fun args Q _ => ∃ (G : Grid) (a : List Bk), args = vals [setD a] ∧ Grid.ok G ∧ PS G a ∧ ∀ c, PS G c → (∀ p, memB c p ↔ memB a (turnP p)) → Q (.val (setD c)) args
instance (n : Int) : Decidable (numOk n) := inferInstanceAs (Decidable (_ ∧ _))
end PL
namespace PL
open PySem PySem.Spec PyProof.Rows L2
variable [HasT]
def w_is_number : WS :=
  wRet (wAnd (wIsi (fT .int) (wVar 0)) (wAnd (wNot (wIsi (fT .bl) (wVar 0))) (wChain gLe gLe (wC (.int 0)) (wVar 0) (wC (.int 255)))))
def w_is_name : WS :=
  wSeq (wIf (wOrT (wNotT (wB (wIsi (fT .str) (wVar 0)))) (wNotT (wB (wChain gLe gLe (wC (.int 1)) (wCall gLen (wVc (wVar 0) (wVn))) (wC (.int 6)))))) (wRet (wC (.bl false))) (wNext))
    (wRet (wCall gAll (wVc (wLc (wSrc (wVar 0)) (wName 1) (wYes) (wOp2 (gInS id) (wVar 1) (wC (.str "abcdefghijklmnopqrstuvwxyz"))) [1]) (wVn))))
def w_is_range : WS :=
  wSeq (wIf (wOrT (wNotT (wB (wIsi (fT .tup) (wVar 0)))) (wOrT (wB (wOp2 (gEq not) (wCall gLen (wVc (wVar 0) (wVn))) (wC (.int 2)))) (wNotT (wB (wCall gAll (wVc (wLc (wSrc (wVar 0)) (wName 1) (wYes) (wCallF fs_is_number [] (wVk (wVar 1) (wVn))) [1]) (wVn))))))) (wRet (wC (.bl false))) (wNext))
    (wRet (wOp2 (gI fun i j => .bl (decide (i ≤ j))) (wOp2 gIx (wVar 0) (wC (.int 0))) (wOp2 gIx (wVar 0) (wC (.int 1)))))
def w_is_end : WS :=
  wRet (wAnd (wIsi (fT .tup) (wVar 0)) (wAnd (wOp2 (gEq id) (wCall gLen (wVc (wVar 0) (wVn))) (wC (.int 2))) (wCall gAll (wVc (wLc (wSrc (wVar 0)) (wName 1) (wYes) (wCallF fs_is_number [] (wVk (wVar 1) (wVn))) [1]) (wVn)))))
def w_is_packet : WS :=
  wRet (wAnd (wIsi (fT .tup) (wVar 0)) (wAnd (wOp2 (gEq id) (wCall gLen (wVc (wVar 0) (wVn))) (wC (.int 3))) (wAnd (wCallF fs_is_name [] (wVk (wOp2 gIx (wVar 0) (wC (.int 0))) (wVn))) (wAnd (wCallF fs_is_end [] (wVk (wOp2 gIx (wVar 0) (wC (.int 1))) (wVn))) (wCallF fs_is_end [] (wVk (wOp2 gIx (wVar 0) (wC (.int 2))) (wVn)))))))
def w_are_ranges : WS :=
  wRet (wAnd (wOp2 (gEq id) (wCall gLen (wVc (wVar 0) (wVn))) (wC (.int 4))) (wCall gAll (wVc (wLc (wSrc (wVar 0)) (wName 1) (wYes) (wCallF fs_is_range [] (wVk (wVar 1) (wVn))) [1]) (wVn))))
def w_is_block : WS :=
  wRet (wAnd (wIsi (fT .tup) (wVar 0)) (wAnd (wOp2 (gEq id) (wCall gLen (wVc (wVar 0) (wVn))) (wC (.int 5))) (wAnd (wCallF fs_is_name [] (wVk (wOp2 gIx (wVar 0) (wC (.int 0))) (wVn))) (wCallF fs_are_ranges [] (wVk (wSl (wVar 0) (wSome (wC (.int 1))) (wNone)) (wVn))))))
def w_turned_block : WS :=
  wRet (wTup (wKc (wOp2 gIx (wVar 0) (wC (.int 0))) (wKc (wOp2 gIx (wVar 0) (wC (.int 3))) (wKc (wOp2 gIx (wVar 0) (wC (.int 4))) (wKc (wOp2 gIx (wVar 0) (wC (.int 1))) (wKc (wOp2 gIx (wVar 0) (wC (.int 2))) (wKn)))))))
def w_has_packet : WS :=
  wSeq (wAsg (wVar 1) (wUnp 3 (wGc (wName 2) (wGc (wUnp 2 (wGc (wName 3) (wGc (wName 4) (wGn)))) (wGc (wUnp 2 (wGc (wName 5) (wGc (wName 6) (wGn)))) (wGn))))))
    (wSeq (wIf (wB (wOp2 (gEq not) (wOp2 gIx (wVar 0) (wC (.int 0))) (wVar 2))) (wRet (wC (.bl false))) (wNext))
    (wSeq (wSet 7 (wTup (wKc (wVar 3) (wKc (wVar 4) (wKc (wVar 5) (wKc (wVar 6) (wKn)))))))
    (wRet (wCall gAll (wVc (wLc (wZip (wSl (wVar 0) (wSome (wC (.int 1))) (wNone)) (wVar 7)) (wUnp 2 (wGc (wUnp 2 (wGc (wName 8) (wGc (wName 9) (wGn)))) (wGc (wName 10) (wGn)))) (wYes) (wChain gLe gLe (wVar 8) (wVar 10) (wVar 9)) [8, 9, 10]) (wVn))))))
def w_met : WS :=
  wSeq (wIf (wB (wOp2 (gEq not) (wOp2 gIx (wVar 0) (wC (.int 0))) (wOp2 gIx (wVar 1) (wC (.int 0))))) (wRet (wLst (wKn))) (wNext))
    (wSeq (wSet 2 (wLc (wZip (wSl (wVar 0) (wSome (wC (.int 1))) (wNone)) (wSl (wVar 1) (wSome (wC (.int 1))) (wNone))) (wUnp 2 (wGc (wName 3) (wGc (wName 4) (wGn)))) (wYes) (wTup (wKc (wCall gMax2 (wVc (wOp2 gIx (wVar 3) (wC (.int 0))) (wVc (wOp2 gIx (wVar 4) (wC (.int 0))) (wVn)))) (wKc (wCall gMin2 (wVc (wOp2 gIx (wVar 3) (wC (.int 1))) (wVc (wOp2 gIx (wVar 4) (wC (.int 1))) (wVn)))) (wKn)))) [3, 4]))
    (wRet (wIfE (wB (wCall gAll (wVc (wLc (wSrc (wVar 2)) (wUnp 2 (wGc (wName 5) (wGc (wName 6) (wGn)))) (wYes) (wOp2 (gI fun i j => .bl (decide (i ≤ j))) (wVar 5) (wVar 6)) [5, 6]) (wVn)))) (wLst (wKc (wOp2 gAdd (wTup (wKc (wOp2 gIx (wVar 0) (wC (.int 0))) (wKn))) (wCall gTuple (wVc (wVar 2) (wVn)))) (wKn))) (wLst (wKn)))))
def w_split : WS :=
  wSeq (wIf (wB (wOp2 (gEq id) (wCallF fs_met [] (wVk (wVar 0) (wVk (wVar 1) (wVn)))) (wLst (wKn)))) (wRet (wLst (wKc (wVar 0) (wKn)))) (wNext))
    (wSeq (wSet 2 (wLst (wKn)))
    (wSeq (wSet 3 (wVar 0))
    (wSeq (wFor (wRng2 (wC (.int 1)) (wC (.int 5))) (wName 4) (wSeq (wAsg (wOp2 gIx (wVar 3) (wVar 4)) (wUnp 2 (wGc (wName 5) (wGc (wName 6) (wGn)))))
    (wSeq (wAsg (wOp2 gIx (wVar 1) (wVar 4)) (wUnp 2 (wGc (wName 7) (wGc (wName 8) (wGn)))))
    (wSeq (wIf (wB (wOp2 (gI fun i j => .bl (decide (i < j))) (wVar 5) (wVar 7))) (wSet 2 (wOp2 gAdd (wVar 2) (wLst (wKc (wOp2 gAdd (wOp2 gAdd (wSl (wVar 3) (wNone) (wSome (wVar 4))) (wTup (wKc (wTup (wKc (wVar 5) (wKc (wOp2 (gI fun i j => .int (i - j)) (wVar 7) (wC (.int 1))) (wKn)))) (wKn)))) (wSl (wVar 3) (wSome (wOp2 gAdd (wVar 4) (wC (.int 1)))) (wNone))) (wKn))))) (wNext))
    (wSeq (wIf (wB (wOp2 (gI fun i j => .bl (decide (i < j))) (wVar 8) (wVar 6))) (wSet 2 (wOp2 gAdd (wVar 2) (wLst (wKc (wOp2 gAdd (wOp2 gAdd (wSl (wVar 3) (wNone) (wSome (wVar 4))) (wTup (wKc (wTup (wKc (wOp2 gAdd (wVar 8) (wC (.int 1))) (wKc (wVar 6) (wKn)))) (wKn)))) (wSl (wVar 3) (wSome (wOp2 gAdd (wVar 4) (wC (.int 1)))) (wNone))) (wKn))))) (wNext))
    (wSet 3 (wOp2 gAdd (wOp2 gAdd (wSl (wVar 3) (wNone) (wSome (wVar 4))) (wTup (wKc (wTup (wKc (wCall gMax2 (wVc (wVar 5) (wVc (wVar 7) (wVn)))) (wKc (wCall gMin2 (wVc (wVar 6) (wVc (wVar 8) (wVn)))) (wKn)))) (wKn)))) (wSl (wVar 3) (wSome (wOp2 gAdd (wVar 4) (wC (.int 1)))) (wNone)))))))))
    (wRet (wVar 2)))))
def w_without_block : WS :=
  wSeq (wSet 2 (wLst (wKn)))
    (wSeq (wFor (wSrc (wVar 0)) (wName 3) (wExpr (wExtend 2 (wCallF fs_split [] (wVk (wVar 3) (wVk (wVar 1) (wVn)))))))
    (wRet (wVar 2)))
def w_side_by_side : WS :=
  wSeq (wIf (wB (wOp2 (gEq not) (wOp2 gIx (wVar 0) (wC (.int 0))) (wOp2 gIx (wVar 1) (wC (.int 0))))) (wRet (wLst (wKn))) (wNext))
    (wSeq (wSet 2 (wLc (wRng2 (wC (.int 1)) (wC (.int 5))) (wName 3) (wB (wOp2 (gEq not) (wOp2 gIx (wVar 0) (wVar 3)) (wOp2 gIx (wVar 1) (wVar 3)))) (wVar 3) [3]))
    (wSeq (wIf (wB (wOp2 (gEq not) (wCall gLen (wVc (wVar 2) (wVn))) (wC (.int 1)))) (wRet (wLst (wKn))) (wNext))
    (wSeq (wSet 3 (wOp2 gIx (wVar 2) (wC (.int 0))))
    (wSeq (wAsg (wCall gSort (wVc (wLst (wKc (wOp2 gIx (wVar 0) (wVar 3)) (wKc (wOp2 gIx (wVar 1) (wVar 3)) (wKn)))) (wVn))) (wUnp 2 (wGc (wName 4) (wGc (wName 5) (wGn)))))
    (wSeq (wIf (wB (wOp2 (gEq not) (wOp2 gAdd (wOp2 gIx (wVar 4) (wC (.int 1))) (wC (.int 1))) (wOp2 gIx (wVar 5) (wC (.int 0))))) (wRet (wLst (wKn))) (wNext))
    (wRet (wLst (wKc (wOp2 gAdd (wOp2 gAdd (wSl (wVar 0) (wNone) (wSome (wVar 3))) (wTup (wKc (wTup (wKc (wOp2 gIx (wVar 4) (wC (.int 0))) (wKc (wOp2 gIx (wVar 5) (wC (.int 1))) (wKn)))) (wKn)))) (wSl (wVar 0) (wSome (wOp2 gAdd (wVar 3) (wC (.int 1)))) (wNone))) (wKn)))))))))
def w_pushed_together : WS :=
  wSeq (wSet 1 (wLst (wKn)))
    (wSeq (wFor (wSrc (wVar 0)) (wName 2) (wSeq (wSet 3 (wVar 2))
    (wSeq (wSet 4 (wC (.int 0)))
    (wSeq (wWhile (wB (wOp2 (gI fun i j => .bl (decide (i < j))) (wVar 4) (wCall gLen (wVc (wVar 1) (wVn))))) (wSeq (wSet 5 (wCallF fs_side_by_side [] (wVk (wOp2 gIx (wVar 1) (wVar 4)) (wVk (wVar 3) (wVn)))))
    (wIf (wB (wOp2 (gEq id) (wVar 5) (wLst (wKn)))) (wSet 4 (wOp2 gAdd (wVar 4) (wC (.int 1)))) (wSeq (wSet 3 (wOp2 gIx (wVar 5) (wC (.int 0))))
    (wSeq (wSet 1 (wOp2 gAdd (wSl (wVar 1) (wNone) (wSome (wVar 4))) (wSl (wVar 1) (wSome (wOp2 gAdd (wVar 4) (wC (.int 1)))) (wNone))))
    (wSet 4 (wC (.int 0))))))))
    (wSet 1 (wOp2 gAdd (wVar 1) (wLst (wKc (wVar 3) (wKn)))))))))
    (wRet (wVar 1)))
def w_disjoint : WS :=
  wSeq (wSet 1 (wLst (wKn)))
    (wSeq (wFor (wSrc (wVar 0)) (wName 2) (wSeq (wSet 3 (wLst (wKc (wVar 2) (wKn))))
    (wSeq (wFor (wSrc (wVar 1)) (wName 4) (wSet 3 (wCallF fs_without_block [] (wVk (wVar 3) (wVk (wVar 4) (wVn))))))
    (wSet 1 (wOp2 gAdd (wVar 1) (wVar 3))))))
    (wRet (wCallF fs_pushed_together [] (wVk (wVar 1) (wVn)))))
def w_size_of : WS :=
  wSeq (wSet 1 (wC (.int 1)))
    (wSeq (wFor (wSrc (wSl (wVar 0) (wSome (wC (.int 1))) (wNone))) (wUnp 2 (wGc (wName 2) (wGc (wName 3) (wGn)))) (wAugI 1 CMul (· * ·) (wOp2 gAdd (wOp2 (gI fun i j => .int (i - j)) (wVar 3) (wVar 2)) (wC (.int 1)))))
    (wRet (wVar 1)))
def w_check_blocks : WS :=
  wSeq (wIf (wNotT (wB (wIsi (fT2 .lst .tup) (wVar 0)))) (wNever) (wNext))
    (wFor (wEnum (wVar 0)) (wUnp 2 (wGc (wName 1) (wGc (wName 2) (wGn)))) (wIf (wNotT (wB (wCallF fs_is_block [] (wVk (wVar 2) (wVn))))) (wNever) (wNext)))
def w_Packets_init : WS :=
  wSeq (wExpr (wCallF fs_check_blocks [] (wVk (wVar 1) (wVn))))
    (wSetF 0 "Packets" "p_blocks" (wCallF fs_disjoint [] (wVk (wVar 1) (wVn))))
def w_Packets_contains : WS :=
  wRet (wAnd (wCallF fs_is_packet [] (wVk (wVar 1) (wVn))) (wCall gAny (wVc (wLc (wSrc (wFld "Packets" "p_blocks" (wVar 0))) (wName 2) (wYes) (wCallF fs_has_packet [] (wVk (wVar 2) (wVk (wVar 1) (wVn)))) [2]) (wVn))))
def w_Packets_or : WS :=
  wSeq (wIf (wNotT (wB (wIsi (fObj "Packets") (wVar 1)))) (wNever) (wNext))
    (wRet (wMake "Packets" fs_Packets_init [] (wVk (wOp2 gAdd (wFld "Packets" "p_blocks" (wVar 0)) (wFld "Packets" "p_blocks" (wVar 1))) (wVn))))
def w_Packets_and : WS :=
  wSeq (wIf (wNotT (wB (wIsi (fObj "Packets") (wVar 1)))) (wNever) (wNext))
    (wSeq (wSet 2 (wLst (wKn)))
    (wSeq (wFor (wSrc (wFld "Packets" "p_blocks" (wVar 0))) (wName 3) (wFor (wSrc (wFld "Packets" "p_blocks" (wVar 1))) (wName 4) (wExpr (wExtend 2 (wCallF fs_met [] (wVk (wVar 3) (wVk (wVar 4) (wVn))))))))
    (wRet (wMake "Packets" fs_Packets_init [] (wVk (wVar 2) (wVn))))))
def w_Packets_sub : WS :=
  wSeq (wIf (wNotT (wB (wIsi (fObj "Packets") (wVar 1)))) (wNever) (wNext))
    (wSeq (wSet 2 (wFld "Packets" "p_blocks" (wVar 0)))
    (wSeq (wFor (wSrc (wFld "Packets" "p_blocks" (wVar 1))) (wName 3) (wSet 2 (wCallF fs_without_block [] (wVk (wVar 2) (wVk (wVar 3) (wVn))))))
    (wRet (wMake "Packets" fs_Packets_init [] (wVk (wVar 2) (wVn))))))
def w_Packets_blocks : WS :=
  wRet (wCall gList (wVc (wFld "Packets" "p_blocks" (wVar 0)) (wVn)))
def w_Packets_size : WS :=
  wRet (wCall gSum (wVc (wLc (wSrc (wFld "Packets" "p_blocks" (wVar 0))) (wName 1) (wYes) (wCallF fs_size_of [] (wVk (wVar 1) (wVn))) [1]) (wVn)))
def w_Packets_least : WS :=
  wSeq (wIf (wB (wOp2 (gEq id) (wFld "Packets" "p_blocks" (wVar 0)) (wLst (wKn)))) (wRet (wC .non)) (wNext))
    (wSeq (wSet 1 (wLst (wKn)))
    (wSeq (wFor (wSrc (wFld "Packets" "p_blocks" (wVar 0))) (wUnp 5 (wGc (wName 2) (wGc (wName 3) (wGc (wName 4) (wGc (wName 5) (wGc (wName 6) (wGn))))))) (wExpr (wAppend 1 (wTup (wKc (wVar 2) (wKc (wTup (wKc (wOp2 gIx (wVar 3) (wC (.int 0))) (wKc (wOp2 gIx (wVar 4) (wC (.int 0))) (wKn)))) (wKc (wTup (wKc (wOp2 gIx (wVar 5) (wC (.int 0))) (wKc (wOp2 gIx (wVar 6) (wC (.int 0))) (wKn)))) (wKn))))))))
    (wRet (wCall gMin (wVc (wVar 1) (wVn))))))
def w_Packets_turned : WS :=
  wRet (wMake "Packets" fs_Packets_init [] (wVk (wLc (wSrc (wFld "Packets" "p_blocks" (wVar 0))) (wName 1) (wYes) (wCallF fs_turned_block [] (wVk (wVar 1) (wVn))) [1]) (wVn)))
end PL
namespace PL
open PySem PySem.Spec PyProof.Rows L2
variable [HasT]
theorem gEq_of {f : Bool → Bool} {d e : D} {p q : PyData} {Q : R → Prop} (h1 : toP d = some p) (h2 : toP e = some q) (h3 : SeqAt.shaped p = true) (h4 : SeqAt.shaped q = true) : gEq f d e Q = Q (.val (.bl (f (PyData.eqv p q)))) := by
  unfold gEq dEq
  rw [h1, h2]
  simp only [h3, h4, Bool.and_self, if_true]
theorem gEq_int {f : Bool → Bool} {i j : Int} {Q : R → Prop} : gEq f (.int i) (.int j) Q = Q (.val (.bl (f (decide (i = j))))) := by
  rw [gEq_of (p := .int i) (q := .int j) rfl rfl rfl rfl]
  congr 4
theorem gEq_str {f : Bool → Bool} {x y : Str} {Q : R → Prop} (hx : sOk x) (hy : sOk y) : gEq f (.str x) (.str y) Q = Q (.val (.bl (f (decide (x = y))))) := by
  have sh : ∀ {x : Str}, sOk x → SeqAt.shaped (.str x) = true := fun {x} h => by
    unfold SeqAt.shaped
    rw [show PyData.canLay0 (.str x) = true from h]
    rfl
  rw [gEq_of (p := .str x) (q := .str y) rfl rfl (sh hx) (sh hy)]
  congr 4
def rgP (r : Rg) : PyData := .tuple [.int r.1, .int r.2]
theorem toP_rg (r : Rg) : toP (rgD r) = some (rgP r) := rfl
theorem shaped_rg (r : Rg) : SeqAt.shaped (rgP r) = true := rfl
theorem gEq_rg {f : Bool → Bool} {r q : Rg} {Q : R → Prop} : gEq f (rgD r) (rgD q) Q = Q (.val (.bl (f (decide (r = q))))) := by
  rw [gEq_of (toP_rg r) (toP_rg q) (shaped_rg r) (shaped_rg q)]
  have : PyData.eqv (rgP r) (rgP q) = decide (r = q) := by
    obtain ⟨a, b⟩ := r
    obtain ⟨c, d⟩ := q
    simp only [rgP, PyData.eqv, PyData.eqvAll, Prod.mk.injEq, Bool.and_true, Bool.decide_and]
    rfl
  rw [this]
theorem toPs_map {α : Type} {f : α → D} {g : α → PyData} (h : ∀ a, toP (f a) = some (g a)) : ∀ l : List α, toPs (l.map f) = some (l.map g)
  | [] => rfl
  | a :: l => by
    show (toP (f a)).bind _ = _
    rw [h a, Option.bind_some, toPs_map h l]
    rfl
def bP (b : Bk) : PyData := .tuple (.str b.k :: b.rs.map rgP)
theorem toP_b (b : Bk) : toP (bD b) = some (bP b) := by
  show (toPs (.str b.k :: b.rs.map rgD)).map PyData.tuple = _
  show ((toP (.str b.k)).bind fun p => (toPs (b.rs.map rgD)).map fun r => p :: r).map PyData.tuple = _
  rw [toPs_map toP_rg]
  rfl
theorem canAll {α : Type} {g : α → PyData} : ∀ {l : List α}, (∀ a ∈ l, PyData.canLay0 (g a) = true) → PyData.canLayAll0 (l.map g) = true
  | [], _ => by simp [PyData.canLayAll0]
  | a :: l, h => by
    rw [List.map_cons, PyData.canLayAll0, h a List.mem_cons_self, canAll fun b hb => h b (List.mem_cons_of_mem _ hb)]
    rfl
theorem depAll {α : Type} {g : α → PyData} {n : Nat} : ∀ {l : List α}, (∀ a ∈ l, PyData.depth (g a) ≤ n) → PyData.depthAll (l.map g) ≤ n
  | [], _ => by simp [PyData.depthAll]
  | a :: l, h => by
    rw [List.map_cons, PyData.depthAll]
    have h1 := h a List.mem_cons_self
    have h2 := depAll (l := l) fun b hb => h b (List.mem_cons_of_mem _ hb)
    omega
theorem can_b {b : Bk} (h : sOk b.k) : PyData.canLay0 (bP b) = true := by
  unfold bP
  rw [PyData.canLay0, PyData.canLayAll0, show PyData.canLay0 (.str b.k) = true from h, canAll fun r _ => rfl]
  rfl
theorem dep_b (b : Bk) : PyData.depth (bP b) ≤ 2 := by
  unfold bP
  rw [PyData.depth, PyData.depthAll]
  have : PyData.depthAll (b.rs.map rgP) ≤ 1 := depAll fun r _ => by simp [rgP, PyData.depth, PyData.depthAll]
  have : PyData.depth (.str b.k) = 0 := by simp [PyData.depth]
  omega
theorem gEq_bs {f : Bool → Bool} {bs : List Bk} {Q : R → Prop} (h : ∀ b ∈ bs, sOk b.k) : gEq f (.lst (bs.map bD)) (.lst []) Q = Q (.val (.bl (f bs.isEmpty))) := by
  have e1 : toP (.lst (bs.map bD)) = some (.list (bs.map bP)) := by
    show (toPs (bs.map bD)).map PyData.list = _
    rw [toPs_map toP_b]
    rfl
  have sh : SeqAt.shaped (.list (bs.map bP)) = true := by
    unfold SeqAt.shaped
    have c : PyData.canLay0 (.list (bs.map bP)) = true := by
      rw [PyData.canLay0]
      exact canAll fun b hb => can_b (h b hb)
    have d : PyData.depth (.list (bs.map bP)) ≤ 64 := by
      rw [PyData.depth]
      have := depAll (l := bs) (g := bP) (n := 2) fun b _ => dep_b b
      omega
    rw [c, decide_eq_true d]
    rfl
  rw [gEq_of e1 (q := .list []) rfl sh rfl]
  have : PyData.eqv (.list (bs.map bP)) (.list []) = bs.isEmpty := by
    cases bs with
    | nil => rfl
    | cons b bs => simp [PyData.eqv, PyData.eqvAll]
  rw [this]
theorem letters_ok : ∀ c ∈ letters.cps.toList, c < 0x110000 := by decide +kernel
theorem sOk_name {x : Str} (h : nameOk x) : sOk x := by
  unfold sOk
  rw [PyData.canLay0]
  unfold PyData.strOk
  rw [Array.all_eq_true']
  intro c hc
  simpa using letters_ok c (h.2.2 c (by simpa using hc))
theorem bOk.well {b : Bk} (h : bOk b) : bWell b := ⟨sOk_name h.1, h.2.1⟩
abbrev Kp (ws : WS) (n m : Nat) (fs : FS) : Prop := ∀ (args : List Ent) (Qp : R → List Ent → Prop) (Ep : Ex → List Ent → Prop), fs args Qp Ep → args.length = n ∧ ws { nx := fun ρ => Qp (.val .non) (outA args ρ), rt := fun r ρ => Qp r (outA args ρ), ex := fun x ρ => Ep x (outA args ρ) } (envOf args m)
end PL
local macro_rules
  | `(tactic| simp only [$xs,*] $[$loc:location]?) => do
    let mut out := #[]
    let mut hit := false
    for x in xs.getElems do
      if x.raw.isOfKind ``Lean.Parser.Tactic.simpLemma && x.raw[2].getId.eraseMacroScopes == `PDS then
        hit := true
        for y in #[`(Lean.Parser.Tactic.simpLemma| PL.isBx_box), `(Lean.Parser.Tactic.simpLemma| PL.unB_box), `(Lean.Parser.Tactic.simpLemma| PL.fQ_box), `(Lean.Parser.Tactic.simpLemma| PL.frzO_v), `(Lean.Parser.Tactic.simpLemma| PL.frzO_o), `(Lean.Parser.Tactic.simpLemma| PL.frzR_v), `(Lean.Parser.Tactic.simpLemma| PL.frzR_s), `(Lean.Parser.Tactic.simpLemma| PL.isBx_non), `(Lean.Parser.Tactic.simpLemma| PL.isBx_bl), `(Lean.Parser.Tactic.simpLemma| PL.isBx_int), `(Lean.Parser.Tactic.simpLemma| PL.isBx_str), `(Lean.Parser.Tactic.simpLemma| PL.isBx_tup), `(Lean.Parser.Tactic.simpLemma| PL.isBx_lst), `(Lean.Parser.Tactic.simpLemma| PL.isBx_dic), `(Lean.Parser.Tactic.simpLemma| PL.isBx_dit), `(Lean.Parser.Tactic.simpLemma| PL.isBx_obj), `(Lean.Parser.Tactic.simpLemma| PL.isBx_kst), `(Lean.Parser.Tactic.simpLemma| PL.isBx_exc), `(Lean.Parser.Tactic.simpLemma| PL.fQ_non), `(Lean.Parser.Tactic.simpLemma| PL.fQ_bl), `(Lean.Parser.Tactic.simpLemma| PL.fQ_int), `(Lean.Parser.Tactic.simpLemma| PL.fQ_str), `(Lean.Parser.Tactic.simpLemma| PL.fQ_tup), `(Lean.Parser.Tactic.simpLemma| PL.fQ_lst), `(Lean.Parser.Tactic.simpLemma| PL.fQ_dic), `(Lean.Parser.Tactic.simpLemma| PL.fQ_dit), `(Lean.Parser.Tactic.simpLemma| PL.fQ_obj), `(Lean.Parser.Tactic.simpLemma| PL.fQ_kst), `(Lean.Parser.Tactic.simpLemma| PL.fQ_exc), `(Lean.Parser.Tactic.simpLemma| PL.x_Vk), `(Lean.Parser.Tactic.simpLemma| PL.backA_dr), `(Lean.Parser.Tactic.simpLemma| PL.noS_nil), `(Lean.Parser.Tactic.simpLemma| PL.noS_v), `(Lean.Parser.Tactic.simpLemma| PL.isDr_s), `(Lean.Parser.Tactic.simpLemma| PL.anySlot_v), `(Lean.Parser.Tactic.simpLemma| PL.isSlot_v), `(Lean.Parser.Tactic.simpLemma| PL.isSlot_s), `(Lean.Parser.Tactic.simpLemma| PL.ndS_slot), `(Lean.Parser.Tactic.simpLemma| PL.kIf_t), `(Lean.Parser.Tactic.simpLemma| PL.kIf_f), `(Lean.Parser.Tactic.simpLemma| PL.oK_s), `(Lean.Parser.Tactic.simpLemma| PL.kV_val), `(Lean.Parser.Tactic.simpLemma| PL.kV_tmp), `(Lean.Parser.Tactic.simpLemma| PL.kV_slot), `(Lean.Parser.Tactic.simpLemma| PL.frz_lst), `(Lean.Parser.Tactic.simpLemma| PL.frz_dic), `(Lean.Parser.Tactic.simpLemma| PL.frz_obj), `(Lean.Parser.Tactic.simpLemma| PL.kK_val), `(Lean.Parser.Tactic.simpLemma| PL.kK_tmp), `(Lean.Parser.Tactic.simpLemma| PL.kKo_v), `(Lean.Parser.Tactic.simpLemma| PL.kKo_o), `(Lean.Parser.Tactic.simpLemma| PL.kK_slot), `(Lean.Parser.Tactic.simpLemma| PL.kB_bl), `(Lean.Parser.Tactic.simpLemma| PL.kSo_int), `(Lean.Parser.Tactic.simpLemma| PL.x_seq), `(Lean.Parser.Tactic.simpLemma| PL.x_next), `(Lean.Parser.Tactic.simpLemma| PL.x_break), `(Lean.Parser.Tactic.simpLemma| PL.x_expr), `(Lean.Parser.Tactic.simpLemma| PL.kRet_val), `(Lean.Parser.Tactic.simpLemma| PL.kRet_tmp), `(Lean.Parser.Tactic.simpLemma| PL.kRo_v), `(Lean.Parser.Tactic.simpLemma| PL.kRo_o), `(Lean.Parser.Tactic.simpLemma| PL.kRet_slot), `(Lean.Parser.Tactic.simpLemma| PL.x_ret), `(Lean.Parser.Tactic.simpLemma| PL.x_retN), `(Lean.Parser.Tactic.simpLemma| PL.x_if), `(Lean.Parser.Tactic.simpLemma| PL.x_asg), `(Lean.Parser.Tactic.simpLemma| PL.frO_n), `(Lean.Parser.Tactic.simpLemma| PL.frO_v), `(Lean.Parser.Tactic.simpLemma| PL.frO_o), `(Lean.Parser.Tactic.simpLemma| PL.x_frS), `(Lean.Parser.Tactic.simpLemma| PL.kSet_val), `(Lean.Parser.Tactic.simpLemma| PL.kSet_tmp), `(Lean.Parser.Tactic.simpLemma| PL.kSl_v), `(Lean.Parser.Tactic.simpLemma| PL.kSl_o), `(Lean.Parser.Tactic.simpLemma| PL.kSet_slot), `(Lean.Parser.Tactic.simpLemma| PL.x_set), `(Lean.Parser.Tactic.simpLemma| PL.x_for), `(Lean.Parser.Tactic.simpLemma| PL.x_name), `(Lean.Parser.Tactic.simpLemma| PL.x_gn), `(Lean.Parser.Tactic.simpLemma| PL.x_gc), `(Lean.Parser.Tactic.simpLemma| PL.x_unpT), `(Lean.Parser.Tactic.simpLemma| PL.x_unpL), `(Lean.Parser.Tactic.simpLemma| PL.vlO_n), `(Lean.Parser.Tactic.simpLemma| PL.vlO_v), `(Lean.Parser.Tactic.simpLemma| PL.x_vlS), `(Lean.Parser.Tactic.simpLemma| PL.kAug_int), `(Lean.Parser.Tactic.simpLemma| PL.kAu_i), `(Lean.Parser.Tactic.simpLemma| PL.x_aug), `(Lean.Parser.Tactic.simpLemma| PL.kSF_ok), `(Lean.Parser.Tactic.simpLemma| PL.kSetF_s), `(Lean.Parser.Tactic.simpLemma| PL.x_setF), `(Lean.Parser.Tactic.simpLemma| PL.entOf_val), `(Lean.Parser.Tactic.simpLemma| PL.entOf_tmp), `(Lean.Parser.Tactic.simpLemma| PL.freeE_ok), `(Lean.Parser.Tactic.simpLemma| PL.x_par), `(Lean.Parser.Tactic.simpLemma| PL.kVar_v), `(Lean.Parser.Tactic.simpLemma| PL.kVar_o), `(Lean.Parser.Tactic.simpLemma| PL.x_var), `(Lean.Parser.Tactic.simpLemma| PL.x_C), `(Lean.Parser.Tactic.simpLemma| PL.pk1_val), `(Lean.Parser.Tactic.simpLemma| PL.pk1_tmp), `(Lean.Parser.Tactic.simpLemma| PL.kPk_s), `(Lean.Parser.Tactic.simpLemma| PL.pk1_slot), `(Lean.Parser.Tactic.simpLemma| PL.x_V), `(Lean.Parser.Tactic.simpLemma| PL.x_K), `(Lean.Parser.Tactic.simpLemma| PL.x_op1), `(Lean.Parser.Tactic.simpLemma| PL.x_op2), `(Lean.Parser.Tactic.simpLemma| PL.x_B), `(Lean.Parser.Tactic.simpLemma| PL.x_notT), `(Lean.Parser.Tactic.simpLemma| PL.x_andT), `(Lean.Parser.Tactic.simpLemma| PL.x_orT), `(Lean.Parser.Tactic.simpLemma| PL.x_and), `(Lean.Parser.Tactic.simpLemma| PL.x_or), `(Lean.Parser.Tactic.simpLemma| PL.x_not), `(Lean.Parser.Tactic.simpLemma| PL.x_ife), `(Lean.Parser.Tactic.simpLemma| PL.kCh_t), `(Lean.Parser.Tactic.simpLemma| PL.kCh_f), `(Lean.Parser.Tactic.simpLemma| PL.x_chain), `(Lean.Parser.Tactic.simpLemma| PL.x_Kn), `(Lean.Parser.Tactic.simpLemma| PL.x_Kc), `(Lean.Parser.Tactic.simpLemma| PL.x_Vn), `(Lean.Parser.Tactic.simpLemma| PL.x_Vc), `(Lean.Parser.Tactic.simpLemma| PL.x_tup), `(Lean.Parser.Tactic.simpLemma| PL.x_lst), `(Lean.Parser.Tactic.simpLemma| PL.x_dic), `(Lean.Parser.Tactic.simpLemma| PL.x_None), `(Lean.Parser.Tactic.simpLemma| PL.x_Some), `(Lean.Parser.Tactic.simpLemma| PL.x_Sl), `(Lean.Parser.Tactic.simpLemma| PL.gSl_lst), `(Lean.Parser.Tactic.simpLemma| PL.gSl_tup), `(Lean.Parser.Tactic.simpLemma| PL.x_call), `(Lean.Parser.Tactic.simpLemma| PL.pkL_nil), `(Lean.Parser.Tactic.simpLemma| PL.pkL_cons), `(Lean.Parser.Tactic.simpLemma| PL.kIs_s), `(Lean.Parser.Tactic.simpLemma| PL.x_isi), `(Lean.Parser.Tactic.simpLemma| PL.kFld_o), `(Lean.Parser.Tactic.simpLemma| PL.x_fld), `(Lean.Parser.Tactic.simpLemma| PL.toArgs_nil), `(Lean.Parser.Tactic.simpLemma| PL.toArgs_val), `(Lean.Parser.Tactic.simpLemma| PL.kTa_v), `(Lean.Parser.Tactic.simpLemma| PL.kTa_o), `(Lean.Parser.Tactic.simpLemma| PL.toArgs_slot), `(Lean.Parser.Tactic.simpLemma| PL.x_callF), `(Lean.Parser.Tactic.simpLemma| PL.backA_nil), `(Lean.Parser.Tactic.simpLemma| PL.backA_v1), `(Lean.Parser.Tactic.simpLemma| PL.backA_v2), `(Lean.Parser.Tactic.simpLemma| PL.backA_v3), `(Lean.Parser.Tactic.simpLemma| PL.kObj_ok), `(Lean.Parser.Tactic.simpLemma| PL.x_meth), `(Lean.Parser.Tactic.simpLemma| PL.kMk_ok), `(Lean.Parser.Tactic.simpLemma| PL.x_make), `(Lean.Parser.Tactic.simpLemma| PL.isObj_val), `(Lean.Parser.Tactic.simpLemma| PL.x_own), `(Lean.Parser.Tactic.simpLemma| PL.x_ownB), `(Lean.Parser.Tactic.simpLemma| PL.x_ownIn), `(Lean.Parser.Tactic.simpLemma| PL.toB_bl), `(Lean.Parser.Tactic.simpLemma| PL.ndS_nil), `(Lean.Parser.Tactic.simpLemma| PL.ndS_val), `(Lean.Parser.Tactic.simpLemma| PL.kSrc_lst), `(Lean.Parser.Tactic.simpLemma| PL.kSrc_tup), `(Lean.Parser.Tactic.simpLemma| PL.kSrc_str), `(Lean.Parser.Tactic.simpLemma| PL.x_src), `(Lean.Parser.Tactic.simpLemma| PL.kEn_lst), `(Lean.Parser.Tactic.simpLemma| PL.kEn_tup), `(Lean.Parser.Tactic.simpLemma| PL.x_enum), `(Lean.Parser.Tactic.simpLemma| PL.kR1_int), `(Lean.Parser.Tactic.simpLemma| PL.x_rng1), `(Lean.Parser.Tactic.simpLemma| PL.kR2_int), `(Lean.Parser.Tactic.simpLemma| PL.x_rng2), `(Lean.Parser.Tactic.simpLemma| PL.kZp_lst), `(Lean.Parser.Tactic.simpLemma| PL.kZp_tup), `(Lean.Parser.Tactic.simpLemma| PL.x_zip), `(Lean.Parser.Tactic.simpLemma| PL.x_lc), `(Lean.Parser.Tactic.simpLemma| PL.kAp1_o), `(Lean.Parser.Tactic.simpLemma| PL.kApp_s), `(Lean.Parser.Tactic.simpLemma| PL.isOwnL_o), `(Lean.Parser.Tactic.simpLemma| PL.x_append), `(Lean.Parser.Tactic.simpLemma| PL.kEx1_o), `(Lean.Parser.Tactic.simpLemma| PL.kExt_s), `(Lean.Parser.Tactic.simpLemma| PL.x_extend), `(Lean.Parser.Tactic.simpLemma| PL.gI_ii), `(Lean.Parser.Tactic.simpLemma| PL.gAdd_ii), `(Lean.Parser.Tactic.simpLemma| PL.gAdd_ll), `(Lean.Parser.Tactic.simpLemma| PL.gAdd_tt), `(Lean.Parser.Tactic.simpLemma| PL.gMul_ii), `(Lean.Parser.Tactic.simpLemma| PL.gIx_t), `(Lean.Parser.Tactic.simpLemma| PL.gIx_l), `(Lean.Parser.Tactic.simpLemma| PL.gIs_non), `(Lean.Parser.Tactic.simpLemma| PL.gLen_l), `(Lean.Parser.Tactic.simpLemma| PL.gLen_t), `(Lean.Parser.Tactic.simpLemma| PL.gLen_k), `(Lean.Parser.Tactic.simpLemma| PL.gLen_s), `(Lean.Parser.Tactic.simpLemma| PL.gII_ii), `(Lean.Parser.Tactic.simpLemma| PL.gTuple_l), `(Lean.Parser.Tactic.simpLemma| PL.gTuple_t), `(Lean.Parser.Tactic.simpLemma| PL.gList_l), `(Lean.Parser.Tactic.simpLemma| PL.gList_t), `(Lean.Parser.Tactic.simpLemma| PL.gAll_l), `(Lean.Parser.Tactic.simpLemma| PL.gAny_l), `(Lean.Parser.Tactic.simpLemma| PL.gSum_l), `(Lean.Parser.Tactic.simpLemma| PL.gInS_1), `(Lean.Parser.Tactic.simpLemma| PL.gDGet_o), `(Lean.Parser.Tactic.simpLemma| PL.env_of), `(Lean.Parser.Tactic.simpLemma| PL.fT), `(Lean.Parser.Tactic.simpLemma| PL.fT2), `(Lean.Parser.Tactic.simpLemma| PL.tyD), `(Lean.Parser.Tactic.simpLemma| PL.isT), `(Lean.Parser.Tactic.simpLemma| PL.fObj), `(Lean.Parser.Tactic.simpLemma| PL.isNon), `(Lean.Parser.Tactic.simpLemma| PL.fldD), `(Lean.Parser.Tactic.simpLemma| PL.putN), `(Lean.Parser.Tactic.simpLemma| PL.putD), `(Lean.Parser.Tactic.simpLemma| PL.lookD), `(Lean.Parser.Tactic.simpLemma| PL.keyD), `(Lean.Parser.Tactic.simpLemma| PL.vals), `(Lean.Parser.Tactic.simpLemma| PL.outA), `(Lean.Parser.Tactic.simpLemma| PL.Ent.d), `(Lean.Parser.Tactic.simpLemma| ne_eq), `(Lean.Parser.Tactic.simpLemma| not_false_eq_true), `(Lean.Parser.Tactic.simpLemma| not_true_eq_false), `(Lean.Parser.Tactic.simpLemma| PL.ndS_val), `(Lean.Parser.Tactic.simpLemma| PL.ndS_nil)] do
          out := out.push (← y).raw
      else if x.raw.isOfKind ``Lean.Parser.Tactic.simpLemma && x.raw[2].getId.eraseMacroScopes == `STD then
        hit := true
        for y in #[`(Lean.Parser.Tactic.simpLemma| List.map_cons), `(Lean.Parser.Tactic.simpLemma| List.map_nil), `(Lean.Parser.Tactic.simpLemma| List.length_cons), `(Lean.Parser.Tactic.simpLemma| List.length_nil), `(Lean.Parser.Tactic.simpLemma| List.cons_append), `(Lean.Parser.Tactic.simpLemma| List.nil_append), `(Lean.Parser.Tactic.simpLemma| List.append_nil), `(Lean.Parser.Tactic.simpLemma| List.replicate), `(Lean.Parser.Tactic.simpLemma| List.getElem?_cons_zero), `(Lean.Parser.Tactic.simpLemma| List.getElem?_cons_succ), `(Lean.Parser.Tactic.simpLemma| List.getElem?_nil), `(Lean.Parser.Tactic.simpLemma| List.set_cons_zero), `(Lean.Parser.Tactic.simpLemma| List.set_cons_succ), `(Lean.Parser.Tactic.simpLemma| Option.map_some), `(Lean.Parser.Tactic.simpLemma| Option.map_none), `(Lean.Parser.Tactic.simpLemma| Option.getD_some), `(Lean.Parser.Tactic.simpLemma| Option.getD_none), `(Lean.Parser.Tactic.simpLemma| if_true), `(Lean.Parser.Tactic.simpLemma| Bool.not_true), `(Lean.Parser.Tactic.simpLemma| Bool.not_false), `(Lean.Parser.Tactic.simpLemma| Bool.false_eq_true), `(Lean.Parser.Tactic.simpLemma| if_false), `(Lean.Parser.Tactic.simpLemma| and_true), `(Lean.Parser.Tactic.simpLemma| true_and), `(Lean.Parser.Tactic.simpLemma| reduceIte), `(Lean.Parser.Tactic.simpLemma| List.all_cons), `(Lean.Parser.Tactic.simpLemma| List.all_nil), `(Lean.Parser.Tactic.simpLemma| List.any_cons), `(Lean.Parser.Tactic.simpLemma| List.any_nil), `(Lean.Parser.Tactic.simpLemma| Bool.and_true), `(Lean.Parser.Tactic.simpLemma| Bool.true_and), `(Lean.Parser.Tactic.simpLemma| Nat.reduceSub), `(Lean.Parser.Tactic.simpLemma| Nat.reduceAdd), `(Lean.Parser.Tactic.simpLemma| List.tail_cons), `(Lean.Parser.Tactic.simpLemma| PL.atI_0), `(Lean.Parser.Tactic.simpLemma| PL.atI_1), `(Lean.Parser.Tactic.simpLemma| PL.atI_2), `(Lean.Parser.Tactic.simpLemma| PL.atI_3), `(Lean.Parser.Tactic.simpLemma| PL.atI_4), `(Lean.Parser.Tactic.simpLemma| PL.cut_1), `(Lean.Parser.Tactic.simpLemma| Bool.or_false), `(Lean.Parser.Tactic.simpLemma| Bool.false_or), `(Lean.Parser.Tactic.simpLemma| Int.cast_ofNat_Int), `(Lean.Parser.Tactic.simpLemma| Int.reduceEq), `(Lean.Parser.Tactic.simpLemma| Int.reduceLE), `(Lean.Parser.Tactic.simpLemma| decide_true), `(Lean.Parser.Tactic.simpLemma| decide_false), `(Lean.Parser.Tactic.simpLemma| id), `(Lean.Parser.Tactic.simpLemma| eq_self), `(Lean.Parser.Tactic.simpLemma| List.length_map), `(Lean.Parser.Tactic.simpLemma| Bool.and_false), `(Lean.Parser.Tactic.simpLemma| Bool.false_and)] do
          out := out.push (← y).raw
      else if x.raw.isOfKind ``Lean.Parser.Tactic.simpLemma && x.raw[2].getId.eraseMacroScopes == `PDN then
        hit := true
        for y in #[`(Lean.Parser.Tactic.simpLemma| PL.kCls_ok), `(Lean.Parser.Tactic.simpLemma| PL.x_prop), `(Lean.Parser.Tactic.simpLemma| PL.x_unpS), `(Lean.Parser.Tactic.simpLemma| PL.x_tupS), `(Lean.Parser.Tactic.simpLemma| PL.x_lstS), `(Lean.Parser.Tactic.simpLemma| PL.kSc_l), `(Lean.Parser.Tactic.simpLemma| PL.kSc_t), `(Lean.Parser.Tactic.simpLemma| PL.x_sc), `(Lean.Parser.Tactic.simpLemma| PL.kKeys_d), `(Lean.Parser.Tactic.simpLemma| PL.x_keys), `(Lean.Parser.Tactic.simpLemma| PL.kVals_d), `(Lean.Parser.Tactic.simpLemma| PL.x_vals), `(Lean.Parser.Tactic.simpLemma| PL.gNeg_i), `(Lean.Parser.Tactic.simpLemma| PL.gLenD_d), `(Lean.Parser.Tactic.simpLemma| PL.gLenD_t), `(Lean.Parser.Tactic.simpLemma| PL.gDict_d), `(Lean.Parser.Tactic.simpLemma| PL.gListA_d), `(Lean.Parser.Tactic.simpLemma| PL.x_dic0), `(Lean.Parser.Tactic.simpLemma| PL.x_dit0), `(Lean.Parser.Tactic.simpLemma| PL.x_dc), `(Lean.Parser.Tactic.simpLemma| PL.x_lc2), `(Lean.Parser.Tactic.simpLemma| PL.x_callK), `(Lean.Parser.Tactic.simpLemma| PL.dIn_str)] do
          out := out.push (← y).raw
      else out := out.push x.raw
    if !hit then Lean.Macro.throwUnsupported
    let sep : Lean.Syntax.TSepArray [`Lean.Parser.Tactic.simpStar, `Lean.Parser.Tactic.simpErase, `Lean.Parser.Tactic.simpLemma] "," := ⟨(Lean.Syntax.mkSep (out.map id) (Lean.mkAtom ",")).getArgs⟩
    `(tactic| simp only [$sep,*] $[$loc]?)
namespace PL
open PySem PySem.Spec PyProof.Rows L2
variable [HasT]
theorem bls_true : ∀ l : List D, blsD (l.map fun _ => D.bl true) = some (l.map fun _ => true)
  | [] => rfl
  | a :: l => by
    rw [List.map_cons, blsD, bls_true l]
    rfl
theorem all_true {α : Type} (l : List α) : (l.map fun _ => true).all id = true := by
  simp
theorem sp_is_number : Kp w_is_number 1 1 fs_is_number := by
  rintro args Qp Ep ⟨n, rfl, ⟨h1, h2⟩, q⟩
  refine ⟨rfl, ?_⟩
  simp only [w_is_number, PDS, STD, h1, h2]
  exact q
theorem sp_is_end : Kp w_is_end 1 2 fs_is_end := by
  rintro args Qp Ep ⟨m, n, rfl, h1, h2, q⟩
  refine ⟨rfl, ?_⟩
  simp only [w_is_end, PDS, STD, gEq_int]
  refine ⟨rfl, lc_map (fun _ => .bl true) (fun d hd k hk => ?_) ?_⟩
  · have : ∃ n, d = .int n ∧ numOk n := by
      rcases List.mem_cons.mp hd with rfl | hd
      · exact ⟨m, rfl, h1⟩
      · rcases List.mem_cons.mp hd with rfl | hd
        · exact ⟨n, rfl, h2⟩
        · cases hd
    obtain ⟨n', rfl, hn⟩ := this
    simp only [wipeE, PDS, STD]
    exact ⟨n', rfl, hn, hk _ rfl⟩
  · simp only [wipeE, restE, PDS, STD, blsD]
    exact q
theorem sp_is_range : Kp w_is_range 1 2 fs_is_range := by
  rintro args Qp Ep ⟨r, rfl, ⟨h1, h2, h3⟩, q⟩
  refine ⟨rfl, ?_⟩
  simp only [w_is_range, PDS, STD, gEq_int, rgD]
  refine ⟨rfl, lc_map (fun _ => .bl true) (fun d hd k hk => ?_) ?_⟩
  · have : ∃ n, d = .int n ∧ numOk n := by
      rcases List.mem_cons.mp hd with rfl | hd
      · exact ⟨_, rfl, h1, by omega⟩
      · rcases List.mem_cons.mp hd with rfl | hd
        · exact ⟨_, rfl, by omega, h3⟩
        · cases hd
    obtain ⟨n', rfl, hn⟩ := this
    simp only [wipeE, PDS, STD]
    exact ⟨n', rfl, hn, hk _ rfl⟩
  · simp only [wipeE, restE, PDS, STD, blsD, h2]
    exact q
theorem sp_is_name : Kp w_is_name 1 2 fs_is_name := by
  rintro args Qp Ep ⟨x, rfl, ⟨h1, h2, h3⟩, q⟩
  refine ⟨rfl, ?_⟩
  have hz : (sizeLine : Nat) = 16777216 := sizeLine_eq
  have hl : x.cps.size = x.length := rfl
  have e1 : (1 : Int) ≤ x.length := by omega
  have e2 : (x.length : Int) ≤ 6 := by omega
  simp only [w_is_name, PDS, STD, gEq_int, e1, e2]
  refine ⟨by omega, by omega, rfl, lc_map (fun _ => .bl true) (fun d hd k hk => ?_) ?_⟩
  · obtain ⟨c, hc, rfl⟩ := List.mem_map.mp hd
    have : c ∈ ("abcdefghijklmnopqrstuvwxyz" : Str).cps.toList := h3 c hc
    simp only [wipeE, PDS, STD, this]
    exact hk _ rfl
  · simp only [wipeE, restE, PDS, STD, bls_true, all_true]
    exact q
theorem sp_is_packet : Kp w_is_packet 1 1 fs_is_packet := by
  rintro args Qp Ep ⟨p, rfl, ⟨h1, h2, h3, h4, h5⟩, q⟩
  refine ⟨rfl, ?_⟩
  simp only [w_is_packet, PDS, STD, gEq_int, pkD]
  refine ⟨_, rfl, h1, ?_⟩
  simp only [PDS, STD]
  refine ⟨_, _, rfl, h2, h3, ?_⟩
  simp only [PDS, STD]
  refine ⟨_, _, rfl, h4, h5, ?_⟩
  simp only [PDS, STD]
  exact q
theorem sp_are_ranges : Kp w_are_ranges 1 2 fs_are_ranges := by
  rintro args Qp Ep ⟨rs, rfl, h1, h2, q⟩
  refine ⟨rfl, ?_⟩
  simp only [w_are_ranges, PDS, STD, gEq_int, h1]
  refine ⟨rfl, lc_map (fun _ => .bl true) (fun d hd k hk => ?_) ?_⟩
  · obtain ⟨r, hr, rfl⟩ := List.mem_map.mp hd
    simp only [wipeE, PDS, STD]
    exact ⟨r, rfl, h2 r hr, hk _ rfl⟩
  · simp only [wipeE, restE, PDS, STD, bls_true, all_true]
    exact q
theorem sp_is_block : Kp w_is_block 1 1 fs_is_block := by
  rintro args Qp Ep ⟨b, rfl, ⟨h1, h2, h3⟩, q⟩
  refine ⟨rfl, ?_⟩
  simp only [w_is_block, PDS, STD, gEq_int, bD, h2]
  refine ⟨_, rfl, h1, ?_⟩
  simp only [PDS, STD]
  refine ⟨_, rfl, h2, h3, ?_⟩
  simp only [PDS, STD]
  exact q
theorem sp_turned_block : Kp w_turned_block 1 1 fs_turned_block := by
  rintro args Qp Ep ⟨b, rfl, ⟨h1, h2⟩, q⟩
  refine ⟨rfl, ?_⟩
  obtain ⟨k, rs⟩ := b
  match rs, h2 with
  | [r0, r1, r2, r3], _ =>
    simp only [w_turned_block, PDS, STD, bD]
    exact q
theorem sp_has_packet : Kp w_has_packet 2 11 fs_has_packet := by
  rintro args Qp Ep ⟨b, p, rfl, ⟨h1, h2⟩, h3, q⟩
  refine ⟨rfl, ?_⟩
  obtain ⟨k, rs⟩ := b
  match rs, h2 with
  | [r0, r1, r2, r3], _ =>
    by_cases e : k = p.k
    · simp only [w_has_packet, PDS, STD, bD, pkD, gEq_str h1 h3, zipD]
      simp only [e, PDS, STD]
      refine ⟨rfl, lc_map (fun d => match d with
        | .tup [.tup [.int l, .int h], .int n] => .bl (decide (l ≤ n ∧ n ≤ h))
        | _ => .non) (fun d hd kk hk => ?_) ?_⟩
      · have : ∃ l h n, d = .tup [.tup [.int l, .int h], .int n] := by
          simp only [zipD, List.zip_cons_cons, List.zip_nil_right, STD, List.mem_cons, List.not_mem_nil, or_false] at hd
          rcases hd with rfl | rfl | rfl | rfl <;> exact ⟨_, _, _, rfl⟩
        obtain ⟨l, h, n, rfl⟩ := this
        have hk' : ∀ ρ3, _ → kk (.bl (decide (l ≤ n ∧ n ≤ h))) ρ3 := hk
        by_cases h1 : l ≤ n
        · have e2 : decide (l ≤ n ∧ n ≤ h) = decide (n ≤ h) := by simp [h1]
          rw [e2] at hk'
          simp only [wipeE, PDS, STD, h1]
          exact hk' _ rfl
        · have e2 : decide (l ≤ n ∧ n ≤ h) = false := by simp [h1]
          rw [e2] at hk'
          simp only [wipeE, PDS, STD, h1]
          exact hk' _ rfl
      · have : hasP ⟨k, [r0, r1, r2, r3]⟩ p = (decide (r0.1 ≤ p.a ∧ p.a ≤ r0.2) && (decide (r1.1 ≤ p.b ∧ p.b ≤ r1.2) && (decide (r2.1 ≤ p.c ∧ p.c ≤ r2.2) && (decide (r3.1 ≤ p.d ∧ p.d ≤ r3.2) && true)))) := by
          unfold hasP
          simp only [e, decide_true, Bool.true_and]
          rfl
        rw [this] at q
        simp only [wipeE, restE, PDS, STD, zipD, List.zip_cons_cons, List.zip_nil_right, rgD, blsD]
        simp only [Bool.and_true, e] at q
        exact q
    · simp only [w_has_packet, PDS, STD, bD, pkD, gEq_str h1 h3, zipD, e]
      have : hasP ⟨k, [r0, r1, r2, r3]⟩ p = false := by
        unfold hasP
        simp [e]
      rw [this] at q
      exact q
end PL
namespace PL
open PySem PySem.Spec PyProof.Rows L2
variable [HasT]
theorem bls_map {α : Type} (g : α → Bool) : ∀ l : List α, blsD (l.map fun a => D.bl (g a)) = some (l.map g)
  | [] => rfl
  | a :: l => by
    rw [List.map_cons, blsD, bls_map g l]
    rfl
def zipF (d : D) : D := match d with
  | .tup [.tup [.int a, .int b], .tup [.int c, .int e]] => rgD (interR (a, b) (c, e))
  | _ => .non
def leF (d : D) : D := match d with
  | .tup [.int a, .int b] => .bl (decide (a ≤ b))
  | _ => .non
theorem zipF_rg (r q : Rg) : zipF (.tup [rgD r, rgD q]) = rgD (interR r q) := rfl
theorem leF_rg (r : Rg) : leF (rgD r) = .bl (decide (r.1 ≤ r.2)) := rfl
theorem sp_met : Kp w_met 2 7 fs_met := by
  rintro args Qp Ep ⟨b, o, rfl, ⟨h1, h2⟩, ⟨h3, h4⟩, q⟩
  refine ⟨rfl, ?_⟩
  obtain ⟨k, rs⟩ := b
  obtain ⟨j, qs⟩ := o
  match rs, h2, qs, h4 with
  | [r0, r1, r2, r3], _, [q0, q1, q2, q3], _ =>
    by_cases e : k = j
    · subst e
      simp only [w_met, PDS, STD, bD, gEq_str h1 h3, zipD, List.zip_cons_cons, List.zip_nil_right]
      refine ⟨rfl, lc_map zipF (fun d hd kk hk => ?_) ?_⟩
      · have : ∃ r q : Rg, d = .tup [rgD r, rgD q] := by
          simp only [STD, List.mem_cons, List.not_mem_nil, or_false] at hd
          rcases hd with rfl | rfl | rfl | rfl <;> exact ⟨_, _, rfl⟩
        obtain ⟨r, q, rfl⟩ := this
        have hk' : ∀ ρ3, _ → kk (rgD (interR r q)) ρ3 := hk
        simp only [wipeE, PDS, STD, rgD]
        exact hk' _ rfl
      · simp only [wipeE, restE, PDS, STD, zipF_rg]
        refine ⟨rfl, lc_map leF (fun d hd kk hk => ?_) ?_⟩
        · have : ∃ r : Rg, d = rgD r := by
            simp only [STD, List.mem_cons, List.not_mem_nil, or_false] at hd
            rcases hd with rfl | rfl | rfl | rfl <;> exact ⟨_, rfl⟩
          obtain ⟨r, rfl⟩ := this
          have hk' : ∀ ρ3, _ → kk (.bl (decide (r.1 ≤ r.2))) ρ3 := hk
          simp only [wipeE, PDS, STD, rgD]
          exact hk' _ rfl
        · simp only [wipeE, restE, PDS, STD, leF_rg, blsD]
          have hm : metF ⟨k, [r0, r1, r2, r3]⟩ ⟨k, [q0, q1, q2, q3]⟩ = if (decide ((interR r0 q0).1 ≤ (interR r0 q0).2) && (decide ((interR r1 q1).1 ≤ (interR r1 q1).2) && (decide ((interR r2 q2).1 ≤ (interR r2 q2).2) && decide ((interR r3 q3).1 ≤ (interR r3 q3).2)))) = true then [⟨k, [interR r0 q0, interR r1 q1, interR r2 q2, interR r3 q3]⟩] else [] := by
            unfold metF
            rw [if_pos rfl]
            simp only [List.zip_cons_cons, List.zip_nil_right, STD]
          rw [hm] at q
          generalize (decide ((interR r0 q0).1 ≤ (interR r0 q0).2) && (decide ((interR r1 q1).1 ≤ (interR r1 q1).2) && (decide ((interR r2 q2).1 ≤ (interR r2 q2).2) && decide ((interR r3 q3).1 ≤ (interR r3 q3).2)))) = B at q ⊢
          cases B with
          | true =>
            simp only [PDS, STD]
            exact ⟨by rw [sizeLine_eq]; decide, q⟩
          | false =>
            simp only [PDS, STD]
            exact q
    · simp only [w_met, PDS, STD, bD, gEq_str h1 h3, zipD, e]
      have : metF ⟨k, [r0, r1, r2, r3]⟩ ⟨j, [q0, q1, q2, q3]⟩ = [] := by
        unfold metF
        simp [e]
      rw [this] at q
      exact q
theorem sp_size_of : Kp w_size_of 1 4 fs_size_of := by
  rintro args Qp Ep ⟨b, rfl, ⟨h1, h2, h3⟩, q⟩
  refine ⟨rfl, ?_⟩
  obtain ⟨k, rs⟩ := b
  match rs, h2 with
  | [r0, r1, r2, r3], _ =>
    have c : ∀ (m : Int) (r : Rg), r ∈ [r0, r1, r2, r3] → CMul m (r.2 - r.1 + 1) := fun m r hr => by
      obtain ⟨a, b, c⟩ := h3 r hr
      exact .inr ⟨by omega, by omega⟩
    simp only [w_size_of, PDS, STD, bD, wForL, rgD]
    exact ⟨c _ _ (by simp), c _ _ (by simp), c _ _ (by simp), c _ _ (by simp), q⟩
/-- check_blocks: every item is a block -/
theorem sp_check_blocks : Kp w_check_blocks 1 3 fs_check_blocks := by
  rintro args Qp Ep ⟨bs, d, rfl, hd, h, q⟩
  refine ⟨rfl, ?_⟩
  have go : ∀ (l : List (Bk × Nat)) (x y : Option Ent), frO (some x) = true → frO (some y) = true → (∀ p ∈ l, bOk p.1) →
      wForL (wUnp 2 (wGc (wName 1) (wGc (wName 2) wGn))) (wIf (wNotT (wB (wCallF fs_is_block [] (wVk (wVar 2) wVn)))) wNever wNext) (l.map fun p => D.tup [.int (p.2 : Nat), bD p.1])
        ⟨fun ρ' => Qp (R.val .non) [Ent.val d], fun r ρ' => Qp r [Ent.val d], fun _ => False, fun _ => False, fun x ρ' => Ep x [Ent.val d]⟩ [some (.val d), x, y] := by
    intro l
    induction l with
    | nil => intro x y hx hy _; exact q
    | cons p l ih =>
      intro x y hx hy hl
      simp only [List.map_cons, wForL, PDS, STD, hx, hy]
      refine ⟨p.1, rfl, hl p List.mem_cons_self, ?_⟩
      simp only [PDS, STD]
      exact ih _ _ rfl rfl fun p' hp => hl p' (List.mem_cons_of_mem _ hp)
  have en : enumD (bs.map bD) = (bs.zipIdx).map fun p => D.tup [.int (p.2 : Nat), bD p.1] := by
    unfold enumD
    rw [List.zipIdx_map, List.map_map]
    rfl
  have hz : ∀ p ∈ bs.zipIdx, bOk p.1 := fun p hp => h p.1 (by
    have := List.mem_zipIdx hp
    obtain ⟨_, _, e⟩ := this
    rw [e]
    exact List.getElem_mem _)
  rcases hd with rfl | rfl
  · simp only [w_check_blocks, PDS, STD, en]
    exact go _ _ _ rfl rfl hz
  · simp only [w_check_blocks, PDS, STD, en]
    exact go _ _ _ rfl rfl hz
end PL
namespace PL
open PySem PySem.Spec PyProof.Rows L2
variable [HasT]
theorem small_le {n : Nat} (h : n ≤ 1000) : n ≤ sizeLine := by
  rw [sizeLine_eq]; omega
theorem take_set {α : Type} (l : List α) (i : Nat) (x : α) (h : i < l.length) : l.take i ++ x :: l.drop (i + 1) = l.set i x := by
  rw [List.set_eq_take_append_cons_drop, if_pos h]
/-- left[:at] + (r,) + left[at + 1:] -/
theorem put_at (k : Str) (rs : List Rg) (i : Nat) (r : Rg) (h : i < rs.length) : ((D.str k :: rs.map rgD).take (i + 1) ++ [rgD r]) ++ (D.str k :: rs.map rgD).drop (i + 1 + 1) = D.str k :: (rs.set i r).map rgD := by
  rw [List.take_succ_cons, List.drop_succ_cons, List.cons_append, List.cons_append, List.append_assoc, List.cons_append, List.nil_append, take_set _ _ _ (by simpa using h), List.map_set]
def splitSt (o : Bk) (i : Nat) (s : Bk × List Bk) : Bk × List Bk := match s.1.rs[i]?, o.rs[i]? with
  | some r, some q => (⟨s.1.k, s.1.rs.set i (interR r q)⟩, s.2 ++ cutAt s.1 i r q)
  | _, _ => s
theorem splitL_st (o : Bk) : ∀ (l : List Nat) (b : Bk) (acc : List Bk), (∀ i ∈ l, i < b.rs.length) → (∀ i ∈ l, i < o.rs.length) → splitL o l b acc = (l.foldl (fun s i => splitSt o i s) (b, acc)).2
  | [], b, acc, _, _ => rfl
  | i :: l, b, acc, h1, h2 => by
    have i1 := h1 i List.mem_cons_self
    have i2 := h2 i List.mem_cons_self
    have e1 : b.rs[i]? = some b.rs[i] := by simp [i1]
    have e2 : o.rs[i]? = some o.rs[i] := by simp [i2]
    rw [List.foldl_cons]
    unfold splitL splitSt
    simp only [e1, e2]
    exact splitL_st o l _ _ (fun j hj => by simpa using h1 j (List.mem_cons_of_mem _ hj)) fun j hj => h2 j (List.mem_cons_of_mem _ hj)
def stAt (b o : Bk) (j : Nat) : Bk × List Bk := (List.range j).foldl (fun s i => splitSt o i s) (b, [])
theorem stAt_succ (b o : Bk) (j : Nat) : stAt b o (j + 1) = splitSt o j (stAt b o j) := by
  unfold stAt
  rw [List.range_succ, List.foldl_append]
  rfl
theorem splitSt_len (o : Bk) (i : Nat) (s : Bk × List Bk) : (splitSt o i s).1.rs.length = s.1.rs.length ∧ (splitSt o i s).1.k = s.1.k ∧ (splitSt o i s).2.length ≤ s.2.length + 2 := by
  unfold splitSt
  split
  · refine ⟨by simp, rfl, ?_⟩
    unfold cutAt
    rw [List.length_append, List.length_append]
    split <;> split <;> simp
  · exact ⟨rfl, rfl, by omega⟩
theorem stAt_len (b o : Bk) : ∀ j, (stAt b o j).1.rs.length = b.rs.length ∧ (stAt b o j).1.k = b.k ∧ (stAt b o j).2.length ≤ 2 * j
  | 0 => ⟨rfl, rfl, by simp [stAt]⟩
  | j + 1 => by
    obtain ⟨h1, h2, h3⟩ := stAt_len b o j
    obtain ⟨k1, k2, k3⟩ := splitSt_len o j (stAt b o j)
    rw [stAt_succ]
    exact ⟨k1.trans h1, k2.trans h2, by omega⟩
theorem ap_at (k : Str) (rs : List Rg) (j : Nat) (r : Rg) (h : rs[j]? = some r) : atI (D.str k :: rs.map rgD) (1 + (j : Int)) = some (rgD r) := by
  rw [show (1 : Int) + (j : Int) = ((j + 1 : Nat) : Int) by omega, atI_nat, List.getElem?_cons_succ, List.getElem?_map, h]
  rfl
theorem cut_toJ {α : Type} (l : List α) (j : Nat) : cut l none (some (1 + (j : Int))) = l.take (j + 1) := by
  rw [show (1 : Int) + (j : Int) = ((j + 1 : Nat) : Int) by omega, cut_to]
theorem cut_fromJ {α : Type} (l : List α) (j : Nat) : cut l (some (1 + (j : Int) + 1)) none = l.drop (j + 1 + 1) := by
  rw [show (1 : Int) + (j : Int) + 1 = ((j + 1 + 1 : Nat) : Int) by omega, cut_from]
theorem put_at' (k : Str) (rs : List Rg) (i : Nat) (a b : Int) (h : i < rs.length) : ((D.str k :: rs.map rgD).take (i + 1) ++ [D.tup [.int a, .int b]]) ++ (D.str k :: rs.map rgD).drop (i + 1 + 1) = D.str k :: (rs.set i (a, b)).map rgD := put_at k rs i (a, b) h
theorem sp_split : Kp w_split 2 9 fs_split := by
  rintro args Qp Ep ⟨b, o, rfl, hb, ho, q⟩
  refine ⟨rfl, ?_⟩
  simp only [w_split, PDS, STD]
  refine ⟨b, o, rfl, hb, ho, ?_⟩
  simp only [PDS, STD]
  rw [gEq_bs (fun c hc => ?_)]
  rotate_left
  · unfold metF at hc
    split at hc
    · simp only at hc
      split at hc
      · simp at hc; rw [hc]; exact hb.1
      · cases hc
    · cases hc
  cases hm : (metF b o).isEmpty with
  | true =>
    simp only [PDS, STD]
    have e : metF b o = [] := by simpa using hm
    have : splitF b o = [b] := by unfold splitF; rw [e]
    rw [this] at q
    exact q
  | false =>
    simp only [PDS, STD]
    have hs : splitF b o = (stAt b o 4).2 := by
      have : splitF b o = splitL o [0, 1, 2, 3] b [] := by
        unfold splitF
        split
        · next e => rw [e] at hm; cases hm
        · rfl
      rw [this, splitL_st _ _ _ _ (fun i hi => by rw [hb.2]; simp at hi; omega) (fun i hi => by rw [ho.2]; simp at hi; omega)]
      rfl
    rw [hs] at q
    refine ⟨⟨by decide, by decide, by decide, by decide, small_le (by decide)⟩, ?_⟩
    refine for_inv (fun j ρ => j ≤ 4 ∧ ∃ x4 x5 x6 x7 x8 : Option Ent, frO (some x4) = true ∧ frO (some x5) = true ∧ frO (some x6) = true ∧ frO (some x7) = true ∧ frO (some x8) = true ∧
      ρ = [some (.val (bD b)), some (.val (bD o)), some (.own false (.lst ((stAt b o j).2.map bD))), some (.val (bD (stAt b o j).1)), x4, x5, x6, x7, x8]) 0 ⟨by omega, none, none, none, none, none, rfl, rfl, rfl, rfl, rfl, rfl⟩ ?_ ?_
    · rintro j d ρ hd ⟨hj, x4, x5, x6, x7, x8, y4, y5, y6, y7, y8, rfl⟩ N hN
      have hd' : j < 4 ∧ d = .int (1 + (j : Int)) := by
        have hr : rangeD 1 5 = (List.range 4).map fun i : Nat => D.int (1 + i) := rfl
        rw [hr, List.getElem?_map] at hd
        by_cases h4 : j < 4
        · rw [List.getElem?_range h4] at hd
          exact ⟨h4, by simpa using hd.symm⟩
        · rw [List.getElem?_eq_none (by simpa using h4)] at hd; cases hd
      obtain ⟨h4, rfl⟩ := hd'
      rw [Nat.zero_add] at hN ⊢
      obtain ⟨l1, l2, l3⟩ := stAt_len b o j
      generalize hst : stAt b o j = st at l1 l2 l3 hN ⊢
      obtain ⟨⟨k, rs⟩, acc⟩ := st
      obtain ⟨ko, qs⟩ := o
      have hr : j < rs.length := by rw [hb.2] at l1; simp at l1; omega
      have hq : j < qs.length := by have := ho.2; simp at this; omega
      have er : rs[j]? = some rs[j] := by simp [hr]
      have eq' : qs[j]? = some qs[j] := by simp [hq]
      simp only [PDS, STD, bD, y4, y5, y6, y7, y8, ap_at _ _ _ _ er, ap_at _ _ _ _ eq', rgD]
      have sz : ∀ n : Nat, n ≤ 1000 → n ≤ sizeLine := fun n h => small_le h
      have l1' : rs.length = 4 := l1.trans hb.2
      have l3' : acc.length ≤ 6 := by simp at l3; omega
      by_cases c1 : rs[j].1 < qs[j].1 <;> by_cases c2 : qs[j].2 < rs[j].2
      all_goals
        simp only [c1, c2, PDS, STD, cut_toJ, cut_fromJ, put_at' _ _ _ _ _ hr]
      all_goals
        repeat (refine ⟨sz _ (by first | omega | (simp; omega)), ?_⟩)
        refine hN _ ⟨by omega, some (.val (.int (1 + (j : Int)))), some (.val (.int rs[j].1)), some (.val (.int rs[j].2)), some (.val (.int qs[j].1)), some (.val (.int qs[j].2)), rfl, rfl, rfl, rfl, rfl, ?_⟩
        rw [stAt_succ, hst]
        simp only [splitSt, er, eq', cutAt, interR, c1, c2, bD, if_true, if_false, gt_iff_lt, List.append_nil, List.nil_append, List.map_append, List.map_cons, List.map_nil, List.append_assoc]
    · rintro ρ ⟨_, x4, x5, x6, x7, x8, y4, y5, y6, y7, y8, rfl⟩
      simp only [PDS, STD]
      exact q
end PL
namespace PL
open PySem PySem.Spec PyProof.Rows L2
variable [HasT]
theorem withoutF_cons (b : Bk) (bs : List Bk) (o : Bk) : withoutF (b :: bs) o = splitF b o ++ withoutF bs o := rfl
theorem sp_without_block : Kp w_without_block 2 4 fs_without_block := by
  rintro args Qp Ep ⟨bs, o, rfl, hb, ho, hz, q⟩
  refine ⟨rfl, ?_⟩
  have go : ∀ (l : List Bk) (acc : List Bk) (x : Option Ent), frO (some x) = true → (∀ b ∈ l, bWell b) → acc.length + (withoutF l o).length ≤ sizeLine → acc ++ withoutF l o = withoutF bs o →
      wForL (wName 3) (wExpr (wExtend 2 (wCallF fs_split [] (wVk (wVar 3) (wVk (wVar 1) wVn))))) (l.map bD)
        ⟨fun ρ' => wRet (wVar 2) ⟨fun ρ => Qp (R.val .non) (vals [.lst (bs.map bD), bD o]), fun r ρ' => Qp r (vals [.lst (bs.map bD), bD o]), fun _ => False, fun _ => False, fun x ρ' => Ep x (vals [.lst (bs.map bD), bD o])⟩ ρ', fun r ρ' => Qp r (vals [.lst (bs.map bD), bD o]), fun _ => False, fun _ => False, fun x ρ' => Ep x (vals [.lst (bs.map bD), bD o])⟩
        [some (.val (.lst (bs.map bD))), some (.val (bD o)), some (.own false (.lst (acc.map bD))), x] := by
    intro l
    induction l with
    | nil =>
      intro acc x hx _ _ e
      have e' : acc = withoutF bs o := by rw [← e]; simp [withoutF]
      simp only [List.map_nil, wForL, PDS, STD]
      rw [e']
      exact q
    | cons b l ih =>
      intro acc x hx hl hs e
      rw [withoutF_cons] at hs e
      simp only [List.map_cons, wForL, PDS, STD, hx]
      refine ⟨b, o, rfl, hl b List.mem_cons_self, ho, ?_⟩
      simp only [PDS, STD]
      refine ⟨by simp only [List.length_append, List.length_map] at hs ⊢; omega, ?_⟩
      rw [← List.map_append]
      have r := ih (acc ++ splitF b o) (some (.val (bD b))) rfl (fun c hc => hl c (List.mem_cons_of_mem _ hc)) (by simp only [List.length_append] at hs ⊢; omega) (by rw [List.append_assoc]; exact e)
      simp only [PDS, STD] at r ⊢
      exact r
  simp only [w_without_block, PDS, STD]
  have := go bs [] none rfl hb (by simpa using hz) (by simp)
  simp only [PDS, STD] at this
  exact this
end PL
namespace PL
open PySem PySem.Spec PyProof.Rows L2
variable [HasT]
def unlikeP (b o : Bk) (d : D) : Bool := match d with
  | .int i => decide (b.rs[(i - 1).toNat]? ≠ o.rs[(i - 1).toNat]?)
  | _ => false
theorem unlikeP_at (b o : Bk) (j : Nat) : unlikeP b o (.int (1 + (j : Int))) = decide (b.rs[j]? ≠ o.rs[j]?) := by
  show decide (b.rs[(1 + (j : Int) - 1).toNat]? ≠ o.rs[(1 + (j : Int) - 1).toNat]?) = _
  rw [show (1 + (j : Int) - 1).toNat = j by omega]
theorem unlike_fil (b o : Bk) : (rangeD 1 5).filter (unlikeP b o) = ((List.range 4).filter fun i => decide (b.rs[i]? ≠ o.rs[i]?)).map fun i : Nat => D.int (1 + (i : Int)) := by
  have hr : rangeD 1 5 = (List.range 4).map fun i : Nat => D.int (1 + (i : Int)) := rfl
  rw [hr, List.filter_map]
  congr 1
theorem merge2 {α : Type} (le : α → α → Bool) (a b : α) : [a, b].mergeSort le = if le a b = true then [a, b] else [b, a] := by
  simp [List.mergeSort, List.MergeSort.Internal.splitInTwo, List.merge]
theorem gSort_pair {r q : Rg} {Q : R → Prop} (h : Q (.tmp (.lst (if q.1 < r.1 ∨ (q.1 = r.1 ∧ q.2 < r.2) then [rgD q, rgD r] else [rgD r, rgD q])))) : gSort [.lst [rgD r, rgD q]] Q := by
  refine ⟨[rgP r, rgP q], rfl, ?_, ?_, ?_, ?_⟩
  · intro d hd d' hd'
    simp at hd hd'
    rcases hd with rfl | rfl <;> rcases hd' with rfl | rfl <;> rfl
  · refine .inl fun d hd => ?_
    simp at hd
    rcases hd with rfl | rfl <;> exact ⟨_, _, rfl⟩
  · intro d hd
    simp at hd
    rcases hd with rfl | rfl <;> simp [rgP, PyData.depth, PyData.depthAll]
  · have : sortBy [rgD r, rgD q] [rgP r, rgP q] = if q.1 < r.1 ∨ (q.1 = r.1 ∧ q.2 < r.2) then [rgD q, rgD r] else [rgD r, rgD q] := by
      unfold sortBy
      simp only [List.zip_cons_cons, List.zip_nil_right]
      rw [merge2]
      have e : PySem.W.dataLe false (fun b : D × PyData => b.2) (rgD r, rgP r) (rgD q, rgP q) = !decide (q.1 < r.1 ∨ (q.1 = r.1 ∧ q.2 < r.2)) := by
        rw [PySem.W.dataLe_eq]
        simp only [cond_false]
        unfold rgP
        rw [PySem.W.dataLt_ii]
      rw [e]
      by_cases c : q.1 < r.1 ∨ (q.1 = r.1 ∧ q.2 < r.2)
      · simp [c]
      · simp [c]
    rw [this]
    exact h
theorem sp_side_by_side : Kp w_side_by_side 2 6 fs_side_by_side := by
  rintro args Qp Ep ⟨b, o, rfl, hb, ho, q⟩
  refine ⟨rfl, ?_⟩
  obtain ⟨k, rs⟩ := b
  obtain ⟨ko, qs⟩ := o
  by_cases e : k = ko
  · subst e
    simp only [w_side_by_side, PDS, STD, bD, gEq_str hb.1 ho.1]
    refine ⟨⟨by decide, by decide, by decide, by decide, small_le (by decide)⟩, rfl, lc_fil (unlikeP ⟨k, rs⟩ ⟨k, qs⟩) id (fun d hd kk k0 hk hk0 => ?_) ?_⟩
    · have hr : rangeD 1 5 = (List.range 4).map fun i : Nat => D.int (1 + i) := rfl
      rw [hr] at hd
      obtain ⟨j, hj, rfl⟩ := List.mem_map.mp hd
      have hj4 : j < 4 := by simpa using hj
      have h1 : j < rs.length := by have := hb.2; simp at this; omega
      have h2 : j < qs.length := by have := ho.2; simp at this; omega
      have er : rs[j]? = some rs[j] := by simp [h1]
      have eq' : qs[j]? = some qs[j] := by simp [h2]
      simp only [wipeE, PDS, STD, ap_at _ _ _ _ er, ap_at _ _ _ _ eq', gEq_rg]
      by_cases c : rs[j] = qs[j]
      · simp only [c, PDS, STD]
        refine hk0 ?_ _ rfl
        rw [unlikeP_at, er, eq', c]
        simp
      · simp only [c, PDS, STD]
        refine hk ?_ _ rfl
        rw [unlikeP_at, er, eq']
        simp [c]
    · have hf := unlike_fil ⟨k, rs⟩ ⟨k, qs⟩
      simp only at hf
      simp only [wipeE, restE, PDS, STD, hf, List.map_id]
      have hs : sideF ⟨k, rs⟩ ⟨k, qs⟩ = (match (List.range 4).filter (fun i => decide (¬rs[i]? = qs[i]?)) with
        | [i] => match rs[i]?, qs[i]? with
          | some r, some q => let lo := if q.1 < r.1 ∨ (q.1 = r.1 ∧ q.2 < r.2) then q else r
            let hi := if q.1 < r.1 ∨ (q.1 = r.1 ∧ q.2 < r.2) then r else q
            if lo.2 + 1 = hi.1 then [⟨k, rs.set i (lo.1, hi.2)⟩] else []
          | _, _ => []
        | _ => []) := by
        unfold sideF
        rw [if_pos rfl]
        all_goals rfl
      rw [hs] at q
      have hmem : ∀ i ∈ (List.range 4).filter (fun i => decide (¬rs[i]? = qs[i]?)), i < 4 := fun i hi => by simpa using (List.mem_filter.mp hi).1
      generalize (List.range 4).filter (fun i => decide (¬rs[i]? = qs[i]?)) = L at q hmem ⊢
      match L, hmem with
      | [], _ =>
        simp only [PDS, STD, gEq_int]
        exact q
      | i :: j :: t, _ =>
        have e1 : (((t.length + 1 + 1 : Nat) : Int) = 1) = False := eq_false (by omega)
        simp only [PDS, STD, gEq_int, e1]
        exact q
      | [i], hmem =>
        have hi : i < 4 := hmem i (by simp)
        have h1 : i < rs.length := by have := hb.2; simp at this; omega
        have h2 : i < qs.length := by have := ho.2; simp at this; omega
        have er : rs[i]? = some rs[i] := by simp [h1]
        have eq' : qs[i]? = some qs[i] := by simp [h2]
        simp only [er, eq'] at q
        simp only [PDS, STD, gEq_int, ap_at _ _ _ _ er, ap_at _ _ _ _ eq']
        refine gSort_pair ?_
        have sz : ∀ n : Nat, n ≤ 1000 → n ≤ sizeLine := fun n h => small_le h
        have l1' : rs.length = 4 := hb.2
        by_cases c : qs[i].1 < rs[i].1 ∨ (qs[i].1 = rs[i].1 ∧ qs[i].2 < rs[i].2)
        · simp only [if_pos c] at q ⊢
          by_cases c2 : qs[i].2 + 1 = rs[i].1
          · simp only [PDS, STD, rgD, gEq_int, c2, cut_toJ, cut_fromJ, put_at' _ _ _ _ _ h1]
            rw [if_pos c2] at q
            repeat (refine ⟨sz _ (by first | omega | (simp; omega)), ?_⟩)
            exact q
          · simp only [PDS, STD, rgD, gEq_int, c2]
            rw [if_neg c2] at q
            exact q
        · simp only [if_neg c] at q ⊢
          by_cases c2 : rs[i].2 + 1 = qs[i].1
          · simp only [PDS, STD, rgD, gEq_int, c2, cut_toJ, cut_fromJ, put_at' _ _ _ _ _ h1]
            rw [if_pos c2] at q
            repeat (refine ⟨sz _ (by first | omega | (simp; omega)), ?_⟩)
            exact q
          · simp only [PDS, STD, rgD, gEq_int, c2]
            rw [if_neg c2] at q
            exact q
  · simp only [w_side_by_side, PDS, STD, bD, gEq_str hb.1 ho.1, e]
    have : sideF ⟨k, rs⟩ ⟨ko, qs⟩ = [] := by
      unfold sideF
      simp [e]
    rw [this] at q
    exact q
end PL
namespace PL
open PySem PySem.Spec PyProof.Rows L2
variable [HasT]
theorem sideF_one (b o : Bk) : sideF b o = [] ∨ ∃ c, sideF b o = [c] ∧ c.k = b.k ∧ c.rs.length = b.rs.length := by
  unfold sideF
  split
  · split
    · split
      · dsimp only
        split
        · split
          · exact .inr ⟨_, rfl, rfl, by simp⟩
          · exact .inl rfl
        · split
          · exact .inr ⟨_, rfl, rfl, by simp⟩
          · exact .inl rfl
      · exact .inl rfl
    · exact .inl rfl
  · exact .inl rfl
theorem cut_from1 {α : Type} (l : List α) (i : Nat) : cut l (some ((i : Int) + 1)) none = l.drop (i + 1) := by
  rw [show (i : Int) + 1 = ((i + 1 : Nat) : Int) by omega, cut_from]
theorem erase_cut {α : Type} (l : List α) (i : Nat) : l.take i ++ l.drop (i + 1) = l.eraseIdx i := (List.eraseIdx_eq_take_drop_succ l i).symm
theorem Joins.perm' {b : Bk} {F t m : List Bk} (h : Joins (b :: (F ++ t)) m) : Joins (F ++ b :: t) m := by
  have p : (F ++ b :: t).Perm (b :: (F ++ t)) := List.perm_middle
  cases h with
  | perm q => exact .perm (p.trans q)
  | join q s r => exact .join (p.trans q) s r
theorem Joins.lperm {l l' m : List Bk} (p : l'.Perm l) (h : Joins l m) : Joins l' m := by
  cases h with
  | perm q => exact .perm (p.trans q)
  | join q s r => exact .join (p.trans q) s r
theorem perm_eraseIdx {α : Type} (l : List α) (i : Nat) (h : i < l.length) : l.Perm (l[i] :: l.eraseIdx i) := by
  have e : l.take i ++ l[i] :: l.drop (i + 1) = l := by
    rw [List.getElem_cons_drop, List.take_append_drop]
  have p : (l.take i ++ l[i] :: l.drop (i + 1)).Perm (l[i] :: (l.take i ++ l.drop (i + 1))) := List.perm_middle
  rw [e, erase_cut] at p
  exact p
theorem sp_pushed_together : Kp w_pushed_together 1 6 fs_pushed_together := by
  rintro args Qp Ep ⟨bs, rfl, hb, hz, q⟩
  refine ⟨rfl, ?_⟩
  have hz2 : bs.length ≤ sizeLine := by omega
  have go : ∀ (Dp : PEnds) (t F : List Bk) (x2 x3 x4 x5 : Option Ent), (∀ m x2 x3 x4 x5, Joins bs m → Dp.nx [some (.val (.lst (bs.map bD))), some (.own false (.lst (m.map bD))), x2, x3, x4, x5]) → frO (some x2) = true → frO (some x3) = true → frO (some x4) = true → frO (some x5) = true → (∀ b ∈ t, bWell b) → (∀ b ∈ F, bWell b) → F.length + t.length ≤ bs.length → (∀ m, Joins (F ++ t) m → Joins bs m) →
      ∀ (WB : WS), WB = wSeq (wSet 3 (wVar 2)) (wSeq (wSet 4 (wC (.int 0))) (wSeq (wWhile (wB (wOp2 (gI fun i j => .bl (decide (i < j))) (wVar 4) (wCall gLen (wVc (wVar 1) (wVn))))) (wSeq (wSet 5 (wCallF fs_side_by_side [] (wVk (wOp2 gIx (wVar 1) (wVar 4)) (wVk (wVar 3) (wVn)))))
    (wIf (wB (wOp2 (gEq id) (wVar 5) (wLst (wKn)))) (wSet 4 (wOp2 gAdd (wVar 4) (wC (.int 1)))) (wSeq (wSet 3 (wOp2 gIx (wVar 5) (wC (.int 0))))
    (wSeq (wSet 1 (wOp2 gAdd (wSl (wVar 1) (wNone) (wSome (wVar 4))) (wSl (wVar 1) (wSome (wOp2 gAdd (wVar 4) (wC (.int 1)))) (wNone))))
    (wSet 4 (wC (.int 0))))))))
    (wSet 1 (wOp2 gAdd (wVar 1) (wLst (wKc (wVar 3) (wKn))))))) →
      wForL (wName 2) WB (t.map bD) Dp [some (.val (.lst (bs.map bD))), some (.own false (.lst (F.map bD))), x2, x3, x4, x5] := by
    intro Dp t
    induction t with
    | nil =>
      intro F x2 x3 x4 x5 hD y2 y3 y4 y5 _ _ _ hj WB hWB
      simp only [List.map_nil, wForL]
      exact hD _ _ _ _ _ (hj F (.perm (by simp)))
    | cons b t ih =>
      intro F x2 x3 x4 x5 hD y2 y3 y4 y5 hbt hF hl hj WB hWB
      have e1 : wForL (wName 2) WB ((b :: t).map bD) = wForL (wName 2) WB (bD b :: t.map bD) := rfl
      rw [e1]
      simp only [wForL, x_name, y2, x_frS, STD]
      rw [hWB]
      simp only [PDS, STD, y2, y3, y4, y5]
      rw [← hWB]
      rw [List.length_cons] at hl
      refine while_inv (fun n ρ => ∃ (G : List Bk) (one : Bk) (i : Nat) (z5 : Option Ent), n = G.length * (G.length + 1) + (G.length - i) ∧ bWell one ∧ (∀ c ∈ G, bWell c) ∧ i ≤ G.length ∧ G.length + 1 + t.length ≤ bs.length ∧ (∀ m, Joins (one :: (G ++ t)) m → Joins bs m) ∧ frO (some z5) = true ∧
        ρ = [some (.val (.lst (bs.map bD))), some (.own false (.lst (G.map bD))), some (.val (bD b)), some (.val (bD one)), some (.val (.int i)), z5]) (n := F.length * (F.length + 1) + F.length) ⟨F, b, 0, x5, rfl, hbt b List.mem_cons_self, hF, by omega, by omega, fun m hm => hj m (.perm' hm), y5, rfl⟩ ?_
      rintro n ρ ⟨G, one, i, z5, rfl, w1, wG, hi, hG, hJ, y, rfl⟩ N hN
      simp only [PDS, STD]
      by_cases c : i < G.length
      · have c' : (i : Int) < (G.length : Int) := by omega
        have eG : G[i]? = some G[i] := by simp [c]
        have ea : atI (G.map bD) (i : Int) = some (bD G[i]) := by rw [atI_nat, List.getElem?_map, eG]; rfl
        simp only [c', PDS, STD, ea]
        refine ⟨G[i], one, rfl, wG _ (List.getElem_mem _), w1, ?_⟩
        simp only [PDS, STD, y]
        rcases sideF_one G[i] one with e0 | ⟨c0, e0, ek, el⟩
        · rw [e0]
          rw [gEq_bs (bs := []) (fun c hc => by cases hc)]
          simp only [PDS, STD, List.isEmpty_nil]
          exact hN _ _ (by omega) ⟨G, one, i + 1, some (.own false (.lst [])), rfl, w1, wG, by omega, hG, hJ, rfl, rfl⟩
        · rw [e0]
          have wc : bWell c0 := ⟨by rw [ek]; exact (wG _ (List.getElem_mem c)).1, by rw [el]; exact (wG _ (List.getElem_mem c)).2⟩
          rw [gEq_bs (bs := [c0]) (fun c hc => by simp at hc; rw [hc]; exact wc.1)]
          simp only [PDS, STD, List.isEmpty_cons, cut_to, cut_from1]
          rw [← List.map_take, ← List.map_drop, ← List.map_append, erase_cut]
          have hel : (G.eraseIdx i).length + 1 = G.length := by
            rw [List.length_eraseIdx, if_pos c]; omega
          refine ⟨by rw [List.length_map, List.length_map, List.length_take, List.length_drop]; omega, hN _ _ ?_ ⟨G.eraseIdx i, c0, 0, some (.own false (.lst [bD c0])), rfl, wc, fun x hx => wG x (List.mem_of_mem_eraseIdx hx), by omega, by omega, fun m hm => hJ m (.join ?_ e0 hm), rfl, rfl⟩⟩
          · rw [← hel]
            generalize (G.eraseIdx i).length = L
            have : (L + 1) * (L + 1 + 1) = L * (L + 1) + 2 * (L + 1) := by rw [Nat.add_mul, Nat.mul_add, Nat.mul_add]; omega
            omega
          · have pg : G.Perm (G[i] :: G.eraseIdx i) := perm_eraseIdx G i c
            exact ((List.Perm.cons one (pg.append_right t)).trans (List.Perm.swap _ _ _))
      · have c' : ¬(i : Int) < (G.length : Int) := by omega
        simp only [c', PDS, STD]
        refine ⟨by omega, ?_⟩
        have em : G.map bD ++ [bD one] = (G ++ [one]).map bD := by simp
        rw [em]
        refine ih (G ++ [one]) _ _ _ _ hD rfl rfl rfl y (fun c hc => hbt c (List.mem_cons_of_mem _ hc)) (fun c hc => ?_) (by rw [List.length_append]; simp; omega) (fun m hm => hJ m (.lperm ?_ hm)) WB hWB
        · rcases List.mem_append.mp hc with hc | hc
          · exact wG c hc
          · rw [List.mem_singleton.mp hc]; exact w1
        · rw [List.append_assoc]; exact (List.perm_middle (l₁ := G) (a := one) (l₂ := t)).symm
  have e0 : w_pushed_together = wSeq (wSet 1 (wLst wKn)) (wSeq (wFor (wSrc (wVar 0)) (wName 2) _) (wRet (wVar 1))) := rfl
  rw [e0]
  simp only [PDS, STD]
  refine go _ bs [] none none none none (fun m x2 x3 x4 x5 hm => ?_) rfl rfl rfl rfl hb (fun c hc => by cases hc) (by simp) (fun m hm => hm) _ rfl
  simp only [PDS, STD]
  exact q m hm
end PL
namespace PL
open PySem PySem.Spec PyProof.Rows L2
variable [HasT]
theorem inR_iff : ∀ (rs : List Rg) (ns : List Int), inR rs ns = true ↔ rs.length = ns.length ∧ ∀ (i : Nat) (r : Rg) (n : Int), rs[i]? = some r → ns[i]? = some n → r.1 ≤ n ∧ n ≤ r.2
  | [], [] => by simp [inR]
  | [], n :: ns => by simp [inR]
  | r :: rs, [] => by simp [inR]
  | r :: rs, n :: ns => by
    rw [inR, Bool.and_eq_true, inR_iff rs ns, decide_eq_true_iff]
    constructor
    · rintro ⟨h1, h2, h3⟩
      refine ⟨by simp [h2], fun i x m hx hm => ?_⟩
      cases i with
      | zero => simp at hx hm; subst hx hm; exact h1
      | succ i => exact h3 i x m (by simpa using hx) (by simpa using hm)
    · rintro ⟨h2, h3⟩
      exact ⟨h3 0 r n rfl rfl, by simpa using h2, fun i x m hx hm => h3 (i + 1) x m (by simpa using hx) (by simpa using hm)⟩
/-- the i-th number lies in the i-th range -/
def At (b : Bk) (p : Pk) (i : Nat) : Prop := ∀ (r : Rg) (n : Int), b.rs[i]? = some r → p.ns[i]? = some n → r.1 ≤ n ∧ n ≤ r.2
theorem hasP_iff {b : Bk} {p : Pk} : hasP b p = true ↔ b.k = p.k ∧ b.rs.length = 4 ∧ ∀ i, At b p i := by
  unfold hasP
  rw [Bool.and_eq_true, decide_eq_true_iff, inR_iff]
  rfl
theorem ns_at (p : Pk) {i : Nat} (h : i < 4) : ∃ n, p.ns[i]? = some n := ⟨p.ns[i]'h, List.getElem?_eq_getElem h⟩
theorem at_set {l : Bk} {p : Pk} {i j : Nat} {r : Rg} (h : j ≠ i) : At ⟨l.k, l.rs.set i r⟩ p j ↔ At l p j := by
  unfold At
  rw [show (⟨l.k, l.rs.set i r⟩ : Bk).rs[j]? = l.rs[j]? from List.getElem?_set_ne (Ne.symm h)]
theorem at_set_same {l : Bk} {p : Pk} {i : Nat} {r : Rg} {n : Int} (h : i < l.rs.length) (hn : p.ns[i]? = some n) : At ⟨l.k, l.rs.set i r⟩ p i ↔ r.1 ≤ n ∧ n ≤ r.2 := by
  unfold At
  rw [show (⟨l.k, l.rs.set i r⟩ : Bk).rs[i]? = some r from List.getElem?_set_self h, hn]
  exact ⟨fun h => h r n rfl rfl, fun h _ _ e1 e2 => by cases e1; cases e2; exact h⟩
theorem at_of {l : Bk} {p : Pk} {i : Nat} {r : Rg} {n : Int} (hr : l.rs[i]? = some r) (hn : p.ns[i]? = some n) : At l p i ↔ r.1 ≤ n ∧ n ≤ r.2 := by
  unfold At
  rw [hr, hn]
  exact ⟨fun h => h r n rfl rfl, fun h _ _ e1 e2 => by cases e1; cases e2; exact h⟩
/-- one range put otherwise -/
theorem has_set {l : Bk} {p : Pk} {i : Nat} {r r' : Rg} {n : Int} (hl : l.rs.length = 4) (hr : l.rs[i]? = some r) (hn : p.ns[i]? = some n) (hs : r'.1 ≤ n ∧ n ≤ r'.2 → r.1 ≤ n ∧ n ≤ r.2) :
    hasP ⟨l.k, l.rs.set i r'⟩ p = true ↔ hasP l p = true ∧ r'.1 ≤ n ∧ n ≤ r'.2 := by
  have hi : i < l.rs.length := (List.getElem?_eq_some_iff.mp hr).1
  rw [hasP_iff, hasP_iff]
  constructor
  · rintro ⟨h1, _, h3⟩
    have hx := (at_set_same hi hn).mp (h3 i)
    refine ⟨⟨h1, hl, fun j => ?_⟩, hx⟩
    by_cases hj : j = i
    · subst hj; exact (at_of hr hn).mpr (hs hx)
    · exact (at_set hj).mp (h3 j)
  · rintro ⟨⟨h1, _, h3⟩, hx⟩
    refine ⟨h1, by simpa using hl, fun j => ?_⟩
    by_cases hj : j = i
    · subst hj; exact (at_set_same hi hn).mpr hx
    · exact (at_set hj).mpr (h3 j)
theorem interR_in {r q : Rg} {n : Int} : ((interR r q).1 ≤ n ∧ n ≤ (interR r q).2) ↔ (r.1 ≤ n ∧ n ≤ r.2) ∧ (q.1 ≤ n ∧ n ≤ q.2) := by
  unfold interR
  dsimp only
  split <;> split <;> omega
theorem interR_ne {r q : Rg} (h : (interR r q).1 ≤ (interR r q).2) : r.1 ≤ r.2 ∧ q.1 ≤ q.2 ∧ r.1 ≤ q.2 ∧ q.1 ≤ r.2 := by
  unfold interR at h
  dsimp only at h
  split at h <;> split at h <;> omega
theorem memB_nil {p : Pk} : ¬memB [] p := fun ⟨_, h, _⟩ => by cases h
theorem memB_app {a b : List Bk} {p : Pk} : memB (a ++ b) p ↔ memB a p ∨ memB b p := by
  unfold memB
  constructor
  · rintro ⟨x, hx, h⟩
    rcases List.mem_append.mp hx with hx | hx
    · exact .inl ⟨x, hx, h⟩
    · exact .inr ⟨x, hx, h⟩
  · rintro (⟨x, hx, h⟩ | ⟨x, hx, h⟩)
    · exact ⟨x, List.mem_append_left _ hx, h⟩
    · exact ⟨x, List.mem_append_right _ hx, h⟩
theorem memB_cons {a : Bk} {b : List Bk} {p : Pk} : memB (a :: b) p ↔ hasP a p = true ∨ memB b p := by
  unfold memB
  simp
/-- what a cut of one range takes off -/
theorem mem_cutAt {l : Bk} {p : Pk} {i : Nat} {r q : Rg} {n : Int} (hl : l.rs.length = 4) (hr : l.rs[i]? = some r) (hn : p.ns[i]? = some n) (hx : (interR r q).1 ≤ (interR r q).2) :
    memB (cutAt l i r q) p ↔ hasP l p = true ∧ ¬(q.1 ≤ n ∧ n ≤ q.2) := by
  obtain ⟨h1, h2, h3, h4⟩ := interR_ne hx
  have key : hasP l p = true → r.1 ≤ n ∧ n ≤ r.2 := fun h => (at_of hr hn).mp ((hasP_iff.mp h).2.2 i)
  unfold cutAt
  rw [memB_app]
  constructor
  · rintro (h | h)
    · split at h
      · obtain ⟨x, hx, h⟩ := h
        rw [List.mem_singleton.mp hx, has_set hl hr hn (by dsimp only; omega)] at h
        dsimp only at h
        exact ⟨h.1, by omega⟩
      · exact (memB_nil h).elim
    · split at h
      · obtain ⟨x, hx, h⟩ := h
        rw [List.mem_singleton.mp hx, has_set hl hr hn (by dsimp only; omega)] at h
        dsimp only at h
        exact ⟨h.1, by omega⟩
      · exact (memB_nil h).elim
  · rintro ⟨h, hq⟩
    have hn2 := key h
    by_cases c : n < q.1
    · refine .inl ?_
      rw [if_pos (by omega)]
      exact ⟨_, List.mem_singleton.mpr rfl, (has_set hl hr hn (by dsimp only; omega)).mpr ⟨h, by dsimp only; omega⟩⟩
    · refine .inr ?_
      rw [if_pos (by omega)]
      exact ⟨_, List.mem_singleton.mpr rfl, (has_set hl hr hn (by dsimp only; omega)).mpr ⟨h, by dsimp only; omega⟩⟩
theorem cut_ap {l : Bk} {i : Nat} {r q : Rg} (hl : l.rs.length = 4) (hr : l.rs[i]? = some r) (hx : (interR r q).1 ≤ (interR r q).2) : (cutAt l i r q).Pairwise apart := by
  obtain ⟨h1, h2, h3, h4⟩ := interR_ne hx
  have hi : i < 4 := by rw [← hl]; exact (List.getElem?_eq_some_iff.mp hr).1
  unfold cutAt
  split
  · split
    · refine List.pairwise_append.mpr ⟨by simp, by simp, fun a ha b hb p hp => ?_⟩
      obtain ⟨n, hn⟩ := ns_at p hi
      rw [List.mem_singleton.mp ha, List.mem_singleton.mp hb, has_set hl hr hn (by dsimp only; omega), has_set hl hr hn (by dsimp only; omega)] at hp
      dsimp only at hp
      omega
    · simp
  · split <;> simp
theorem setL_len {l : Bk} {i : Nat} {r : Rg} : (⟨l.k, l.rs.set i r⟩ : Bk).rs.length = l.rs.length := by simp
/-- the ranges that are left to be cut meet -/
def Meets (l o : Bk) (is_ : List Nat) : Prop := ∀ i ∈ is_, ∀ (r q : Rg), l.rs[i]? = some r → o.rs[i]? = some q → (interR r q).1 ≤ (interR r q).2
theorem Meets.next {l o : Bk} {i : Nat} {is_ : List Nat} {r : Rg} (h : Meets l o (i :: is_)) (nd : (i :: is_).Nodup) : Meets ⟨l.k, l.rs.set i r⟩ o is_ := fun j hj r' q' h1 h2 => by
  have hne : j ≠ i := fun z => by subst z; exact (List.nodup_cons.mp nd).1 hj
  exact h j (List.mem_cons_of_mem _ hj) r' q' (by rw [← h1]; exact (List.getElem?_set_ne (Ne.symm hne)).symm) h2
theorem getR {b : Bk} (h : b.rs.length = 4) {i : Nat} (hi : i < 4) : ∃ r, b.rs[i]? = some r := ⟨b.rs[i]'(by omega), List.getElem?_eq_getElem _⟩
theorem splitL_cons {o l : Bk} {i : Nat} {is_ : List Nat} {acc : List Bk} {r q : Rg} (hr : l.rs[i]? = some r) (hq : o.rs[i]? = some q) : splitL o (i :: is_) l acc = splitL o is_ ⟨l.k, l.rs.set i (interR r q)⟩ (acc ++ cutAt l i r q) := by
  rw [splitL, hr, hq]
theorem has_next {l o : Bk} {p : Pk} {i : Nat} {r q : Rg} (hl : l.rs.length = 4) (hr : l.rs[i]? = some r) (hq : o.rs[i]? = some q) : hasP ⟨l.k, l.rs.set i (interR r q)⟩ p = true ↔ hasP l p = true ∧ At o p i := by
  have hi : i < 4 := by rw [← hl]; exact (List.getElem?_eq_some_iff.mp hr).1
  obtain ⟨n, hn⟩ := ns_at p hi
  rw [has_set hl hr hn (fun h => (interR_in.mp h).1), at_of hq hn, interR_in]
  exact ⟨fun ⟨a, _, b⟩ => ⟨a, b⟩, fun ⟨a, b⟩ => ⟨a, (at_of hr hn).mp ((hasP_iff.mp a).2.2 i), b⟩⟩
theorem mem_cut {l o : Bk} {p : Pk} {i : Nat} {r q : Rg} (hl : l.rs.length = 4) (hr : l.rs[i]? = some r) (hq : o.rs[i]? = some q) (hx : (interR r q).1 ≤ (interR r q).2) : memB (cutAt l i r q) p ↔ hasP l p = true ∧ ¬At o p i := by
  have hi : i < 4 := by rw [← hl]; exact (List.getElem?_eq_some_iff.mp hr).1
  obtain ⟨n, hn⟩ := ns_at p hi
  rw [mem_cutAt hl hr hn hx, at_of hq hn]
theorem splitL_mem {o : Bk} (ho : o.rs.length = 4) {p : Pk} : ∀ (is_ : List Nat) (l : Bk) (acc : List Bk), l.rs.length = 4 → (∀ i ∈ is_, i < 4) → is_.Nodup → Meets l o is_ →
    (memB (splitL o is_ l acc) p ↔ memB acc p ∨ (hasP l p = true ∧ ∃ i ∈ is_, ¬At o p i))
  | [], l, acc, _, _, _, _ => by simp [splitL]
  | i :: is_, l, acc, hl, h4, nd, hm => by
    obtain ⟨r, hr⟩ := getR hl (h4 i List.mem_cons_self)
    obtain ⟨q, hq⟩ := getR ho (h4 i List.mem_cons_self)
    have hx := hm i List.mem_cons_self r q hr hq
    rw [splitL_cons hr hq, splitL_mem ho is_ _ _ (by rw [setL_len]; exact hl) (fun j hj => h4 j (List.mem_cons_of_mem _ hj)) (List.nodup_cons.mp nd).2 (hm.next nd), memB_app, mem_cut hl hr hq hx, has_next hl hr hq]
    constructor
    · rintro ((h | ⟨h, k⟩) | ⟨⟨h, k⟩, j, hj, e⟩)
      · exact .inl h
      · exact .inr ⟨h, i, List.mem_cons_self, k⟩
      · exact .inr ⟨h, j, List.mem_cons_of_mem _ hj, e⟩
    · rintro (h | ⟨h, j, hj, e⟩)
      · exact .inl (.inl h)
      · rcases List.mem_cons.mp hj with rfl | hj
        · exact .inl (.inr ⟨h, e⟩)
        · by_cases c : At o p i
          · exact .inr ⟨⟨h, c⟩, j, hj, e⟩
          · exact .inl (.inr ⟨h, c⟩)
theorem splitL_ap {o : Bk} (ho : o.rs.length = 4) : ∀ (is_ : List Nat) (l : Bk) (acc : List Bk), l.rs.length = 4 → (∀ i ∈ is_, i < 4) → is_.Nodup → Meets l o is_ → acc.Pairwise apart → (∀ a ∈ acc, apart a l) → (splitL o is_ l acc).Pairwise apart
  | [], l, acc, _, _, _, _, h, _ => h
  | i :: is_, l, acc, hl, h4, nd, hm, ha, hal => by
    obtain ⟨r, hr⟩ := getR hl (h4 i List.mem_cons_self)
    obtain ⟨q, hq⟩ := getR ho (h4 i List.mem_cons_self)
    have hx := hm i List.mem_cons_self r q hr hq
    rw [splitL_cons hr hq]
    refine splitL_ap ho is_ _ _ (by rw [setL_len]; exact hl) (fun j hj => h4 j (List.mem_cons_of_mem _ hj)) (List.nodup_cons.mp nd).2 (hm.next nd) ?_ ?_
    · refine List.pairwise_append.mpr ⟨ha, cut_ap hl hr hx, fun a h1 b h2 p ⟨k1, k2⟩ => ?_⟩
      exact hal a h1 p ⟨k1, ((mem_cut hl hr hq hx).mp ⟨b, h2, k2⟩).1⟩
    · rintro a h1 p ⟨k1, k2⟩
      have k3 := (has_next hl hr hq).mp k2
      rcases List.mem_append.mp h1 with h1 | h1
      · exact hal a h1 p ⟨k1, k3.1⟩
      · exact ((mem_cut hl hr hq hx).mp ⟨a, h1, k1⟩).2 k3.2
/-- right, and in the grid -/
def Fine (G : Grid) (b : Bk) : Prop := bOk b ∧ inG G b
theorem Fine.set {G : Grid} {l : Bk} {i : Nat} {r : Rg} (h : Fine G l) (h1 : rgOk r) (h2 : onL (if i % 2 = 0 then G.xs else G.ys) r) : Fine G ⟨l.k, l.rs.set i r⟩ := by
  obtain ⟨⟨a1, a2, a3⟩, a4, a5⟩ := h
  refine ⟨⟨a1, by simpa using a2, fun x hx => ?_⟩, a4, fun j x hx => ?_⟩
  · rcases List.mem_or_eq_of_mem_set hx with hx | rfl
    · exact a3 x hx
    · exact h1
  · have hx' : (l.rs.set i r)[j]? = some x := hx
    by_cases hj : j = i
    · subst hj
      have hl : j < (l.rs.set j r).length := (List.getElem?_eq_some_iff.mp hx').1
      rw [List.getElem?_set_self (by simpa using hl)] at hx'
      cases hx'; exact h2
    · rw [List.getElem?_set_ne (Ne.symm hj)] at hx'
      exact a5 j x hx'
theorem Fine.rg {G : Grid} {l : Bk} {i : Nat} {r : Rg} (h : Fine G l) (e : l.rs[i]? = some r) : rgOk r ∧ onL (if i % 2 = 0 then G.xs else G.ys) r := ⟨h.1.2.2 r (List.mem_of_getElem? e), h.2.2 i r e⟩
theorem cut_fine {G : Grid} {l : Bk} {i : Nat} {r q : Rg} (h : Fine G l) (h1 : rgOk r) (h2 : rgOk q) (k1 : onL (if i % 2 = 0 then G.xs else G.ys) r) (k2 : onL (if i % 2 = 0 then G.xs else G.ys) q) (hx : (interR r q).1 ≤ (interR r q).2) : ∀ b ∈ cutAt l i r q, Fine G b := by
  obtain ⟨e1, e2, e3, e4⟩ := interR_ne hx
  obtain ⟨a1, a2, a3⟩ := h1
  obtain ⟨b1, b2, b3⟩ := h2
  intro b hb
  unfold cutAt at hb
  rcases List.mem_append.mp hb with hb | hb
  · split at hb
    · rw [List.mem_singleton.mp hb]
      exact h.set ⟨by dsimp only; omega, by dsimp only; omega, by dsimp only; omega⟩ ⟨k1.1, by dsimp only; rw [Int.sub_add_cancel]; exact k2.1⟩
    · cases hb
  · split at hb
    · rw [List.mem_singleton.mp hb]
      exact h.set ⟨by dsimp only; omega, by dsimp only; omega, by dsimp only; omega⟩ ⟨k2.2, k1.2⟩
    · cases hb
theorem inter_fine {G : Grid} {l : Bk} {i : Nat} {r q : Rg} (h : Fine G l) (h1 : rgOk r) (h2 : rgOk q) (k1 : onL (if i % 2 = 0 then G.xs else G.ys) r) (k2 : onL (if i % 2 = 0 then G.xs else G.ys) q) (hx : (interR r q).1 ≤ (interR r q).2) : Fine G ⟨l.k, l.rs.set i (interR r q)⟩ := by
  obtain ⟨a1, a2, a3⟩ := h1
  obtain ⟨b1, b2, b3⟩ := h2
  refine h.set ?_ ?_
  · unfold interR at hx ⊢
    dsimp only at hx ⊢
    refine ⟨?_, hx, ?_⟩
    · dsimp only; split <;> omega
    · dsimp only; split <;> omega
  · generalize (if i % 2 = 0 then G.xs else G.ys) = L at k1 k2 ⊢
    unfold interR
    refine ⟨?_, ?_⟩
    · dsimp only; split
      · exact k2.1
      · exact k1.1
    · dsimp only; split
      · exact k2.2
      · exact k1.2
theorem splitL_fine {G : Grid} {o : Bk} (ho : Fine G o) : ∀ (is_ : List Nat) (l : Bk) (acc : List Bk), (∀ i ∈ is_, i < 4) → is_.Nodup → Meets l o is_ → Fine G l → (∀ a ∈ acc, Fine G a) → ∀ a ∈ splitL o is_ l acc, Fine G a
  | [], l, acc, _, _, _, _, h => h
  | i :: is_, l, acc, h4, nd, hm, hl, ha => by
    obtain ⟨r, hr⟩ := getR hl.1.2.1 (h4 i List.mem_cons_self)
    obtain ⟨q, hq⟩ := getR ho.1.2.1 (h4 i List.mem_cons_self)
    have hx := hm i List.mem_cons_self r q hr hq
    rw [splitL_cons hr hq]
    refine splitL_fine ho is_ _ _ (fun j hj => h4 j (List.mem_cons_of_mem _ hj)) (List.nodup_cons.mp nd).2 (hm.next nd) (inter_fine hl (hl.rg hr).1 (ho.rg hq).1 (hl.rg hr).2 (ho.rg hq).2 hx) fun a h1 => ?_
    rcases List.mem_append.mp h1 with h1 | h1
    · exact ha a h1
    · exact cut_fine hl (hl.rg hr).1 (ho.rg hq).1 (hl.rg hr).2 (ho.rg hq).2 hx a h1
theorem metF_nil {b o : Bk} (h1 : b.rs.length = 4) (h2 : o.rs.length = 4) (h : metF b o = []) : ∀ p, ¬(hasP b p = true ∧ hasP o p = true) := by
  rintro p ⟨k1, k2⟩
  obtain ⟨a1, _, a3⟩ := hasP_iff.mp k1
  obtain ⟨b1, _, b3⟩ := hasP_iff.mp k2
  unfold metF at h
  rw [if_pos (a1.trans b1.symm)] at h
  dsimp only at h
  split at h
  · cases h
  · rename_i c
    refine c (List.all_eq_true.mpr fun r hr => ?_)
    obtain ⟨x, hx, rfl⟩ := List.mem_map.mp hr
    obtain ⟨i, hi⟩ := List.getElem?_of_mem hx
    have e1 : b.rs[i]? = some x.1 ∧ o.rs[i]? = some x.2 := by
      rw [List.getElem?_zip_eq_some] at hi; exact hi
    have hi4 : i < 4 := by rw [← h1]; exact (List.getElem?_eq_some_iff.mp e1.1).1
    obtain ⟨n, hn⟩ := ns_at p hi4
    have z1 := (at_of e1.1 hn).mp (a3 i)
    have z2 := (at_of e1.2 hn).mp (b3 i)
    have := interR_in.mpr ⟨z1, z2⟩
    rw [decide_eq_true_iff]; omega
theorem metF_one {b o c : Bk} (h1 : b.rs.length = 4) (h2 : o.rs.length = 4) (h : c ∈ metF b o) : b.k = o.k ∧ c = ⟨b.k, (b.rs.zip o.rs).map fun p => interR p.1 p.2⟩ ∧ ∀ (i : Nat) (r q : Rg), b.rs[i]? = some r → o.rs[i]? = some q → (interR r q).1 ≤ (interR r q).2 := by
  unfold metF at h
  split at h
  · rename_i e
    dsimp only at h
    split at h
    · rename_i a
      refine ⟨e, List.mem_singleton.mp h, fun i r q hr hq => ?_⟩
      have : ((b.rs.zip o.rs).map fun p => interR p.1 p.2)[i]? = some (interR r q) := by
        rw [List.getElem?_map, List.getElem?_zip_eq_some.mpr (show b.rs[i]? = some (r, q).1 ∧ o.rs[i]? = some (r, q).2 from ⟨hr, hq⟩)]; rfl
      exact of_decide_eq_true (List.all_eq_true.mp a _ (List.mem_of_getElem? this))
    · cases h
  · cases h
theorem metF_at {b o : Bk} {i : Nat} {x : Rg} (h : ((b.rs.zip o.rs).map fun p => interR p.1 p.2)[i]? = some x) : ∃ r q, b.rs[i]? = some r ∧ o.rs[i]? = some q ∧ x = interR r q := by
  rw [List.getElem?_map] at h
  cases e : (b.rs.zip o.rs)[i]? with
  | none => rw [e] at h; cases h
  | some y =>
    rw [e] at h
    cases h
    obtain ⟨e1, e2⟩ := List.getElem?_zip_eq_some.mp e
    exact ⟨y.1, y.2, e1, e2, rfl⟩
theorem metF_mem {b o : Bk} {p : Pk} (h1 : b.rs.length = 4) (h2 : o.rs.length = 4) : memB (metF b o) p ↔ hasP b p = true ∧ hasP o p = true := by
  cases hm : metF b o with
  | nil => exact ⟨fun h => (memB_nil h).elim, fun h => (metF_nil h1 h2 hm p h).elim⟩
  | cons c t =>
    have hc : c ∈ metF b o := by rw [hm]; exact List.mem_cons_self
    obtain ⟨e, ec, hx⟩ := metF_one h1 h2 hc
    have ht : t = [] := by
      unfold metF at hm
      rw [if_pos e] at hm
      dsimp only at hm
      split at hm
      · exact (List.cons.inj hm).2.symm
      · exact absurd hm (by simp)
    subst ht
    have hlen : c.rs.length = 4 := by rw [ec]; simp [h1, h2]
    rw [memB_cons, hasP_iff, hasP_iff, hasP_iff]
    constructor
    · rintro (⟨k1, k2, k3⟩ | h)
      · have : ∀ i, At b p i ∧ At o p i := fun i => by
          by_cases hi : i < 4
          · obtain ⟨n, hn⟩ := ns_at p hi
            obtain ⟨r, hr⟩ := getR h1 hi
            obtain ⟨q, hq⟩ := getR h2 hi
            have e3 : c.rs[i]? = some (interR r q) := by
              rw [ec]
              show ((b.rs.zip o.rs).map fun p => interR p.1 p.2)[i]? = _
              rw [List.getElem?_map, List.getElem?_zip_eq_some.mpr (show b.rs[i]? = some (r, q).1 ∧ o.rs[i]? = some (r, q).2 from ⟨hr, hq⟩)]; rfl
            rw [at_of hr hn, at_of hq hn]
            exact interR_in.mp ((at_of e3 hn).mp (k3 i))
          · exact ⟨fun r n hr _ => absurd (List.getElem?_eq_some_iff.mp hr).1 (by omega), fun r n hr _ => absurd (List.getElem?_eq_some_iff.mp hr).1 (by omega)⟩
        rw [ec] at k1
        exact ⟨⟨k1, h1, fun i => (this i).1⟩, e ▸ k1, h2, fun i => (this i).2⟩
      · exact (memB_nil h).elim
    · rintro ⟨⟨a1, _, a3⟩, b1, _, b3⟩
      refine .inl ⟨by rw [ec]; exact a1, hlen, fun i x n hx hn => ?_⟩
      rw [ec] at hx
      obtain ⟨r, q, hr, hq, rfl⟩ := metF_at hx
      exact interR_in.mpr ⟨a3 i r n hr hn, b3 i q n hq hn⟩
theorem metF_fine {G : Grid} {b o : Bk} (h1 : Fine G b) (h2 : Fine G o) : ∀ c ∈ metF b o, Fine G c := by
  intro c hc
  obtain ⟨e, ec, hx⟩ := metF_one h1.1.2.1 h2.1.2.1 hc
  rw [ec]
  have key : ∀ (i : Nat) (x : Rg), ((b.rs.zip o.rs).map fun p => interR p.1 p.2)[i]? = some x → rgOk x ∧ onL (if i % 2 = 0 then G.xs else G.ys) x := fun i x hi => by
    obtain ⟨r, q, hr, hq, rfl⟩ := metF_at hi
    have f := inter_fine h1 (h1.rg hr).1 (h2.rg hq).1 (h1.rg hr).2 (h2.rg hq).2 (hx i r q hr hq)
    exact f.rg (show (b.rs.set i (interR r q))[i]? = _ from List.getElem?_set_self (List.getElem?_eq_some_iff.mp hr).1)
  refine ⟨⟨h1.1.1, by simp [h1.1.2.1, h2.1.2.1], fun r hr => ?_⟩, h1.2.1, fun i r hr => (key i r hr).2⟩
  obtain ⟨i, hi⟩ := List.getElem?_of_mem hr
  exact (key i r hi).1
theorem splitF_cases {b o : Bk} (h1 : b.rs.length = 4) (h2 : o.rs.length = 4) : (splitF b o = [b] ∧ ∀ p, ¬(hasP b p = true ∧ hasP o p = true)) ∨ (splitF b o = splitL o [0, 1, 2, 3] b [] ∧ b.k = o.k ∧ Meets b o [0, 1, 2, 3]) := by
  unfold splitF
  cases hm : metF b o with
  | nil => exact .inl ⟨rfl, metF_nil h1 h2 hm⟩
  | cons c t =>
    obtain ⟨e, _, hx⟩ := metF_one h1 h2 (show c ∈ metF b o by rw [hm]; exact List.mem_cons_self)
    exact .inr ⟨rfl, e, fun i _ r q hr hq => hx i r q hr hq⟩
theorem lt4 : ∀ i ∈ [0, 1, 2, 3], i < 4 := by simp
theorem splitF_mem {b o : Bk} {p : Pk} (h1 : b.rs.length = 4) (h2 : o.rs.length = 4) : memB (splitF b o) p ↔ hasP b p = true ∧ ¬hasP o p = true := by
  rcases splitF_cases h1 h2 with ⟨e, h⟩ | ⟨e, ek, hm⟩
  · rw [e, memB_cons]
    exact ⟨fun h' => h'.elim (fun z => ⟨z, fun k => h p ⟨z, k⟩⟩) fun z => (memB_nil z).elim, fun z => .inl z.1⟩
  · rw [e, splitL_mem h2 _ _ _ h1 lt4 (by decide) hm]
    constructor
    · rintro (h | ⟨h, i, hi, k⟩)
      · exact (memB_nil h).elim
      · exact ⟨h, fun z => k ((hasP_iff.mp z).2.2 i)⟩
    · rintro ⟨h, k⟩
      refine .inr ⟨h, Classical.byContradiction fun z => k (hasP_iff.mpr ⟨ek ▸ (hasP_iff.mp h).1, h2, fun i => ?_⟩)⟩
      by_cases hi : i < 4
      · exact Classical.byContradiction fun y => z ⟨i, by simp; omega, y⟩
      · exact fun r n hr _ => absurd (List.getElem?_eq_some_iff.mp hr).1 (by omega)
theorem splitF_ap {b o : Bk} (h1 : b.rs.length = 4) (h2 : o.rs.length = 4) : (splitF b o).Pairwise apart := by
  rcases splitF_cases h1 h2 with ⟨e, h⟩ | ⟨e, ek, hm⟩
  · rw [e]; simp
  · rw [e]; exact splitL_ap h2 _ _ _ h1 lt4 (by decide) hm .nil (fun _ h => by cases h)
theorem splitF_fine {G : Grid} {b o : Bk} (h1 : Fine G b) (h2 : Fine G o) : ∀ c ∈ splitF b o, Fine G c := by
  rcases splitF_cases h1.1.2.1 h2.1.2.1 with ⟨e, h⟩ | ⟨e, ek, hm⟩
  · rw [e]; intro c hc; rw [List.mem_singleton.mp hc]; exact h1
  · rw [e]; exact splitL_fine h2 _ _ _ lt4 (by decide) hm h1 (fun _ h => by cases h)
theorem PS.fine {G : Grid} {l : List Bk} (h : PS G l) : ∀ b ∈ l, Fine G b := fun b hb => ⟨h.ok b hb, h.gr b hb⟩
theorem PS.mk' {G : Grid} {l : List Bk} (h : ∀ b ∈ l, Fine G b) (a : l.Pairwise apart) : PS G l := ⟨fun b hb => (h b hb).1, a, fun b hb => (h b hb).2⟩
theorem withoutF_con (b : Bk) (bs : List Bk) (o : Bk) : withoutF (b :: bs) o = splitF b o ++ withoutF bs o := rfl
theorem withoutF_mem {o : Bk} (ho : o.rs.length = 4) {p : Pk} : ∀ {bs : List Bk}, (∀ b ∈ bs, b.rs.length = 4) → (memB (withoutF bs o) p ↔ memB bs p ∧ ¬hasP o p = true)
  | [], _ => ⟨fun h => (memB_nil h).elim, fun h => (memB_nil h.1).elim⟩
  | b :: bs, h => by
    rw [withoutF_con, memB_app, memB_cons, splitF_mem (h b List.mem_cons_self) ho, withoutF_mem ho (fun c hc => h c (List.mem_cons_of_mem _ hc))]
    constructor
    · rintro (⟨a, c⟩ | ⟨a, c⟩)
      · exact ⟨.inl a, c⟩
      · exact ⟨.inr a, c⟩
    · rintro ⟨a | a, c⟩
      · exact .inl ⟨a, c⟩
      · exact .inr ⟨a, c⟩
theorem withoutF_ps {G : Grid} {o : Bk} (ho : Fine G o) : ∀ {bs : List Bk}, PS G bs → PS G (withoutF bs o)
  | [], h => h
  | b :: bs, h => by
    have f := h.fine
    have hb := f b List.mem_cons_self
    have ap := List.pairwise_cons.mp h.ap
    have hr : PS G bs := .mk' (fun c hc => f c (List.mem_cons_of_mem _ hc)) ap.2
    have ih := withoutF_ps ho hr
    have l4 : ∀ c ∈ bs, c.rs.length = 4 := fun c hc => (hr.ok c hc).2.1
    rw [withoutF_con]
    refine .mk' (fun c hc => ?_) (List.pairwise_append.mpr ⟨splitF_ap hb.1.2.1 ho.1.2.1, ih.ap, fun x hx y hy p ⟨k1, k2⟩ => ?_⟩)
    · rcases List.mem_append.mp hc with hc | hc
      · exact splitF_fine hb ho c hc
      · exact ih.fine c hc
    · have q1 := ((splitF_mem hb.1.2.1 ho.1.2.1).mp ⟨x, hx, k1⟩).1
      obtain ⟨⟨z, hz, q2⟩, _⟩ := (withoutF_mem ho.1.2.1 l4).mp ⟨y, hy, k2⟩
      exact ap.1 z hz p ⟨q1, q2⟩
end PL
namespace PL
open PySem PySem.Spec PyProof.Rows L2
variable [HasT]
theorem apart_comm {a b : Bk} (h : apart a b) : apart b a := fun p ⟨x, y⟩ => h p ⟨y, x⟩
theorem PS.nil {G : Grid} : PS G [] := .mk' (fun _ h => absurd h (by simp)) List.Pairwise.nil
theorem PS.perm {G : Grid} {l m : List Bk} (h : PS G l) (p : l.Perm m) : PS G m :=
  ⟨fun b hb => h.ok b (p.mem_iff.mpr hb), (p.pairwise_iff apart_comm).mp h.ap, fun b hb => h.gr b (p.mem_iff.mpr hb)⟩
theorem memB_perm {l m : List Bk} (p : l.Perm m) {q : Pk} : memB l q ↔ memB m q := by
  unfold memB
  constructor
  · rintro ⟨b, hb, h⟩; exact ⟨b, p.mem_iff.mp hb, h⟩
  · rintro ⟨b, hb, h⟩; exact ⟨b, p.mem_iff.mpr hb, h⟩
theorem filter_one {α : Type} [DecidableEq α] {l : List α} {p : α → Bool} {i : α} (h : l.filter p = [i]) : ∀ j ∈ l, j ≠ i → p j = false := by
  intro j hj hne
  cases e : p j with
  | false => rfl
  | true =>
    have : j ∈ l.filter p := List.mem_filter.mpr ⟨hj, e⟩
    rw [h] at this
    exact absurd (List.mem_singleton.mp this) hne
theorem sideF_spec {G : Grid} {a b c : Bk} (ha : Fine G a) (hb : Fine G b) (h : sideF a b = [c]) : Fine G c ∧ ∀ p, hasP c p = true ↔ hasP a p = true ∨ hasP b p = true := by
  unfold sideF at h
  split at h
  · rename_i ek
    split at h
    · rename_i i hf
      have hi4 : i < 4 := by
        have : i ∈ (List.range 4).filter (fun i => decide (a.rs[i]? ≠ b.rs[i]?)) := by rw [hf]; exact List.mem_singleton.mpr rfl
        simpa using (List.mem_filter.mp this).1
      have hne : ∀ j, j ≠ i → a.rs[j]? = b.rs[j]? := fun j hj => by
        by_cases h4 : j < 4
        · have := filter_one hf j (by simpa using h4) hj
          simpa using this
        · rw [List.getElem?_eq_none (by have := ha.1.2.1; omega), List.getElem?_eq_none (by have := hb.1.2.1; omega)]
      split at h
      · rename_i r q hr hq
        obtain ⟨f1, g1⟩ := ha.rg hr
        obtain ⟨f2, g2⟩ := hb.rg hq
        have hla := ha.1.2.1
        have hlb := hb.1.2.1
        have main : ∀ (lo hi : Rg), rgOk lo → rgOk hi → onL (if i % 2 = 0 then G.xs else G.ys) lo → onL (if i % 2 = 0 then G.xs else G.ys) hi → lo.2 + 1 = hi.1 → (∀ n : Int, (lo.1 ≤ n ∧ n ≤ lo.2) ∨ (hi.1 ≤ n ∧ n ≤ hi.2) ↔ (r.1 ≤ n ∧ n ≤ r.2) ∨ (q.1 ≤ n ∧ n ≤ q.2)) →
            c = ⟨a.k, a.rs.set i (lo.1, hi.2)⟩ → Fine G c ∧ ∀ p, hasP c p = true ↔ hasP a p = true ∨ hasP b p = true := by
          intro lo hi o1 o2 k1 k2 hz hn ec
          obtain ⟨x1, x2, x3⟩ := o1
          obtain ⟨y1, y2, y3⟩ := o2
          subst ec
          refine ⟨ha.set ⟨x1, by dsimp only; omega, y3⟩ ⟨k1.1, k2.2⟩, fun p => ?_⟩
          obtain ⟨n, en⟩ := ns_at p hi4
          have hj : n ∈ [n] := List.mem_singleton.mpr rfl
          have hN := hn n
          have hil : i < a.rs.length := by omega
          have hc : hasP ⟨a.k, a.rs.set i (lo.1, hi.2)⟩ p = true ↔ a.k = p.k ∧ (lo.1 ≤ n ∧ n ≤ hi.2) ∧ ∀ j, j ≠ i → At a p j := by
            rw [hasP_iff]
            constructor
            · rintro ⟨z1, z2, z3⟩
              exact ⟨z1, (at_set_same hil en).mp (z3 i), fun j hj => (at_set hj).mp (z3 j)⟩
            · rintro ⟨z1, z2, z3⟩
              refine ⟨z1, by simpa using hla, fun j => ?_⟩
              by_cases hj : j = i
              · subst hj; exact (at_set_same hil en).mpr z2
              · exact (at_set hj).mpr (z3 j hj)
          have hA : hasP a p = true ↔ a.k = p.k ∧ (r.1 ≤ n ∧ n ≤ r.2) ∧ ∀ j, j ≠ i → At a p j := by
            rw [hasP_iff]
            constructor
            · rintro ⟨z1, z2, z3⟩
              exact ⟨z1, (at_of hr en).mp (z3 i), fun j hj => z3 j⟩
            · rintro ⟨z1, z2, z3⟩
              refine ⟨z1, hla, fun j => ?_⟩
              by_cases hj : j = i
              · subst hj; exact (at_of hr en).mpr z2
              · exact z3 j hj
          have hB : hasP b p = true ↔ a.k = p.k ∧ (q.1 ≤ n ∧ n ≤ q.2) ∧ ∀ j, j ≠ i → At a p j := by
            rw [hasP_iff, ← ek]
            constructor
            · rintro ⟨z1, z2, z3⟩
              exact ⟨z1, (at_of hq en).mp (z3 i), fun j hj x m hx hm => z3 j x m (by rw [← hne j hj]; exact hx) hm⟩
            · rintro ⟨z1, z2, z3⟩
              refine ⟨z1, hlb, fun j => ?_⟩
              by_cases hj : j = i
              · subst hj; exact (at_of hq en).mpr z2
              · exact fun x m hx hm => z3 j hj x m (by rw [hne j hj]; exact hx) hm
          rw [hc, hA, hB]
          have hN' : lo.1 ≤ n ∧ n ≤ hi.2 ↔ (r.1 ≤ n ∧ n ≤ r.2) ∨ (q.1 ≤ n ∧ n ≤ q.2) := by rw [← hN]; omega
          rw [hN']
          constructor
          · rintro ⟨z1, z2 | z2, z3⟩
            · exact .inl ⟨z1, z2, z3⟩
            · exact .inr ⟨z1, z2, z3⟩
          · rintro (⟨z1, z2, z3⟩ | ⟨z1, z2, z3⟩)
            · exact ⟨z1, .inl z2, z3⟩
            · exact ⟨z1, .inr z2, z3⟩
        dsimp only at h
        by_cases cc : q.1 < r.1 ∨ (q.1 = r.1 ∧ q.2 < r.2)
        · rw [if_pos cc, if_pos cc] at h
          split at h
          · rename_i hz
            exact main q r f2 f1 g2 g1 hz (fun n => ⟨fun z => z.symm, fun z => z.symm⟩) (List.cons.inj h).1.symm
          · cases h
        · rw [if_neg cc, if_neg cc] at h
          split at h
          · rename_i hz
            exact main r q f1 f2 g1 g2 hz (fun n => Iff.rfl) (List.cons.inj h).1.symm
          · cases h
      · cases h
    · cases h
  · cases h
theorem Joins.ps {G : Grid} {l m : List Bk} (h : Joins l m) : PS G l → PS G m ∧ ∀ p, memB m p ↔ memB l p := by
  induction h with
  | perm p => exact fun z => ⟨z.perm p, fun q => (memB_perm p).symm⟩
  | @join l t m a b c p s j ih =>
    intro z
    have z2 := z.perm p
    have f := z2.fine
    obtain ⟨fc, hc⟩ := sideF_spec (f a (by simp)) (f b (by simp)) s
    have ap1 := List.pairwise_cons.mp z2.ap
    have ap2 := List.pairwise_cons.mp ap1.2
    have zt : PS G (c :: t) := by
      refine .mk' (fun x hx => ?_) (List.pairwise_cons.mpr ⟨fun x hx q ⟨k1, k2⟩ => ?_, ap2.2⟩)
      · rcases List.mem_cons.mp hx with rfl | hx
        · exact fc
        · exact f x (by simp [hx])
      · rcases (hc q).mp k1 with k1 | k1
        · exact ap1.1 x (by simp [hx]) q ⟨k1, k2⟩
        · exact ap2.1 x hx q ⟨k1, k2⟩
    obtain ⟨i1, i2⟩ := ih zt
    refine ⟨i1, fun q => ?_⟩
    rw [i2, memB_perm p, memB_cons, memB_cons, memB_cons, hc, or_assoc]
def low (b : Bk) : Pk := ⟨b.k, ((b.rs[0]?).getD (0, 0)).1, ((b.rs[1]?).getD (0, 0)).1, ((b.rs[2]?).getD (0, 0)).1, ((b.rs[3]?).getD (0, 0)).1⟩
theorem four {α : Type} {l : List α} (h : l.length = 4) : ∃ a b c d, l = [a, b, c, d] := by
  match l, h with
  | [a, b, c, d], _ => exact ⟨a, b, c, d, rfl⟩
theorem has_low {b : Bk} (h : bOk b) : hasP b (low b) = true := by
  obtain ⟨k, rs⟩ := b
  obtain ⟨_, h2, h3⟩ := h
  obtain ⟨r0, r1, r2, r3, rfl⟩ := four h2
  have a0 := h3 r0 (by simp); have a1 := h3 r1 (by simp); have a2 := h3 r2 (by simp); have a3 := h3 r3 (by simp)
  simp [hasP, low, Pk.ns, inR, a0.2.1, a1.2.1, a2.2.1, a3.2.1]
theorem lowP_eq {b : Bk} (h : b.rs.length = 4) : lowP b = some (low b) := by
  obtain ⟨k, rs⟩ := b
  obtain ⟨r0, r1, r2, r3, rfl⟩ := four h
  rfl
def cube (ks : List Str) (xs ys : List Int) : List Pk := ks.flatMap fun k => xs.flatMap fun a => ys.flatMap fun b => xs.flatMap fun c => ys.map fun d => ⟨k, a, b, c, d⟩
theorem len_flat {α β : Type} {f : α → List β} {n : Nat} (h : ∀ a, (f a).length = n) : ∀ l : List α, (l.flatMap f).length = l.length * n
  | [] => by simp
  | a :: l => by
    rw [List.flatMap_cons, List.length_append, h, len_flat h l, List.length_cons, Nat.add_mul]; omega
theorem len_cube (ks : List Str) (xs ys : List Int) : (cube ks xs ys).length = ks.length * (xs.length * (ys.length * (xs.length * ys.length))) := by
  unfold cube
  refine len_flat (fun k => len_flat (fun a => len_flat (fun b => len_flat (fun c => by simp) xs) ys) xs) ks
theorem mem_cube {ks : List Str} {xs ys : List Int} {p : Pk} : p ∈ cube ks xs ys ↔ p.k ∈ ks ∧ p.a ∈ xs ∧ p.b ∈ ys ∧ p.c ∈ xs ∧ p.d ∈ ys := by
  unfold cube
  simp only [List.mem_flatMap, List.mem_map]
  constructor
  · rintro ⟨k, hk, a, ha, b, hb, c, hc, d, hd, rfl⟩
    exact ⟨hk, ha, hb, hc, hd⟩
  · rintro ⟨hk, ha, hb, hc, hd⟩
    exact ⟨_, hk, _, ha, _, hb, _, hc, _, hd, rfl⟩
theorem nodup_len {α : Type} : ∀ {l m : List α}, l.Nodup → (∀ a ∈ l, a ∈ m) → l.length ≤ m.length
  | [], _, _, _ => Nat.zero_le _
  | a :: l, m, h, s => by
    obtain ⟨m1, m2, rfl⟩ := List.append_of_mem (s a List.mem_cons_self)
    have h2 := List.nodup_cons.mp h
    have := nodup_len (m := m1 ++ m2) h2.2 (fun x hx => by
      have hne : x ≠ a := fun z => by subst z; exact h2.1 hx
      have := s x (List.mem_cons_of_mem _ hx)
      rcases List.mem_append.mp this with z | z
      · exact List.mem_append_left _ z
      · rcases List.mem_cons.mp z with z | z
        · exact absurd z hne
        · exact List.mem_append_right _ z)
    simp at this ⊢
    omega
theorem low_in {G : Grid} {b : Bk} (h : Fine G b) : low b ∈ cube G.ks G.xs G.ys := by
  obtain ⟨k, rs⟩ := b
  obtain ⟨⟨h1, h2, h3⟩, g1, g2⟩ := h
  obtain ⟨r0, r1, r2, r3, rfl⟩ := four h2
  exact mem_cube.mpr ⟨g1, (g2 0 r0 rfl).1, (g2 1 r1 rfl).1, (g2 2 r2 rfl).1, (g2 3 r3 rfl).1⟩
theorem low_nodup : ∀ {l : List Bk}, (∀ b ∈ l, bOk b) → l.Pairwise apart → (l.map low).Nodup
  | [], _, _ => List.nodup_nil
  | b :: l, h, a => by
    have a2 := List.pairwise_cons.mp a
    refine List.nodup_cons.mpr ⟨fun hm => ?_, low_nodup (fun c hc => h c (List.mem_cons_of_mem _ hc)) a2.2⟩
    obtain ⟨c, hc, e⟩ := List.mem_map.mp hm
    exact a2.1 c hc (low b) ⟨has_low (h b List.mem_cons_self), by rw [← e]; exact has_low (h c (List.mem_cons_of_mem _ hc))⟩
theorem PS.len {G : Grid} {l : List Bk} (hG : G.ok) (h : PS G l) : l.length ≤ 8388608 := by
  have := nodup_len (low_nodup h.ok h.ap) (m := cube G.ks G.xs G.ys) (fun p hp => by
    obtain ⟨b, hb, rfl⟩ := List.mem_map.mp hp
    exact low_in (h.fine b hb))
  rw [List.length_map, len_cube] at this
  unfold Grid.ok at hG
  have e : G.xs.length * (G.ys.length * (G.xs.length * G.ys.length)) = G.xs.length * G.xs.length * (G.ys.length * G.ys.length) := by
    rw [Nat.mul_assoc, Nat.mul_left_comm G.ys.length]
  rw [e] at this
  omega
theorem PS.line {G : Grid} {l : List Bk} (hG : G.ok) (h : PS G l) : l.length ≤ sizeLine := by
  have := h.len hG
  have := sizeLine_eq
  omega
theorem PS.app {G : Grid} {a b : List Bk} (ha : PS G a) (hb : PS G b) (h : ∀ p, ¬(memB a p ∧ memB b p)) : PS G (a ++ b) := by
  refine .mk' (fun x hx => ?_) (List.pairwise_append.mpr ⟨ha.ap, hb.ap, fun x hx y hy p ⟨k1, k2⟩ => h p ⟨⟨x, hx, k1⟩, ⟨y, hy, k2⟩⟩⟩)
  rcases List.mem_append.mp hx with hx | hx
  · exact ha.fine x hx
  · exact hb.fine x hx
theorem PS.one {G : Grid} {b : Bk} (h : Fine G b) : PS G [b] := .mk' (fun x hx => by rw [List.mem_singleton.mp hx]; exact h) (by simp)
theorem PS.len4 {G : Grid} {l : List Bk} (h : PS G l) : ∀ b ∈ l, b.rs.length = 4 := fun b hb => (h.ok b hb).2.1
theorem PS.well {G : Grid} {l : List Bk} (h : PS G l) : ∀ b ∈ l, bWell b := fun b hb => bOk.well (h.ok b hb)
theorem turnB_has {b : Bk} {p : Pk} (h : b.rs.length = 4) : hasP (turnB b) p = hasP b (turnP p) := by
  obtain ⟨k, rs⟩ := b
  obtain ⟨r0, r1, r2, r3, rfl⟩ := four h
  simp only [turnB, hasP, turnP, Pk.ns, inR, Bool.and_true]
  rw [Bool.eq_iff_iff]
  simp only [Bool.and_eq_true]
  constructor <;> (rintro ⟨a, b, c, d, e⟩; exact ⟨a, d, e, b, c⟩)
theorem turnB_fine {G : Grid} {b : Bk} (h : Fine G b) : Fine G (turnB b) := by
  obtain ⟨k, rs⟩ := b
  obtain ⟨⟨h1, h2, h3⟩, g1, g2⟩ := h
  obtain ⟨r0, r1, r2, r3, rfl⟩ := four h2
  refine ⟨⟨h1, rfl, fun r hr => ?_⟩, g1, fun i r hi => ?_⟩
  · refine h3 r ?_
    have : r ∈ [r2, r3, r0, r1] := hr
    simp at this ⊢
    rcases this with z | z | z | z <;> simp [z]
  · have hi' : [r2, r3, r0, r1][i]? = some r := hi
    match i, hi' with
    | 0, e => cases e; exact g2 2 r2 rfl
    | 1, e => cases e; exact g2 3 r3 rfl
    | 2, e => cases e; exact g2 0 r0 rfl
    | 3, e => cases e; exact g2 1 r1 rfl
theorem turnL_mem {l : List Bk} {p : Pk} (h : ∀ b ∈ l, b.rs.length = 4) : memB (l.map turnB) p ↔ memB l (turnP p) := by
  unfold memB
  constructor
  · rintro ⟨b, hb, k⟩
    obtain ⟨c, hc, rfl⟩ := List.mem_map.mp hb
    exact ⟨c, hc, by rw [← turnB_has (h c hc)]; exact k⟩
  · rintro ⟨b, hb, k⟩
    exact ⟨turnB b, List.mem_map_of_mem hb, by rw [turnB_has (h b hb)]; exact k⟩
def metL (a b : List Bk) : List Bk := a.flatMap fun x => b.flatMap fun y => metF x y
theorem metL_mem {a b : List Bk} {p : Pk} (ha : ∀ x ∈ a, x.rs.length = 4) (hb : ∀ x ∈ b, x.rs.length = 4) : memB (metL a b) p ↔ memB a p ∧ memB b p := by
  unfold metL memB
  constructor
  · rintro ⟨c, hc, k⟩
    obtain ⟨x, hx, hc⟩ := List.mem_flatMap.mp hc
    obtain ⟨y, hy, hc⟩ := List.mem_flatMap.mp hc
    have := (metF_mem (ha x hx) (hb y hy)).mp ⟨c, hc, k⟩
    exact ⟨⟨x, hx, this.1⟩, y, hy, this.2⟩
  · rintro ⟨⟨x, hx, k1⟩, y, hy, k2⟩
    obtain ⟨c, hc, k⟩ := (metF_mem (p := p) (ha x hx) (hb y hy)).mpr ⟨k1, k2⟩
    exact ⟨c, List.mem_flatMap.mpr ⟨x, hx, List.mem_flatMap.mpr ⟨y, hy, hc⟩⟩, k⟩
end PL
namespace PL
open PySem PySem.Spec PyProof.Rows L2
variable [HasT]
/-- the sum of what each member gives -/
def sumI {α : Type} (l : List α) (f : α → Int) : Int := (l.map f).sum
theorem sumI_nil {α : Type} (f : α → Int) : sumI [] f = 0 := rfl
theorem sumI_cons {α : Type} (a : α) (l : List α) (f : α → Int) : sumI (a :: l) f = f a + sumI l f := by simp [sumI]
theorem sumI_add {α : Type} (f g : α → Int) : ∀ l : List α, sumI l (fun a => f a + g a) = sumI l f + sumI l g
  | [] => rfl
  | a :: l => by rw [sumI_cons, sumI_cons, sumI_cons, sumI_add f g l]; omega
theorem sumI_congr {α : Type} {f g : α → Int} : ∀ {l : List α}, (∀ a ∈ l, f a = g a) → sumI l f = sumI l g
  | [], _ => rfl
  | a :: l, h => by rw [sumI_cons, sumI_cons, h a List.mem_cons_self, sumI_congr fun b hb => h b (List.mem_cons_of_mem _ hb)]
theorem sumI_mul {α : Type} (f : α → Int) (X : Int) : ∀ l : List α, sumI l (fun a => f a * X) = sumI l f * X
  | [] => by rw [sumI_nil, sumI_nil, Int.zero_mul]
  | a :: l => by rw [sumI_cons, sumI_cons, sumI_mul f X l, Int.add_mul]
theorem sumI_app {α : Type} (f : α → Int) : ∀ l m : List α, sumI (l ++ m) f = sumI l f + sumI m f
  | [], m => by rw [List.nil_append, sumI_nil, Int.zero_add]
  | a :: l, m => by rw [List.cons_append, sumI_cons, sumI_cons, sumI_app f l m]; omega
theorem sumI_flat {α β : Type} (g : α → List β) (f : β → Int) : ∀ l : List α, sumI (l.flatMap g) f = sumI l fun a => sumI (g a) f
  | [] => rfl
  | a :: l => by rw [List.flatMap_cons, sumI_app, sumI_cons, sumI_flat g f l]
theorem sumI_map {α β : Type} (g : α → β) (f : β → Int) (l : List α) : sumI (l.map g) f = sumI l fun a => f (g a) := by simp [sumI, Function.comp_def]
theorem sumI_zero {α : Type} : ∀ l : List α, sumI l (fun _ => 0) = 0
  | [] => rfl
  | a :: l => by rw [sumI_cons, sumI_zero l]; rfl
def ind (b : Bool) : Int := if b = true then 1 else 0
theorem ind_and (a b : Bool) : ind (a && b) = ind a * ind b := by cases a <;> cases b <;> rfl
def nums : List Int := (List.range 256).map fun i : Nat => (i : Int)
def univ : List Pk := cube ["ask", "tell"] nums nums
def cnt (f : Pk → Bool) : Int := sumI univ fun p => ind (f p)
theorem rng_cnt (lo hi : Int) (h0 : 0 ≤ lo) (h1 : lo ≤ hi) : ∀ n : Nat, sumI (List.range n) (fun i => ind (decide (lo ≤ (i : Int) ∧ (i : Int) ≤ hi))) = (if (n : Int) ≤ lo then 0 else if (n : Int) ≤ hi + 1 then n - lo else hi + 1 - lo)
  | 0 => by
    rw [List.range_zero, sumI_nil, if_pos (by omega)]
  | n + 1 => by
    rw [List.range_succ, sumI_app, rng_cnt lo hi h0 h1 n, sumI_cons, sumI_nil]
    have ei : ind (decide (lo ≤ (n : Int) ∧ (n : Int) ≤ hi)) = if lo ≤ (n : Int) ∧ (n : Int) ≤ hi then 1 else 0 := by
      unfold ind
      by_cases c : lo ≤ (n : Int) ∧ (n : Int) ≤ hi
      · rw [if_pos c, if_pos (decide_eq_true c)]
      · rw [if_neg c, if_neg (by simpa using c)]
    rw [ei]
    rw [show ((n + 1 : Nat) : Int) = (n : Int) + 1 by omega]
    generalize (n : Int) = z
    by_cases c1 : z ≤ lo
    · rw [if_pos c1]
      by_cases c2 : z = lo
      · rw [if_pos (by omega), if_neg (by omega), if_pos (by omega)]; omega
      · rw [if_neg (by omega), if_pos (by omega)]; rfl
    · rw [if_neg c1]
      by_cases c2 : z ≤ hi
      · rw [if_pos (by omega), if_pos (by omega), if_neg (by omega), if_pos (by omega)]; omega
      · by_cases c3 : z ≤ hi + 1
        · rw [if_pos c3, if_neg (by omega), if_neg (by omega), if_neg (by omega)]; omega
        · rw [if_neg c3, if_neg (by omega), if_neg (by omega), if_neg (by omega)]; omega
theorem rg_cnt {r : Rg} (h : rgOk r) : sumI nums (fun n => ind (decide (r.1 ≤ n ∧ n ≤ r.2))) = r.2 - r.1 + 1 := by
  obtain ⟨h0, h1, h2⟩ := h
  unfold nums
  rw [sumI_map, rng_cnt r.1 r.2 h0 h1]
  rw [if_neg (by omega)]
  split <;> omega
theorem vol_cnt {b : Bk} (h : bOk b) (hk : b.k = "ask" ∨ b.k = "tell") : cnt (hasP b) = volF b := by
  obtain ⟨k, rs⟩ := b
  obtain ⟨_, h2, h3⟩ := h
  obtain ⟨r0, r1, r2, r3, rfl⟩ := four h2
  have a0 := rg_cnt (h3 r0 (by simp)); have a1 := rg_cnt (h3 r1 (by simp)); have a2 := rg_cnt (h3 r2 (by simp)); have a3 := rg_cnt (h3 r3 (by simp))
  unfold cnt univ cube
  rw [sumI_flat]
  have e : ∀ k' : Str, sumI (nums.flatMap fun a => nums.flatMap fun b => nums.flatMap fun c => nums.map fun d => (⟨k', a, b, c, d⟩ : Pk)) (fun p => ind (hasP ⟨k, [r0, r1, r2, r3]⟩ p)) = ind (decide (k = k')) * ((r0.2 - r0.1 + 1) * ((r1.2 - r1.1 + 1) * ((r2.2 - r2.1 + 1) * (r3.2 - r3.1 + 1)))) := by
    intro k'
    rw [sumI_flat]
    have e1 : ∀ a b c : Int, sumI (nums.map fun d => (⟨k', a, b, c, d⟩ : Pk)) (fun p => ind (hasP ⟨k, [r0, r1, r2, r3]⟩ p)) = (ind (decide (r3.1 ≤ r3.1)) * 0 + (r3.2 - r3.1 + 1)) * (ind (decide (k = k')) * (ind (decide (r0.1 ≤ a ∧ a ≤ r0.2)) * (ind (decide (r1.1 ≤ b ∧ b ≤ r1.2)) * ind (decide (r2.1 ≤ c ∧ c ≤ r2.2))))) := by
      intro a b c
      rw [sumI_map, Int.mul_zero, Int.zero_add, ← a3, ← sumI_mul]
      refine sumI_congr fun d _ => ?_
      simp only [hasP, Pk.ns, inR, Bool.and_true, ind_and]
      rw [Int.mul_comm (ind (decide (r3.1 ≤ d ∧ d ≤ r3.2)))]
      simp only [Int.mul_assoc]
    have e2 : ∀ a b : Int, sumI (nums.flatMap fun c => nums.map fun d => (⟨k', a, b, c, d⟩ : Pk)) (fun p => ind (hasP ⟨k, [r0, r1, r2, r3]⟩ p)) = (r2.2 - r2.1 + 1) * ((r3.2 - r3.1 + 1) * (ind (decide (k = k')) * (ind (decide (r0.1 ≤ a ∧ a ≤ r0.2)) * ind (decide (r1.1 ≤ b ∧ b ≤ r1.2))))) := by
      intro a b
      rw [sumI_flat, ← a2, ← sumI_mul]
      refine sumI_congr fun c _ => ?_
      rw [e1, Int.mul_zero, Int.zero_add]
      generalize ind (decide (r2.1 ≤ c ∧ c ≤ r2.2)) = z
      generalize ind (decide (r1.1 ≤ b ∧ b ≤ r1.2)) = y
      generalize ind (decide (r0.1 ≤ a ∧ a ≤ r0.2)) = x
      generalize ind (decide (k = k')) = v
      rw [← Int.mul_assoc x y z, ← Int.mul_assoc v (x * y) z, ← Int.mul_assoc _ _ z, Int.mul_comm _ z]
    have e3 : ∀ a : Int, sumI (nums.flatMap fun b => nums.flatMap fun c => nums.map fun d => (⟨k', a, b, c, d⟩ : Pk)) (fun p => ind (hasP ⟨k, [r0, r1, r2, r3]⟩ p)) = (r1.2 - r1.1 + 1) * ((r2.2 - r2.1 + 1) * ((r3.2 - r3.1 + 1) * (ind (decide (k = k')) * ind (decide (r0.1 ≤ a ∧ a ≤ r0.2))))) := by
      intro a
      rw [sumI_flat, ← a1, ← sumI_mul]
      refine sumI_congr fun b _ => ?_
      rw [e2]
      generalize ind (decide (r1.1 ≤ b ∧ b ≤ r1.2)) = y
      generalize ind (decide (r0.1 ≤ a ∧ a ≤ r0.2)) = x
      generalize ind (decide (k = k')) = v
      generalize (r2.2 - r2.1 + 1) = s
      generalize (r3.2 - r3.1 + 1) = t
      rw [← Int.mul_assoc v x y, ← Int.mul_assoc t _ y, ← Int.mul_assoc s _ y, Int.mul_comm _ y]
    rw [show ind (decide (k = k')) * ((r0.2 - r0.1 + 1) * ((r1.2 - r1.1 + 1) * ((r2.2 - r2.1 + 1) * (r3.2 - r3.1 + 1)))) = (r0.2 - r0.1 + 1) * (ind (decide (k = k')) * ((r1.2 - r1.1 + 1) * ((r2.2 - r2.1 + 1) * (r3.2 - r3.1 + 1)))) from Int.mul_left_comm _ _ _, ← a0, ← sumI_mul]
    refine sumI_congr fun a _ => ?_
    rw [e3]
    generalize ind (decide (r0.1 ≤ a ∧ a ≤ r0.2)) = x
    generalize ind (decide (k = k')) = v
    generalize (r1.2 - r1.1 + 1) = s
    generalize (r2.2 - r2.1 + 1) = t
    generalize (r3.2 - r3.1 + 1) = u
    rw [← Int.mul_assoc u v x, ← Int.mul_assoc t _ x, ← Int.mul_assoc s _ x, Int.mul_comm _ x]
    congr 1
    rw [Int.mul_comm u v, Int.mul_left_comm t v u, Int.mul_left_comm s v]
  rw [sumI_cons, sumI_cons, sumI_nil, e, e]
  have hv : volF ⟨k, [r0, r1, r2, r3]⟩ = (r0.2 - r0.1 + 1) * ((r1.2 - r1.1 + 1) * ((r2.2 - r2.1 + 1) * (r3.2 - r3.1 + 1))) := by
    simp only [volF, List.map_cons, List.map_nil, List.foldl_cons, List.foldl_nil, Int.one_mul, Int.mul_assoc]
  rw [hv]
  have hk' : k = "ask" ∨ k = "tell" := hk
  have ne : ¬(("ask" : Str) = "tell") := by decide
  have ne' : ¬(("tell" : Str) = "ask") := by decide
  rcases hk' with rfl | rfl
  · rw [decide_eq_true rfl, decide_eq_false ne]
    simp [ind]
  · rw [decide_eq_true rfl, decide_eq_false ne']
    simp [ind]
/-- whether a set has a packet -/
def memT (l : List Bk) (p : Pk) : Bool := l.any fun b => hasP b p
theorem memT_iff {l : List Bk} {p : Pk} : memT l p = true ↔ memB l p := by
  unfold memT memB
  rw [List.any_eq_true]
def ksAT (G : Grid) : Prop := ∀ k ∈ G.ks, k = "ask" ∨ k = "tell"
theorem PS.vol {G : Grid} (hk : ksAT G) : ∀ {l : List Bk}, PS G l → (l.map volF).sum = cnt (memT l)
  | [], _ => by
    show (0 : Int) = sumI univ fun _ => ind false
    rw [show (fun _ : Pk => ind false) = fun _ => 0 from rfl, sumI_zero]
  | b :: l, h => by
    have ap := List.pairwise_cons.mp h.ap
    have hl : PS G l := .mk' (fun c hc => h.fine c (List.mem_cons_of_mem _ hc)) ap.2
    have hb := h.fine b List.mem_cons_self
    rw [List.map_cons, List.sum_cons, PS.vol hk hl, ← vol_cnt hb.1 (hk _ hb.2.1)]
    unfold cnt
    rw [← sumI_add]
    refine sumI_congr fun p _ => ?_
    have e : memT (b :: l) p = (hasP b p || memT l p) := rfl
    rw [e]
    cases h1 : hasP b p with
    | false => simp [ind]
    | true =>
      have : memT l p = false := by
        cases h2 : memT l p with
        | false => rfl
        | true =>
          obtain ⟨c, hc, k⟩ := memT_iff.mp h2
          exact absurd ⟨h1, k⟩ (ap.1 c hc p)
      rw [this]
      rfl
end PL
namespace PL
open PySem PySem.Spec PyProof.Rows L2
variable [HasT]
theorem sp_disjoint : Kp w_disjoint 1 5 fs_disjoint := by
  rintro args Qp Ep ⟨G, bs, d, rfl, hd, hG, hok, hgr, q⟩
  refine ⟨rfl, ?_⟩
  have hf : ∀ b ∈ bs, Fine G b := fun b hb => ⟨hok b hb, hgr b hb⟩
  have main : ∀ Dp : PEnds, (∀ F x2 x3 x4, PS G F → (∀ p, memB F p ↔ memB bs p) → Dp.nx [some (.val d), some (.own false (.lst (F.map bD))), x2, x3, x4]) →
      wForL (wName 2) (wSeq (wSet 3 (wLst (wKc (wVar 2) (wKn)))) (wSeq (wFor (wSrc (wVar 1)) (wName 4) (wSet 3 (wCallF fs_without_block [] (wVk (wVar 3) (wVk (wVar 4) (wVn)))))) (wSet 1 (wOp2 gAdd (wVar 1) (wVar 3))))) (bs.map bD) Dp [some (.val d), some (.own false (.lst [])), none, none, none] := by
    intro Dp hD
    refine for_all bD (fun pre ρ => ∃ F x2 x3 x4, PS G F ∧ (∀ p, memB F p ↔ memB pre p) ∧ frO (some x2) = true ∧ frO (some x3) = true ∧ frO (some x4) = true ∧ ρ = [some (.val d), some (.own false (.lst (F.map bD))), x2, x3, x4]) ⟨[], none, none, none, .nil, fun p => Iff.rfl, rfl, rfl, rfl, rfl⟩ ?_ ?_
    · rintro pre b post ρ hall ⟨F, x2, x3, x4, hF, hm, y2, y3, y4, rfl⟩ N hN
      have hb : Fine G b := hf b (by rw [hall]; simp)
      simp only [PDS, STD, y2, y3]
      have hi : ∀ Dp : PEnds, (∀ m x4, frO (some x4) = true → PS G m → (∀ p, memB m p ↔ hasP b p = true ∧ ¬memB F p) → Dp.nx [some (.val d), some (.val (.lst (F.map bD))), some (.val (bD b)), some (.own false (.lst (m.map bD))), x4]) →
          wForL (wName 4) (wSet 3 (wCallF fs_without_block [] (wVk (wVar 3) (wVk (wVar 4) (wVn))))) (F.map bD) Dp [some (.val d), some (.val (.lst (F.map bD))), some (.val (bD b)), some (.own false (.lst [bD b])), x4] := by
        intro Dp hD
        refine for_all bD (fun pre ρ => ∃ m x4, PS G m ∧ (∀ p, memB m p ↔ hasP b p = true ∧ ¬memB pre p) ∧ frO (some x4) = true ∧ ρ = [some (.val d), some (.val (.lst (F.map bD))), some (.val (bD b)), some (.own false (.lst (m.map bD))), x4]) ⟨[b], x4, .one hb, fun p => by rw [memB_cons]; exact ⟨fun z => z.elim (fun z => ⟨z, memB_nil⟩) fun z => (memB_nil z).elim, fun z => .inl z.1⟩, y4, rfl⟩ ?_ ?_
        · rintro pr o po ρ hall2 ⟨m, z4, hm2, hmm, w4, rfl⟩ N hN
          have ho : Fine G o := hF.fine o (by rw [hall2]; simp)
          have hw := withoutF_ps ho hm2
          simp only [PDS, STD, w4]
          refine ⟨m, o, rfl, hm2.well, bOk.well ho.1, hw.line hG, ?_⟩
          simp only [PDS, STD]
          refine hN _ ⟨_, _, hw, fun p => ?_, rfl, rfl⟩
          rw [withoutF_mem ho.1.2.1 hm2.len4, hmm, memB_app, memB_cons, not_or, not_or, and_assoc]
          exact ⟨fun ⟨a, b, c⟩ => ⟨a, b, c, memB_nil⟩, fun ⟨a, b, c, _⟩ => ⟨a, b, c⟩⟩
        · rintro ρ ⟨m, z4, hm2, hmm, w4, rfl⟩
          exact hD m z4 w4 hm2 hmm
      refine hi _ fun m x4 w4 hm2 hmm => ?_
      simp only [PDS, STD]
      have hz := sizeLine_eq
      have l1 := hF.len hG
      have l2 := hm2.len hG
      refine ⟨by omega, ?_⟩
      rw [← List.map_append]
      refine hN _ ⟨F ++ m, _, _, _, hF.app hm2 fun p ⟨k1, k2⟩ => ((hmm p).mp k2).2 k1, fun p => ?_, rfl, rfl, w4, rfl⟩
      rw [memB_app, memB_app, memB_cons, hm, hmm]
      constructor
      · rintro (a | ⟨a, b⟩)
        · exact .inl a
        · exact .inr (.inl a)
      · rintro (a | a | a)
        · exact .inl a
        · by_cases c : memB F p
          · exact .inl ((hm p).mp c)
          · exact .inr ⟨a, c⟩
        · exact (memB_nil a).elim
    · rintro ρ ⟨F, x2, x3, x4, hF, hm, y2, y3, y4, rfl⟩
      exact hD F x2 x3 x4 hF hm
  have e0 : w_disjoint = wSeq (wSet 1 (wLst wKn)) (wSeq (wFor (wSrc (wVar 0)) (wName 2) _) (wRet (wCallF fs_pushed_together [] (wVk (wVar 1) (wVn))))) := rfl
  rw [e0]
  have fin : ∀ F x2 x3 x4, PS G F → (∀ p, memB F p ↔ memB bs p) → ∀ Dp : PEnds, (∀ F', PS G F' → (∀ p, memB F' p ↔ memB bs p) → ∀ ρ, Dp.rt (.tmp (.lst (F'.map bD))) ρ) → wRet (wCallF fs_pushed_together [] (wVk (wVar 1) (wVn))) Dp [some (.val d), some (.own false (.lst (F.map bD))), x2, x3, x4] := by
    intro F x2 x3 x4 hF hm ⟨n0, r0, bk0, ct0, ex0⟩ hD
    have hz := sizeLine_eq
    have l1 := hF.len hG
    simp only [PDS, STD]
    refine ⟨F, rfl, hF.well, by omega, fun bs' hj => ?_⟩
    obtain ⟨k1, k2⟩ := hj.ps hF
    simp only [PDS, STD]
    exact hD _ k1 (fun p => (k2 p).trans (hm p)) _
  rcases hd with rfl | rfl
  · simp only [x_seq, PDS, STD]
    refine main _ fun F x2 x3 x4 hF hm => ?_
    have := fin F x2 x3 x4 hF hm { nx := fun _ => False, rt := fun r _ => Qp r (vals [.lst (bs.map bD)]), ex := fun x _ => Ep x (vals [.lst (bs.map bD)]) } (fun F' h1 h2 _ => q F' h1 h2)
    simp only [PDS, STD] at this ⊢
    exact this
  · simp only [x_seq, PDS, STD]
    refine main _ fun F x2 x3 x4 hF hm => ?_
    have := fin F x2 x3 x4 hF hm { nx := fun _ => False, rt := fun r _ => Qp r (vals [.tup (bs.map bD)]), ex := fun x _ => Ep x (vals [.tup (bs.map bD)]) } (fun F' h1 h2 _ => q F' h1 h2)
    simp only [PDS, STD] at this ⊢
    exact this
theorem sp_Packets_init : Kp w_Packets_init 2 2 fs_Packets_init := by
  rintro args Qp Ep ⟨G, bs, d, rfl, hd, hG, hok, hgr, q⟩
  refine ⟨rfl, ?_⟩
  simp only [w_Packets_init, PDS, STD]
  refine ⟨bs, d, rfl, hd, hok, ?_⟩
  simp only [PDS, STD]
  refine ⟨G, bs, d, rfl, hd, hG, hok, hgr, fun bs' h1 h2 => ?_⟩
  simp only [PDS, STD]
  exact ⟨by decide, q bs' h1 h2⟩
end PL
namespace PL
open PySem PySem.Spec PyProof.Rows L2
variable [HasT]
theorem metL_ps {G : Grid} {b : List Bk} (hb : PS G b) : ∀ {a : List Bk}, PS G a → PS G (metL a b)
  | [], _ => .nil
  | x :: a, h => by
    have fx := h.fine x List.mem_cons_self
    have ap := List.pairwise_cons.mp h.ap
    have ha : PS G a := .mk' (fun c hc => h.fine c (List.mem_cons_of_mem _ hc)) ap.2
    have row : ∀ {b : List Bk}, PS G b → PS G (b.flatMap fun y => metF x y) ∧ ∀ p, memB (b.flatMap fun y => metF x y) p ↔ hasP x p = true ∧ memB b p := by
      intro b hb
      induction b with
      | nil => exact ⟨.nil, fun p => ⟨fun z => (memB_nil z).elim, fun z => (memB_nil z.2).elim⟩⟩
      | cons y b ih =>
        have fy := hb.fine y List.mem_cons_self
        have apb := List.pairwise_cons.mp hb.ap
        obtain ⟨i1, i2⟩ := ih (.mk' (fun c hc => hb.fine c (List.mem_cons_of_mem _ hc)) apb.2)
        have hm : ∀ p, memB (metF x y) p ↔ hasP x p = true ∧ hasP y p = true := fun p => metF_mem fx.1.2.1 fy.1.2.1
        have one : PS G (metF x y) := .mk' (metF_fine fx fy) (by
          unfold metF
          split
          · dsimp only
            split <;> simp
          · simp)
        rw [List.flatMap_cons]
        refine ⟨one.app i1 fun p ⟨k1, k2⟩ => ?_, fun p => ?_⟩
        · obtain ⟨z, hz, e⟩ := ((i2 p).mp k2).2
          exact apb.1 z hz p ⟨((hm p).mp k1).2, e⟩
        · rw [memB_app, hm, i2, memB_cons]
          constructor
          · rintro (⟨u, v⟩ | ⟨u, v⟩)
            · exact ⟨u, .inl v⟩
            · exact ⟨u, .inr v⟩
          · rintro ⟨u, v | v⟩
            · exact .inl ⟨u, v⟩
            · exact .inr ⟨u, v⟩
    obtain ⟨r1, r2⟩ := row hb
    have ih := metL_ps hb ha
    show PS G ((b.flatMap fun y => metF x y) ++ metL a b)
    refine r1.app ih fun p ⟨k1, k2⟩ => ?_
    obtain ⟨z, hz, e⟩ := ((metL_mem ha.len4 hb.len4).mp k2).1
    exact ap.1 z hz p ⟨((r2 p).mp k1).1, e⟩
theorem sp_Packets_blocks : Kp w_Packets_blocks 1 1 fs_Packets_blocks := by
  rintro args Qp Ep ⟨a, rfl, q⟩
  refine ⟨rfl, ?_⟩
  simp only [w_Packets_blocks, PDS, STD, setD]
  exact q
theorem ints_map {α : Type} (g : α → Int) : ∀ l : List α, intsD (l.map fun a => D.int (g a)) = some (l.map g)
  | [] => rfl
  | a :: l => by
    rw [List.map_cons, intsD, ints_map g l]
    rfl
theorem sp_Packets_size : Kp w_Packets_size 1 2 fs_Packets_size := by
  rintro args Qp Ep ⟨G, a, rfl, ha, q⟩
  refine ⟨rfl, ?_⟩
  simp only [w_Packets_size, PDS, STD, setD]
  refine ⟨rfl, lc_all bD (fun b => .int (volF b)) (fun b hb k hk => ?_) ?_⟩
  · simp only [wipeE, PDS, STD]
    refine ⟨b, rfl, ha.ok b hb, ?_⟩
    simp only [PDS, STD]
    exact hk _ rfl
  · simp only [wipeE, restE, PDS, STD, ints_map]
    exact q
theorem mk_set {G : Grid} {bs : List Bk} {d : D} {Q : R → Env → Prop} {rs : List R} {ρ : Env} {Ep : Ex → List Ent → Prop} (hd : listy (bs.map bD) d) (hG : G.ok) (hf : ∀ b ∈ bs, Fine G b) (q : ∀ c, PS G c → (∀ p, memB c p ↔ memB bs p) → Q (.val (setD c)) (backA rs [.val d] ρ)) :
    fs_Packets_init [.own true (.obj "Packets" [] []), .val d] (kMk Q rs ρ) Ep := by
  refine ⟨G, bs, d, rfl, hd, hG, fun b hb => (hf b hb).1, fun b hb => (hf b hb).2, fun bs' h1 h2 => ?_⟩
  rw [kMk_ok]
  exact q bs' h1 h2
theorem sp_Packets_turned : Kp w_Packets_turned 1 2 fs_Packets_turned := by
  rintro args Qp Ep ⟨G, a, rfl, hG, ha, q⟩
  refine ⟨rfl, ?_⟩
  simp only [w_Packets_turned, PDS, STD, setD]
  refine ⟨rfl, lc_all bD (fun b => bD (turnB b)) (fun b hb k hk => ?_) ?_⟩
  · simp only [wipeE, PDS, STD]
    refine ⟨b, rfl, ha.well b hb, ?_⟩
    simp only [PDS, STD]
    exact hk _ rfl
  · have e : a.map (fun b => bD (turnB b)) = (a.map turnB).map bD := by rw [List.map_map]; rfl
    simp only [wipeE, restE, PDS, STD]
    rw [e]
    refine mk_set (.inl rfl) hG (fun b hb => ?_) fun c h1 h2 => ?_
    · obtain ⟨x, hx, rfl⟩ := List.mem_map.mp hb
      exact turnB_fine (ha.fine x hx)
    · simp only [PDS, STD]
      exact q c h1 fun p => by rw [h2, turnL_mem ha.len4]
theorem sp_Packets_or : Kp w_Packets_or 2 2 fs_Packets_or := by
  rintro args Qp Ep ⟨G, a, b, rfl, hG, ha, hb, q⟩
  refine ⟨rfl, ?_⟩
  have hz := sizeLine_eq
  have l1 := ha.len hG
  have l2 := hb.len hG
  simp only [w_Packets_or, PDS, STD, setD]
  refine ⟨by omega, ?_⟩
  rw [← List.map_append]
  refine mk_set (.inl rfl) hG (fun c hc => ?_) fun c h1 h2 => ?_
  · rcases List.mem_append.mp hc with hc | hc
    · exact ha.fine c hc
    · exact hb.fine c hc
  · simp only [PDS, STD]
    exact q c h1 fun p => by rw [h2, memB_app]
theorem less_loop {G : Grid} (hG : G.ok) {i j : Nat} (bs : List Bk) (hbs : ∀ b ∈ bs, Fine G b) (mk : Option Ent → Option Ent → Env) (hi : ∀ x y, (mk x y)[i]? = some x) (hj : ∀ x y, (mk x y)[j]? = some y) (si : ∀ x y z, (mk x y).set i z = mk z y) (sj : ∀ x y z, (mk x y).set j z = mk x z)
    {Dp : PEnds} {a : List Bk} (ha : PS G a) (x y : Option Ent) (hx : x = some (.own false (.lst (a.map bD))) ∨ x = some (.val (.lst (a.map bD)))) (hy : frO (some y) = true) (hD : ∀ m x y, PS G m → (∀ p, memB m p ↔ memB a p ∧ ¬memB bs p) → (x = some (.own false (.lst (m.map bD))) ∨ x = some (.val (.lst (m.map bD)))) → frO (some y) = true → Dp.nx (mk x y)) :
    wForL (wName j) (wSet i (wCallF fs_without_block [] (wVk (wVar i) (wVk (wVar j) (wVn))))) (bs.map bD) Dp (mk x y) := by
  obtain ⟨n0, r0, bk0, ct0, ex0⟩ := Dp
  refine for_all bD (fun pre ρ => ∃ m x y, PS G m ∧ (∀ p, memB m p ↔ memB a p ∧ ¬memB pre p) ∧ (x = some (.own false (.lst (m.map bD))) ∨ x = some (.val (.lst (m.map bD)))) ∧ frO (some y) = true ∧ ρ = mk x y) ⟨a, x, y, ha, fun p => ⟨fun z => ⟨z, memB_nil⟩, fun z => z.1⟩, hx, hy, rfl⟩ ?_ ?_
  · rintro pr o po ρ hall ⟨m, x, y, hm, hmm, hx, hy, rfl⟩ N hN
    have ho : Fine G o := hbs o (by rw [hall]; simp)
    have hw := withoutF_ps ho hm
    have fin : ∀ x', frO (some x') = true → (x' = some (.own false (.lst (m.map bD))) ∨ x' = some (.val (.lst (m.map bD)))) → wSet i (wCallF fs_without_block [] (wVk (wVar i) (wVk (wVar j) (wVn)))) ⟨N, r0, N, n0, ex0⟩ (mk x' (some (.val (bD o)))) := by
      intro x' h0 h1
      have done : ∀ x' (Z : Ex → List Ent → Prop), frO (some x') = true → fs_without_block [.val (.lst (m.map bD)), .val (bD o)] (fun z args' => kSet i N z (backA [.val (.lst (m.map bD)), .val (bD o)] args' (mk x' (some (.val (bD o)))))) Z := by
        intro x' Z h0
        refine ⟨m, o, rfl, hm.well, bOk.well ho.1, hw.line hG, ?_⟩
        simp only [kSet_tmp, backA_v2, hi, x_frS, h0, oK_s, true_and, si]
        refine hN _ ⟨_, _, _, hw, fun p => ?_, .inl rfl, rfl, rfl⟩
        rw [withoutF_mem ho.1.2.1 hm.len4, hmm, memB_app, memB_cons, not_or, not_or, and_assoc]
        exact ⟨fun ⟨a, b, c⟩ => ⟨a, b, c, memB_nil⟩, fun ⟨a, b, c, _⟩ => ⟨a, b, c⟩⟩
      rcases h1 with rfl | rfl
      · simp only [PDS, STD, hi, hj, si, sj]
        exact done _ _ rfl
      · simp only [PDS, STD, hi, hj, si, sj]
        exact done _ _ rfl
    simp only [x_name, x_frS, hj, hy, oK_s, sj]
    rcases hx with rfl | rfl
    · exact fin _ rfl (.inl rfl)
    · exact fin _ rfl (.inr rfl)
  · rintro ρ ⟨m, x, y, h1, h2, h3, h4, rfl⟩
    exact hD m x y h1 h2 h3 h4
theorem sp_Packets_sub : Kp w_Packets_sub 2 4 fs_Packets_sub := by
  rintro args Qp Ep ⟨G, a, b, rfl, hG, ha, hb, q⟩
  refine ⟨rfl, ?_⟩
  simp only [w_Packets_sub, PDS, STD, setD]
  refine less_loop hG (i := 2) (j := 3) b hb.fine (fun x y => [some (.val (setD a)), some (.val (setD b)), x, y]) (fun _ _ => rfl) (fun _ _ => rfl) (fun _ _ _ => rfl) (fun _ _ _ => rfl) ha _ none (.inr rfl) rfl fun m x y h1 h2 h3 h4 => ?_
  have done : ∀ (x : Option Ent) (Z : Ex → List Ent → Prop), fs_Packets_init [.own true (.obj "Packets" [] []), .val (.lst (m.map bD))] (kMk (kRet fun r _ => Qp r (vals [setD a, setD b])) [.val (.lst (m.map bD))] [some (.val (setD a)), some (.val (setD b)), x, y]) Z := fun x Z =>
    mk_set (Ep := Z) (.inl rfl) hG h1.fine fun c k1 k2 => by
      simp only [PDS, STD]
      exact q c k1 fun p => by rw [k2, h2]
  rcases h3 with rfl | rfl
  · simp only [PDS, STD, setD] at done ⊢
    exact done _ _
  · simp only [PDS, STD, setD] at done ⊢
    exact done _ _
theorem sp_Packets_and : Kp w_Packets_and 2 5 fs_Packets_and := by
  rintro args Qp Ep ⟨G, a, b, rfl, hG, ha, hb, q⟩
  refine ⟨rfl, ?_⟩
  simp only [w_Packets_and, PDS, STD, setD]
  have hl := (metL_ps hb ha).line hG
  have row : ∀ (acc : List Bk) (x : Bk) (y : Option Ent) (Dp : PEnds), Fine G x → frO (some y) = true → acc.length + (b.flatMap fun y => metF x y).length ≤ sizeLine → (∀ y, frO (some y) = true → Dp.nx [some (.val (setD a)), some (.val (setD b)), some (.own false (.lst ((acc ++ b.flatMap fun y => metF x y).map bD))), some (.val (bD x)), y]) →
      wForL (wName 4) (wExpr (wExtend 2 (wCallF fs_met [] (wVk (wVar 3) (wVk (wVar 4) (wVn)))))) (b.map bD) Dp [some (.val (setD a)), some (.val (setD b)), some (.own false (.lst (acc.map bD))), some (.val (bD x)), y] := by
    rintro acc x y ⟨n0, r0, bk0, ct0, ex0⟩ hx hy hlen hD
    refine for_all bD (fun pre ρ => ∃ y, frO (some y) = true ∧ ρ = [some (.val (setD a)), some (.val (setD b)), some (.own false (.lst ((acc ++ pre.flatMap fun y => metF x y).map bD))), some (.val (bD x)), y]) ⟨y, hy, by simp⟩ ?_ ?_
    · rintro pr o po ρ hall ⟨y, hy, rfl⟩ N hN
      simp only [PDS, STD, hy]
      refine ⟨x, o, rfl, bOk.well hx.1, hb.well o (by rw [hall]; simp), ?_⟩
      simp only [PDS, STD]
      refine ⟨?_, ?_⟩
      · rw [hall] at hlen
        simp only [List.flatMap_append, List.flatMap_cons, List.length_append] at hlen ⊢
        omega
      · rw [← List.map_append]
        refine hN _ ⟨some (.val (bD o)), rfl, ?_⟩
        simp only [List.flatMap_append, List.flatMap_cons, List.flatMap_nil, List.append_nil, List.append_assoc]
    · rintro ρ ⟨y, hy, rfl⟩
      exact hD y hy
  refine for_all bD (fun pre ρ => ∃ x y, frO (some x) = true ∧ frO (some y) = true ∧ ρ = [some (.val (setD a)), some (.val (setD b)), some (.own false (.lst ((metL pre b).map bD))), x, y]) ⟨none, none, rfl, rfl, rfl⟩ ?_ ?_
  · rintro pr x po ρ hall ⟨x3, x4, y3, y4, rfl⟩ N hN
    simp only [PDS, STD, y3, setD]
    refine row (metL pr b) x x4 _ (ha.fine x (by rw [hall]; simp)) y4 ?_ fun y hy => hN _ ⟨some (.val (bD x)), y, rfl, hy, ?_⟩
    · rw [hall] at hl
      simp only [metL, List.flatMap_append, List.flatMap_cons, List.length_append] at hl ⊢
      omega
    · simp only [metL, List.flatMap_append, List.flatMap_cons, List.flatMap_nil, List.append_nil]
  · rintro ρ ⟨x3, x4, y3, y4, rfl⟩
    simp only [PDS, STD]
    refine mk_set (.inl rfl) hG (metL_ps hb ha).fine fun c k1 k2 => ?_
    simp only [PDS, STD]
    exact q c k1 fun p => by rw [k2, metL_mem ha.len4 hb.len4]
open Classical in
theorem sp_Packets_contains : Kp w_Packets_contains 2 3 fs_Packets_contains := by
  rintro args Qp Ep ⟨G, a, p, rfl, ha, hp, q⟩
  refine ⟨rfl, ?_⟩
  simp only [w_Packets_contains, PDS, STD, setD]
  refine ⟨p, rfl, hp, ?_⟩
  simp only [PDS, STD]
  refine ⟨rfl, lc_all bD (fun b => .bl (hasP b p)) (fun b hb k hk => ?_) ?_⟩
  · simp only [wipeE, PDS, STD]
    refine ⟨b, p, rfl, ha.well b hb, sOk_name hp.1, ?_⟩
    simp only [PDS, STD]
    exact hk _ rfl
  · simp only [wipeE, restE, PDS, STD, bls_map]
    have e : (a.map fun b => hasP b p).any id = decide (memB a p) := by
      rw [Bool.eq_iff_iff, decide_eq_true_iff, List.any_map, List.any_eq_true]
      rfl
    rw [e]
    exact q
end PL
namespace PL
open PySem PySem.Spec PyProof.Rows L2
variable [HasT]
def pkP (p : Pk) : PyData := .tuple [.str p.k, .tuple [.int p.a, .int p.b], .tuple [.int p.c, .int p.d]]
theorem toP_pk (p : Pk) : toP (pkD p) = some (pkP p) := rfl
theorem alike_pk (p q : Pk) : PySem.W.alike (pkP p) (pkP q) = true := rfl
theorem depth_pk (p : Pk) : (pkP p).depth = 2 := rfl
theorem depAll_le {l : List PyData} {n : Nat} (h : ∀ x ∈ l, x.depth ≤ n) : PyData.depthAll l ≤ n := by
  have := depAll (g := fun x => x) (l := l) h
  simpa using this
theorem gMin_pk {p : Pk} {ps : List Pk} {Q : R → Prop} (h : ∀ q ∈ p :: ps, Q (.val (pkD q))) : gMin [.lst ((p :: ps).map pkD)] Q := by
  refine ⟨pkP p, ps.map pkP, ?_, ⟨fun x hx y hy => ?_, fun x hx => ?_⟩, ?_, fun z hz _ => ?_⟩
  · exact toPs_map (f := pkD) (g := pkP) toP_pk (p :: ps)
  · have hx' : x ∈ (p :: ps).map pkP := hx
    have hy' : y ∈ (p :: ps).map pkP := hy
    obtain ⟨a, _, rfl⟩ := List.mem_map.mp hx'
    obtain ⟨b, _, rfl⟩ := List.mem_map.mp hy'
    exact alike_pk a b
  · have hx' : x ∈ (p :: ps).map pkP := hx
    obtain ⟨a, _, rfl⟩ := List.mem_map.mp hx'
    intro e; cases e
  · refine depAll_le fun x hx => ?_
    have hx' : x ∈ (p :: ps).map pkP := hx
    obtain ⟨a, _, rfl⟩ := List.mem_map.mp hx'
    rw [depth_pk]; decide
  · obtain ⟨q, hq, rfl⟩ := List.mem_map.mp hz
    exact h q hq
theorem sp_Packets_least : Kp w_Packets_least 1 7 fs_Packets_least := by
  rintro args Qp Ep ⟨G, a, rfl, hG, ha, q0, q⟩
  refine ⟨rfl, ?_⟩
  have so : ∀ c ∈ a, sOk c.k := fun c hc => (ha.well c hc).1
  have hl := ha.line hG
  by_cases he : a = []
  · subst he
    have e : gEq id (.lst []) (.lst []) = fun Q => Q (.val (.bl true)) := by
      funext Q
      exact gEq_bs (bs := []) (fun c hc => by cases hc)
    simp only [w_Packets_least, PDS, STD, setD, e]
    exact q0 rfl
  · have e : a.isEmpty = false := by simpa using he
    simp only [w_Packets_least, PDS, STD, setD, gEq_bs so, e]
    refine for_all bD (fun pre ρ => ∃ x2 x3 x4 x5 x6, frO (some x2) = true ∧ frO (some x3) = true ∧ frO (some x4) = true ∧ frO (some x5) = true ∧ frO (some x6) = true ∧ ρ = [some (.val (setD a)), some (.own false (.lst ((pre.map low).map pkD))), x2, x3, x4, x5, x6]) ⟨none, none, none, none, none, rfl, rfl, rfl, rfl, rfl, rfl⟩ ?_ ?_
    · rintro pr o po ρ hall ⟨x2, x3, x4, x5, x6, y2, y3, y4, y5, y6, rfl⟩ N hN
      have ho := ha.ok o (by rw [hall]; simp)
      obtain ⟨k, rs⟩ := o
      obtain ⟨r0, r1, r2, r3, rfl⟩ := four ho.2.1
      simp only [PDS, STD, y2, y3, y4, y5, y6, bD, rgD]
      refine ⟨?_, ?_⟩
      · rw [hall] at hl
        simp only [List.length_append, List.length_cons] at hl
        omega
      · refine hN _ ⟨some (.val (.str k)), some (.val (rgD r0)), some (.val (rgD r1)), some (.val (rgD r2)), some (.val (rgD r3)), rfl, rfl, rfl, rfl, rfl, ?_⟩
        rw [List.map_append, List.map_append]
        rfl
    · rintro ρ ⟨x2, x3, x4, x5, x6, y2, y3, y4, y5, y6, rfl⟩
      simp only [PDS, STD]
      obtain ⟨b0, bt, rfl⟩ := List.exists_cons_of_ne_nil he
      refine gMin_pk (p := low b0) (ps := bt.map low) fun p hp => ?_
      have hp' : p ∈ (b0 :: bt).map low := hp
      obtain ⟨b, hb, rfl⟩ := List.mem_map.mp hp'
      simp only [PDS, STD]
      exact q b hb _ (lowP_eq (ha.len4 b hb))
end PL
namespace PL
open PySem PySem.Spec PyProof.Rows L2
variable [HasT]
/-- items whose equality is that of what they stand for -/
structure EqIt {α : Type} [DecidableEq α] (g : α → D) (gp : α → PyData) (P : α → Prop) : Prop where
  to : ∀ a, toP (g a) = some (gp a)
  can : ∀ a, P a → PyData.canLay0 (gp a) = true
  dep : ∀ a, (gp a).depth ≤ 8
  eqv : ∀ a b, PyData.eqv (gp a) (gp b) = decide (a = b)
theorem eqvAll_map {α : Type} [DecidableEq α] {g : α → D} {gp : α → PyData} {P : α → Prop} (h : EqIt g gp P) : ∀ l m : List α, PyData.eqvAll (l.map gp) (m.map gp) = decide (l = m)
  | [], [] => rfl
  | [], b :: m => by simp [PyData.eqvAll]
  | a :: l, [] => by simp [PyData.eqvAll]
  | a :: l, b :: m => by
    rw [List.map_cons, List.map_cons, PyData.eqvAll, h.eqv, eqvAll_map h l m]
    by_cases e : a = b
    · subst e; simp
    · simp [e]
theorem sh_map {α : Type} [DecidableEq α] {g : α → D} {gp : α → PyData} {P : α → Prop} (h : EqIt g gp P) {l : List α} (hl : ∀ a ∈ l, P a) : SeqAt.shaped (.list (l.map gp)) = true ∧ SeqAt.shaped (.tuple (l.map gp)) = true := by
  have c : PyData.canLayAll0 (l.map gp) = true := canAll fun b hb => h.can b (hl b hb)
  have d : PyData.depthAll (l.map gp) ≤ 8 := depAll fun r _ => h.dep r
  constructor
  · unfold SeqAt.shaped
    rw [PyData.canLay0, c, PyData.depth, decide_eq_true (by omega)]
    rfl
  · unfold SeqAt.shaped
    rw [PyData.canLay0, c, PyData.depth, decide_eq_true (by omega)]
    rfl
theorem gEq_lists {α : Type} [DecidableEq α] {g : α → D} {gp : α → PyData} {P : α → Prop} (h : EqIt g gp P) {f : Bool → Bool} {l m : List α} {Q : R → Prop} (hl : ∀ a ∈ l, P a) (hm : ∀ a ∈ m, P a) : gEq f (.lst (l.map g)) (.lst (m.map g)) Q = Q (.val (.bl (f (decide (l = m))))) := by
  have t : ∀ l : List α, toP (.lst (l.map g)) = some (.list (l.map gp)) := fun l => by
    show (toPs (l.map g)).map PyData.list = _
    rw [toPs_map h.to]; rfl
  rw [gEq_of (t l) (t m) (sh_map h hl).1 (sh_map h hm).1]
  have : PyData.eqv (.list (l.map gp)) (.list (m.map gp)) = decide (l = m) := eqvAll_map h l m
  rw [this]
theorem eqi_int : EqIt D.int PyData.int (fun _ => True) := ⟨fun _ => rfl, fun _ _ => rfl, fun _ => by simp [PyData.depth], fun _ _ => rfl⟩
theorem gEq_ints {f : Bool → Bool} {l m : List Int} {Q : R → Prop} : gEq f (.lst (l.map D.int)) (.lst (m.map D.int)) Q = Q (.val (.bl (f (decide (l = m))))) := gEq_lists eqi_int (fun _ _ => trivial) (fun _ _ => trivial)
theorem gEq_ints0 {f : Bool → Bool} {l : List Int} {Q : R → Prop} : gEq f (.lst (l.map D.int)) (.lst []) Q = Q (.val (.bl (f (decide (l = []))))) := gEq_ints (m := [])
end PL
namespace PL
open PySem PySem.Spec PyProof.Rows L2
end PL
namespace PL
open PySem PySem.Spec PyProof.Rows L2
end PL
namespace PySem.W
open PySem PySem.Calls PyProof.Rows
end PySem.W
namespace PL
open PySem PySem.Spec PyProof.Rows L2
end PL
namespace PL
open PySem PySem.Spec PyProof.Rows L2
end PL
namespace PL
open PySem PySem.Spec PyProof.Rows L2
open He (ga ma fAd ba Fa glo_ok)
end PL
namespace PL
open PySem PySem.Spec PyProof.Rows L2
end PL
namespace PL
open PySem PySem.Spec PyProof.Rows L2 PySem.W
variable [HasT]
section
variable {X : Cx} {XE : XK} {k : Nat}
/-- what came stays as it came while an expression runs -/
theorem ent_keep {c c1 c2 : Cfg} {e : Ent} {v : V} {ft : List Addr} (o : EntOk X.K X.mg c1.F c1.H e v ft) (m : ∀ b ∈ ft, c1.F b = none ∧ c1.H b ≠ none ∧ c.H b = none ∧ ∀ i, b ∉ c1.fp i) (g : Go X.K X.mg c1 c2) :
    EntOk X.K X.mg c2.F c2.H e v ft ∧ ∀ b ∈ ft, c2.F b = none ∧ c2.H b ≠ none ∧ c.H b = none ∧ ∀ i, b ∉ c2.fp i := by
  have kp : ∀ b ∈ ft, c2.F b = none ∧ c2.H b = c1.H b := fun b hb => by
    obtain ⟨z1, z2, z3, z4⟩ := m b hb
    obtain ⟨u0, hu0, pu0⟩ := ent_pl o b hb
    exact g.fr.keep b z1 z2 z4 (nt_of hu0 pu0)
  refine ⟨o.frame g.fr.mono fun b hb => (kp b hb).2, fun b hb => ?_⟩
  obtain ⟨z1, z2, z3, z4⟩ := m b hb
  obtain ⟨k1, k2⟩ := kp b hb
  refine ⟨k1, by rw [k2]; exact z2, z3, fun i hi => ?_⟩
  rcases g.orig i b hi with ⟨j', hj'⟩ | e
  · exact z4 j' hj'
  · exact z2 e
theorem set_slotE {c c2 : Cfg} (g : Go X.K X.mg c c2) {i : Nat} {e : Ent} {v : V} {ft : List Addr} (q : freeE c2.ρ i) (n : ∀ d, e ≠ .own true d) (o : EntOk X.K X.mg c2.F c2.H e v ft) (m : ∀ b ∈ ft, c2.F b = none ∧ c2.H b ≠ none ∧ c.H b = none ∧ ∀ i, b ∉ c2.fp i) :
    Go X.K X.mg c { c2 with σ := c2.σ.set i (some v), ρ := c2.ρ.set i (some e), fp := fpSet c2.fp i ft } :=
  set_slot g (freeE_of q).1 (freeE_of q).2 o n m
theorem freeE_set {ρ : Env} {i j : Nat} {e : Ent} (h : freeE ρ j) (n : ∀ d, e ≠ .own true d) : freeE (ρ.set i (some e)) j := by
  unfold freeE at h ⊢
  by_cases hj : i = j
  · subst hj
    have hl : i < ρ.length := by
      cases q : ρ[i]? with
      | none => rw [q] at h; exact h.elim
      | some y => exact (List.getElem?_eq_some_iff.mp q).1
    rw [List.getElem?_set_self hl]
    cases e with
    | val d => exact True.intro
    | own b d =>
      cases b with
      | false => exact True.intro
      | true => exact absurd rfl (n d)
  · rw [List.getElem?_set_ne hj]; exact h
theorem new_go {c c1 : Cfg} (g : Go X.K X.mg c c1) {b : Addr} (h : c1.H b = none) : c.H b = none := by
  cases q : c.H b with
  | none => rfl
  | some o => exact absurd h (g.fr.grow b (by rw [q]; simp))
end
end PL
namespace PL
open PySem PySem.Spec PyProof.Rows L2 PySem.SeqAt AutoSeq1 MeetsSeq
end PL
namespace PL
open PySem PySem.Spec PyProof.Rows L2 PySem.SeqAt AutoSeq1 MeetsSeq
end PL
namespace PL
open PySem PySem.Spec PyProof.Rows L2 PySem.SeqAt
end PL
namespace PL
open PySem PySem.Spec PyProof.Rows L2
end PL
namespace PL
open PySem PySem.Spec PyProof.Rows L2
variable [HasT]
section
variable {K : PySem.W.Frag} {mg : Str → Option Value}
/-- the slots' values -/
inductive Vals0 (σ : L2.St) : List Nat → List V → Prop
  | nil : Vals0 σ [] []
  | cons {i v is vs} : σ[i]? = some (some v) → Vals0 σ is vs → Vals0 σ (i :: is) (v :: vs)
theorem Vals0.len {σ : L2.St} {is : List Nat} {vs : List V} (h : Vals0 σ is vs) : vs.length = is.length := by
  induction h with
  | nil => rfl
  | cons _ _ ih => simp [ih]
end
end PL
namespace PL
open PySem PySem.Spec PyProof.Rows L2
end PL
namespace PL
open PySem PySem.Spec PyProof.Rows L2
end PL
namespace PL
open PySem PySem.Spec PyProof.Rows L2
end PL
namespace PL
open PySem PySem.Spec PyProof.Rows L2
end PL
namespace PL
open PySem PySem.Spec PyProof.Rows L2
end PL
namespace PL
open PySem PySem.Spec PyProof.Rows L2
end PL
namespace PL
open PySem PySem.Spec PyProof.Rows L2
end PL
namespace PL
open PySem PySem.Spec PyProof.Rows L2
end PL
namespace PL
open PySem PySem.Spec PyProof.Rows L2
end PL
namespace PL
open PySem PySem.Spec PyProof.Rows L2
end PL
namespace PL
open PySem PySem.Spec PyProof.Rows L2
end PL
namespace PL
open PySem PySem.Spec PyProof.Rows L2
variable [HasT]
section
variable {K : PySem.W.Frag} {mg : Str → Option Value}
/-- the arguments, one of them a temporary -/
def RRT (K : PySem.W.Frag) (mg : Str → Option Value) (c c' : Cfg) (rs : List R) (vs : List V) : Prop :=
  ∃ pre d post vpre v vpost, rs = pre ++ .tmp d :: post ∧ vs = vpre ++ v :: vpost ∧ RRVs K mg c' pre vpre ∧ RRVs K mg c' post vpost ∧ RR K mg c c' (.tmp d) v
theorem rr_keep {c c1 c2 : Cfg} {d : D} {v : V} (h : RR K mg c c1 (.tmp d) v) (g : Go K mg c1 c2) : RR K mg c c2 (.tmp d) v := by
  obtain ⟨ft, o, hf⟩ := h
  have kp : ∀ b ∈ ft, c2.F b = none ∧ c2.H b = c1.H b := fun b hb => by
    obtain ⟨k1, k2, k3, k4⟩ := hf b hb
    obtain ⟨u, hu, pu⟩ := own_pl (K := K) (mg := mg) o b hb
    exact g.fr.keep b k1 k2 k4 (nt_of hu pu)
  refine ⟨ft, o.frame K mg g.fr.mono fun b hb => (kp b hb).2, fun b hb => ?_⟩
  obtain ⟨k1, k2, k3, k4⟩ := hf b hb
  refine ⟨(kp b hb).1, by rw [(kp b hb).2]; exact k2, k3, fun i hi => ?_⟩
  rcases g.orig i b hi with ⟨j, hj⟩ | e
  · exact k4 j hj
  · exact k2 e
theorem RRT.go {c c1 c2 : Cfg} {rs : List R} {vs : List V} (h : RRT K mg c c1 rs vs) (g : Go K mg c1 c2) (e : c2.σ = c1.σ) : RRT K mg c c2 rs vs := by
  obtain ⟨pre, d, post, vpre, v, vpost, e1, e2, h1, h2, h3⟩ := h
  exact ⟨pre, d, post, vpre, v, vpost, e1, e2, RRVs.go h1 g e, RRVs.go h2 g e, rr_keep h3 g⟩
theorem RRT.pre {c0 c c1 : Cfg} {rs : List R} {vs : List V} (g : Go K mg c0 c) (h : RRT K mg c c1 rs vs) : RRT K mg c0 c1 rs vs := by
  obtain ⟨pre, d, post, vpre, v, vpost, e1, e2, h1, h2, ft, o, hf⟩ := h
  refine ⟨pre, d, post, vpre, v, vpost, e1, e2, h1, h2, ft, o, fun b hb => ?_⟩
  obtain ⟨k1, k2, k3, k4⟩ := hf b hb
  refine ⟨k1, k2, ?_, k4⟩
  cases q : c0.H b with
  | none => rfl
  | some u => exact absurd k3 (g.fr.grow b (by rw [q]; simp))
end
end PL
namespace PL
open PySem PySem.Spec PyProof.Rows L2 RZ
end PL
namespace PL
open PySem PySem.Spec PyProof.Rows L2
end PL
namespace PL
open PySem PySem.Spec PyProof.Rows L2
end PL
namespace PL
open PySem PySem.Spec PyProof.Rows L2
end PL
namespace PL
open PySem PySem.Spec PyProof.Rows L2
end PL
namespace PL
open PySem PySem.Spec PyProof.Rows L2
end PL
namespace PL
open PySem PySem.Spec PyProof.Rows L2
variable [HasT]
/-- the pairs of a list: tuples of a key and a value, the keys tuples of the heap -/
abbrev PTs (F : Hp) : List Addr → List (List Key × V) → Prop := Paired fun p kv => ∃ q, F p = some (.tup [.ref q, kv.2]) ∧ F q = some (.tup (kv.1.map L2.kV))
theorem PTs.mono {F F' : Hp} (m : Mono F F') {ps : List Addr} {raw : List (List Key × V)} (h : PTs F ps raw) : PTs F' ps raw := by
  induction h with
  | nil => exact .nil
  | cons h _ ih =>
    obtain ⟨q, h1, h2⟩ := h
    exact .cons ⟨q, m.tup h1, m.tup h2⟩ ih
end PL
namespace PL
open PySem PySem.Spec PyProof.Rows L2
end PL
namespace PL
open PySem PySem.Spec PyProof.Rows L2
end PL
namespace PL
open PySem PySem.Spec PyProof.Rows L2
end PL
namespace PL
open PySem PySem.Spec PyProof.Rows L2
end PL
namespace PL
open PySem PySem.Spec PyProof.Rows L2
end PL
namespace PL
open PySem PySem.Spec PyProof.Rows L2
end PL
namespace PL
open PySem PySem.Spec PyProof.Rows L2
variable [HasT]
mutual
/-- the nested key that data is -/
def nkD : D → Option NestedKey
  | .non => some .none
  | .int i => some (.num i)
  | .str x => some (.text x)
  | .tup ds => (nkDs ds).map .tup
  | _ => none
def nkDs : List D → Option (List NestedKey)
  | [] => some []
  | d :: ds => (nkD d).bind fun k => (nkDs ds).map fun r => k :: r
end
section
variable {K : PySem.W.Frag} {mg : Str → Option Value}
mutual
theorem nk_rep {F : Hp} : ∀ (d : D) (v : V) (k : NestedKey), Rep K mg F d v → nkD d = some k → KyA K F k v
  | .non, _, _, h, e => by cases e; exact h
  | .int _, _, _, h, e => by cases e; exact h
  | .str _, _, _, h, e => by cases e; exact h
  | .tup ds, _, k, h, e => by
    obtain ⟨a, xs, rfl, h1, h2⟩ := h
    cases q : nkDs ds with
    | none => rw [nkD, q] at e; cases e
    | some ps =>
      rw [nkD, q] at e; cases e
      exact ⟨a, xs, rfl, h1, nks_rep ds xs ps h2 q⟩
  | .bl _, _, _, _, e => by cases e
  | .lst _, _, _, _, e => by cases e
  | .dic _ _, _, _, _, e => by cases e
  | .dit _ _, _, _, _, e => by cases e
  | .dix _ _ _, _, _, _, e => by cases e
  | .obj _ _ _, _, _, _, e => by cases e
  | .exc _ _ _, _, _, _, e => by cases e
  | .kst _, _, _, _, e => by cases e
  | .draw, _, _, _, e => by cases e
  | .box _, _, _, _, e => by cases e
theorem nks_rep {F : Hp} : ∀ (ds : List D) (xs : List V) (ks : List NestedKey), RepL K mg F ds xs → nkDs ds = some ks → KyL K F ks xs
  | [], _, _, h, e => by cases e; exact h
  | d :: ds, _, ks, h, e => by
    obtain ⟨x, r, rfl, h1, h2⟩ := h
    cases q : nkD d with
    | none => rw [nkDs, q] at e; cases e
    | some p =>
      cases q2 : nkDs ds with
      | none => rw [nkDs, q, q2] at e; cases e
      | some qs =>
        rw [nkDs, q, q2] at e; cases e
        exact ⟨x, r, rfl, nk_rep d x p h1 q, nks_rep ds r qs h2 q2⟩
end
end
section
variable {X : Cx} {pins : List (Addr × Obj)} {σ : L2.St} {H : Hp} {s : Shared} {A : Around} {E : Value → Shared → Prop}
mutual
theorem ky_is (I : Inv X pins σ H s) : ∀ (k : NestedKey) (v : V) (u : Value), KyA X.K H k v → RelV v u → NestedIs s.heap k u
  | .none, _, _, h, r => by rw [show _ = V.non from h] at r; rw [show _ = Value.none from r]; exact .none
  | .num i, _, _, h, r => by rw [show _ = V.int i from h] at r; obtain ⟨t, rfl⟩ := r; exact .int i t
  | .text x, _, _, h, r => by rw [show _ = V.str x from h] at r; obtain ⟨t, rfl⟩ := r; exact .text x t
  | .tup ks, _, _, h, r => by
    obtain ⟨a, xs, rfl, h1, h2⟩ := h
    rw [show _ = Value.ref a from r]
    obtain ⟨its, rv, ⟨o, e1, e2, n, e3⟩, hz⟩ := I.tuple h1
    exact .tup e1 e2 e3 (by simpa using kys_is I ks xs its h2 rv)
theorem kys_is (I : Inv X pins σ H s) : ∀ (ks : List NestedKey) (xs : List V) (us : List Value), KyL X.K H ks xs → Vals xs us → NestedAll s.heap ks us
  | [], _, _, h, r => by rw [show _ = [] from h] at r; cases r; exact .nil
  | k :: ks, _, _, h, r => by
    obtain ⟨x, t, rfl, h1, h2⟩ := h
    cases r with
    | cons r rr => exact .cons (ky_is I k x _ h1 r) (kys_is I ks t _ h2 rr)
end
end
abbrev DxE := List (NestedKey × Addr × V)
abbrev DxR : DxE → List (NestedKey × Addr × Value) → Prop := Paired fun p q => p.1 = q.1 ∧ p.2.1 = q.2.1 ∧ RelV p.2.2 q.2.2
def valN (es : DxE) (k : NestedKey) : Option V := (es.find? fun e => decide (e.1 = k)).map (·.2.2)
def storedV (es : DxE) (k : NestedKey) (b : Addr) (v : V) : DxE := if (es.any fun e => decide (e.1 = k)) = true then es.map (fun e => if e.1 = k then (e.1, e.2.1, v) else e) else es ++ [(k, b, v)]
theorem storedV_len (es : DxE) (k : NestedKey) (b : Addr) (v : V) : (storedV es k b v).length ≤ es.length + 1 := by
  unfold storedV; split <;> simp
theorem DxR.val : ∀ {es : DxE} {xs : List (NestedKey × Addr × Value)} (k : NestedKey), DxR es xs → RelO (valN es k) ((atKey xs k).map (·.2))
  | _, _, k, .nil => trivial
  | _, _, k, .cons (a := p) (b := q) h t => by
    have ih := DxR.val k t
    obtain ⟨h1, h2, h3⟩ := h
    by_cases hk : p.1 = k
    · have hq : q.1 = k := h1 ▸ hk
      unfold valN atKey
      simp only [List.find?_cons, hk, hq, decide_true, Option.map_some]
      exact h3
    · have hq : ¬ q.1 = k := h1 ▸ hk
      unfold valN atKey at ih ⊢
      simp only [List.find?_cons, hk, hq, decide_false]
      exact ih
theorem dxr_map {k : NestedKey} {v : V} {u : Value} (r : RelV v u) {es : DxE} {xs : List (NestedKey × Addr × Value)} (h : DxR es xs) : DxR (es.map fun e => if e.1 = k then (e.1, e.2.1, v) else e) (xs.map (putAt k u)) := by
  induction h with
  | nil => exact .nil
  | @cons p q _ _ h _ ih =>
    refine .cons ?_ ih
    obtain ⟨h1, h2, h3⟩ := h
    unfold putAt
    by_cases hk : p.1 = k
    · have hq : q.1 = k := h1 ▸ hk
      simp only [hk, hq, if_true]; exact ⟨trivial, h2, r⟩
    · have hq : ¬ q.1 = k := h1 ▸ hk
      simp only [hk, hq, if_false]; exact ⟨h1, h2, h3⟩
theorem dxr_any {es : DxE} {xs : List (NestedKey × Addr × Value)} (k : NestedKey) (h : DxR es xs) : (es.any fun e => decide (e.1 = k)) = (atKey xs k).isSome := by
  induction h with
  | nil => rfl
  | @cons p q _ _ h _ ih =>
    obtain ⟨h1, h2, h3⟩ := h
    rw [List.any_cons, ih, h1]
    unfold atKey
    by_cases hk : q.1 = k
    · simp [List.find?_cons, hk]
    · simp [List.find?_cons, hk]
theorem dxr_app {es fs : DxE} {xs ys : List (NestedKey × Addr × Value)} (h : DxR es xs) (g : DxR fs ys) : DxR (es ++ fs) (xs ++ ys) := by
  induction h with
  | nil => exact g
  | cons h _ ih => exact .cons h ih
theorem DxR.put {es : DxE} {xs : List (NestedKey × Addr × Value)} (h : DxR es xs) (k : NestedKey) (b : Addr) {v : V} {u : Value} (r : RelV v u) : DxR (storedV es k b v) (storedH xs k b u) := by
  unfold storedV storedH
  rw [dxr_any k h]
  split
  · exact dxr_map r h
  · exact dxr_app h (.cons ⟨rfl, rfl, r⟩ .nil)
theorem dxr_ky {K : PySem.W.Frag} {H : Hp} {es : DxE} {xs : List (NestedKey × Addr × Value)} (h : DxR es xs) (hk : ∀ e ∈ es, KyA K H e.1 (.ref e.2.1)) : ∀ x ∈ xs, KyA K H x.1 (.ref x.2.1) := by
  induction h with
  | nil => intro x hx; cases hx
  | @cons p q _ _ h _ ih =>
    intro x hx
    rcases List.mem_cons.mp hx with rfl | hx
    · obtain ⟨h1, h2, _⟩ := h
      rw [← h1, ← h2]
      exact hk p (by simp)
    · exact ih (fun e he => hk e (by simp [he])) x hx
section
variable {X : Cx} {pins : List (Addr × Obj)} {σ : L2.St} {H : Hp} {s : Shared} {A : Around} {E : Value → Shared → Prop} {a : Addr} {es : DxE}
theorem dx_of (I : Inv X pins σ H s) (h : H a = some (DxV X.w a es)) (hk : ∀ e ∈ es, KyA X.K H e.1 (.ref e.2.1)) : es.length ≤ sizeLine ∧ (a == sysModules) = false ∧ ∃ xs, DxR es xs ∧ s.heap.DictOfH (nestedKind X.prog X.w) a xs ∧ ∀ x ∈ xs, x.1.depth ≤ 8 := by
  obtain ⟨⟨o, arr, ep, xs, h1, h2, h3, h4, h5, h6, h7, h8, h9⟩, _⟩ := (show ObjOk X.prog X.w H s.heap a (DxV X.w a es) from I.hok a _ h)
  exact ⟨h8, h9, xs, h5, ⟨o, arr, ep, h1, h2, h3, h4, fun x hx => ⟨ky_is I x.1 (.ref x.2.1) (.ref x.2.1) (dxr_ky h5 hk x hx) rfl, h7 x hx⟩, h6⟩, h7⟩
theorem dx_new {P : Program} {w : World} {h : Heap} {xs : List (NestedKey × Addr × Value)} (hl : es.length ≤ sizeLine) (hd : (a == sysModules) = false) (r : DxR es xs) (d : h.DictOfH (nestedKind P w) a xs) : ObjOk P w H h a (DxV w a es) := by
  obtain ⟨o, arr, ep, h1, h2, h3, h4, h5, h6⟩ := d
  exact ⟨⟨o, arr, ep, xs, h1, h2, h3, h4, r, h6, fun x hx => (h5 x hx).2, hl, hd⟩, ⟨o, h1⟩, fun h1 h2 ⟨o, arr, ep, xs, e, r⟩ k => ⟨o, arr, ep, xs, k o e, r⟩⟩
theorem x_getItem {k : NestedKey} {b : Addr} {v : V} {Q : Value → Shared → Prop} (hu : A.units + 9 < cLine) (I : Inv X pins σ H s) (h : H a = some (DxV X.w a es)) (hk : ∀ e ∈ es, KyA X.K H e.1 (.ref e.2.1)) (hb : KyA X.K H k (.ref b)) (hd : k.depth ≤ 8) (hv : valN es k = some v)
    (q : ∀ w' s', Inv X pins σ H s' → RelV v w' → Q w' s') : wpAny (model X.prog X.w) A (getItem (.ref a) (.ref b)) Q E s := by
  obtain ⟨_, _, xs, rel, dd, _⟩ := dx_of I h hk
  obtain ⟨w', hw, rw'⟩ := RelO.some_of (v := v) (o := (atKey xs k).map (·.2)) (by rw [← hv]; exact rel.val k)
  obtain ⟨p, hp, hp2⟩ := Option.map_eq_some_iff.mp hw
  refine wpAny_getItem_heap (show (nestedKind X.prog X.w).room A.in1 from (show A.units + 1 + 8 < cLine by omega)) ⟨ky_is I k (.ref b) (.ref b) hb rfl, hd⟩ dd hp ?_
  rw [hp2]
  exact q w' _ (I.tok _) rw'
theorem x_setItem {k : NestedKey} {b : Addr} {v : V} {r : Value} {Q : Unit → Shared → Prop} (hu : A.units + 9 < cLine) (I : Inv X pins σ H s) (h : H a = some (DxV X.w a es)) (hk : ∀ e ∈ es, KyA X.K H e.1 (.ref e.2.1)) (hb : KyA X.K H k (.ref b)) (hd : k.depth ≤ 8) (hl : es.length < sizeLine) (rv : RelV v r)
    (q : ∀ s', Inv X pins σ (upd H a (DxV X.w a (storedV es k b v))) s' → Q () s') : wpAny (model X.prog X.w) A (setItem (.ref a) (.ref b) r) Q E s := by
  obtain ⟨z, hs, xs, rel, dd, _⟩ := dx_of I h hk
  have hz : xs.length ≤ sizeLine := by rw [← Paired.length rel]; exact z
  have hl' : (storedV es k b v).length ≤ sizeLine := by have := storedV_len es k b v; omega
  refine wpAny_setItem_heap (hsz := hz) (show (nestedKind X.prog X.w).room A.in1 from (show A.units + 1 + 8 < cLine by omega)) ⟨ky_is I k (.ref b) (.ref b) hb rfl, hd⟩ dd fun h' dd' hs' => q _ ?_
  obtain ⟨o, _, _, ho, _⟩ := id dd'
  exact d_write I (by rw [h]; exact True.intro) hs' ⟨o, ho⟩ (dx_new hl' hs (rel.put k b rv) dd')
end
def tXNew (W : World) : TE := fun _ H Q => ∀ p, H p = none → Q (.ref p) (upd H p (DxV W p []))
def rXGet (K : PySem.W.Frag) (W : World) : R2 := fun x y H Q => ∃ a es b k v, x = .ref a ∧ H a = some (DxV W a es) ∧ (∀ e ∈ es, KyA K H e.1 (.ref e.2.1)) ∧ y = .ref b ∧ KyA K H k (.ref b) ∧ k.depth ≤ 8 ∧ valN es k = some v ∧ Q v H
def sXPut (K : PySem.W.Frag) (W : World) (td ty tv : TE) : TS := fun D σ H => tv σ H fun v H1 => td σ H1 fun x H2 => ty σ H2 fun y H3 => ∃ a es b k, x = .ref a ∧ H3 a = some (DxV W a es) ∧ (∀ e ∈ es, KyA K H3 e.1 (.ref e.2.1)) ∧ y = .ref b ∧ KyA K H3 k (.ref b) ∧ k.depth ≤ 8 ∧ es.length < sizeLine ∧
  D.nx σ (upd H3 a (DxV W a (storedV es k b v)))
section
variable {X : Cx} {o i value : Expr} {pos pos' : Pos} {td ty tv : TE}
theorem pe_xnew : PE X (.Dict [] [] pos) (tXNew X.w) := ⟨fun pins s σ H Q I h =>
  wpAny_Dict_empty ⟨.ref s.heap.objs.size, _, I.laid (a := s.heap.objs.size) (o := DxV X.w s.heap.objs.size []) (t' := s.toks) (fun _ _ q => Heap.get?_push_of_some _ q) (Nat.le_refl _)
    (dx_new (P := X.prog) (xs := []) (Nat.zero_le _) (beq_eq_false_iff_ne.mpr (Ne.symm (Nat.ne_of_lt I.big))) .nil ⟨_, #[], 0, Heap.get?_push_size _ rfl, ⟨rfl, rfl, rfl⟩, rfl, rfl, (fun x hx => by cases hx), List.nodup_nil⟩), rfl, h _ (I.hok.fresh (Nat.le_refl _))⟩⟩
theorem pe_xget (hu : X.A.units + 9 < cLine) (ho : PE X o td) (hi : PE X i ty) (hs : NoSl i) : PE X (.Subscript o i pos) (fun σ H Q => td σ H fun x H1 => ty σ H1 fun y H2 => rXGet X.K X.w x y H2 Q) := by
  refine ⟨fun pins s σ H Q I h => ?_⟩
  refine subD_of PySem.F.slot_dict_getitem.lookup hs (thn (ho.run pins s σ H _ I h) fun u s1 ⟨x, H1, I1, rx, q1⟩ => thn (hi.run pins s1 σ H1 _ I1 q1) fun iv s2 ⟨y, H2, I2, ry, a, es, b, k, v, ex, ha, hk, ey, hb, hd, hv, q2⟩ => ?_)
  subst ex ey
  obtain rfl : u = Value.ref a := rx
  obtain rfl : iv = Value.ref b := ry
  obtain ⟨_, _, xs, rel, dd, _⟩ := dx_of I2 ha hk
  exact ⟨dd.typeIs, x_getItem hu I2 ha hk hb hd hv fun w' s3 I3 rw' => ⟨v, H2, I3, rw', q2⟩⟩
theorem ps_xput (hu : X.A.units + 9 < cLine) (ho : PE X o td) (hi : PE X i ty) (hv : PE X value tv) (hs : swapsWith value (some (.Subscript o i pos')) pos.line X.env = pure false) :
    L2.PS X (.Assign [.Subscript o i pos'] value pos) (sXPut X.K X.w td ty tv) := by
  refine ⟨fun pins s σ H D I h => ?_⟩
  refine wpAny_Assign_Subscript (thn (hv.run pins s σ H _ I h) fun r s1 ⟨v, H1, I1, rv, q1⟩ => thn (ho.run pins s1 σ H1 _ I1 q1) fun u s2 ⟨x, H2, I2, rx, q2⟩ => thn (hi.run pins s2 σ H2 _ I2 q2) fun iv s3 ⟨y, H3, I3, ry, a, es, b, k, ex, ha, hk, ey, hb, hd, hl, q3⟩ => ?_) hs
  subst ex ey
  obtain rfl : u = Value.ref a := rx
  obtain rfl : iv = Value.ref b := ry
  exact x_setItem hu I3 ha hk hb hd hl rv fun s4 I4 => ⟨σ, _, I4, q3⟩
end
end PL
namespace PL
open PySem PySem.Spec PyProof.Rows L2
variable [HasT]
def lookN : List NestedKey → List D → NestedKey → Option D
  | k :: ks, d :: ds, q => if k = q then some d else lookN ks ds q
  | _, _, _ => none
def putNs (ks : List NestedKey) (q : NestedKey) : List NestedKey := if (ks.any fun k => decide (k = q)) = true then ks else ks ++ [q]
def putNd (ks : List NestedKey) (ds : List D) (q : NestedKey) (d : D) : List D := if (ks.any fun k => decide (k = q)) = true then (ks.zip ds).map (fun p => if p.1 = q then d else p.2) else ds ++ [d]
section
variable {K : PySem.W.Frag} {mg : Str → Option Value}
theorem lookN_rep {F : Hp} {q : NestedKey} {d : D} : ∀ {ks : List NestedKey} {ds : List D} {es : DxE}, es.map (·.1) = ks → RepL K mg F ds (es.map (·.2.2)) → lookN ks ds q = some d → ∃ v, valN es q = some v ∧ Rep K mg F d v
  | [], _, _, _, _, e => by simp [lookN] at e
  | _ :: _, [], _, _, _, e => by simp [lookN] at e
  | k :: ks, d0 :: ds, [], h, _, _ => by simp at h
  | k :: ks, d0 :: ds, kv :: es, h, r, e => by
    simp at h
    obtain ⟨x, t, e1, r1, r2⟩ := r
    simp at e1
    unfold lookN at e
    by_cases hq : k = q
    · rw [if_pos hq] at e; cases e
      refine ⟨kv.2.2, ?_, by rw [e1.1]; exact r1⟩
      unfold valN
      simp [List.find?_cons, h.1, hq]
    · rw [if_neg hq] at e
      obtain ⟨v, hv, rv⟩ := lookN_rep h.2 (by rw [e1.2]; exact r2) e
      refine ⟨v, ?_, rv⟩
      unfold valN at hv ⊢
      simp only [List.find?_cons, h.1, hq, decide_false]
      exact hv
theorem putN_in {F : Hp} {q : NestedKey} {d : D} {v : V} (r : Rep K mg F d v) : ∀ {es : DxE} {ks : List NestedKey} {ds : List D}, es.map (·.1) = ks → RepL K mg F ds (es.map (·.2.2)) →
    (es.map (fun e => if e.1 = q then (e.1, e.2.1, v) else e)).map (·.1) = ks ∧ RepL K mg F ((ks.zip ds).map (fun p => if p.1 = q then d else p.2)) ((es.map (fun e => if e.1 = q then (e.1, e.2.1, v) else e)).map (·.2.2))
  | [], _, ds, h, rl => by
    subst h
    exact ⟨rfl, rfl⟩
  | kv :: es, _, [], h, rl => by
    exact absurd (show (kv :: es).map (·.2.2) = [] from rl) (by simp)
  | kv :: es, _, d0 :: ds, h, rl => by
    subst h
    obtain ⟨x, t, e1, r1, r2⟩ := rl
    rw [List.map_cons] at e1
    injection e1 with e1 e2
    obtain ⟨h1, h2⟩ := putN_in r (es := es) (ds := ds) rfl (by rw [e2]; exact r2)
    simp only [List.map_cons, List.zip_cons_cons]
    by_cases hq : kv.1 = q
    · simp only [hq, if_true]
      exact ⟨by rw [h1], v, _, rfl, r, h2⟩
    · simp only [hq, if_false]
      exact ⟨by rw [h1], kv.2.2, _, rfl, by rw [e1]; exact r1, h2⟩
theorem putN_rep {F : Hp} {q : NestedKey} {b : Addr} {d : D} {v : V} {es : DxE} {ks : List NestedKey} {ds : List D} (h : es.map (·.1) = ks) (rl : RepL K mg F ds (es.map (·.2.2))) (hk : ∀ e ∈ es, KyA K F e.1 (.ref e.2.1)) (hb : KyA K F q (.ref b)) (r : Rep K mg F d v) :
    (storedV es q b v).map (·.1) = putNs ks q ∧ (∀ e ∈ storedV es q b v, KyA K F e.1 (.ref e.2.1)) ∧ RepL K mg F (putNd ks ds q d) ((storedV es q b v).map (·.2.2)) := by
  have e : (es.any fun kv => decide (kv.1 = q)) = ks.any fun k => decide (k = q) := by
    subst h
    rw [List.any_map]
    rfl
  unfold storedV putNs putNd
  rw [e]
  by_cases hb' : (ks.any fun k => decide (k = q)) = true
  · rw [if_pos hb', if_pos hb', if_pos hb']
    refine ⟨(putN_in r h rl).1, fun x hx => ?_, (putN_in r h rl).2⟩
    obtain ⟨y, hy, rfl⟩ := List.mem_map.mp hx
    have := hk y hy
    by_cases hq : y.1 = q
    · rw [if_pos hq]; exact this
    · rw [if_neg hq]; exact this
  · rw [if_neg hb', if_neg hb', if_neg hb']
    refine ⟨by rw [List.map_append, h]; rfl, fun x hx => ?_, ?_⟩
    · rcases List.mem_append.mp hx with hx | hx
      · exact hk x hx
      · rw [List.mem_singleton.mp hx]; exact hb
    · rw [List.map_append]
      exact RepL.app K mg rl (RepL.one K mg r)
theorem See.dix {F H : Hp} {W : World} {ks : List NestedKey} {ds : List D} {v : V} (h : See K mg F H (.dix W ks ds) v) (s : Mono F H) : ∃ a es, v = .ref a ∧ H a = some (DxV W a es) ∧ es.map (·.1) = ks ∧ (∀ e ∈ es, KyA K F e.1 (.ref e.2.1)) ∧ RepL K mg F ds (es.map (·.2.2)) := by
  rcases h with ⟨a, es, e, h1, h2⟩ | ⟨ft, a, es, e, _, h1, h2⟩
  · exact ⟨a, es, e, s.ext h1, h2⟩
  · exact ⟨a, es, e, h1, h2⟩
theorem new_dix {F H : Hp} {W : World} {p : Addr} {es : DxE} {ks : List NestedKey} {ds : List D} (h : H p = none) (s : Mono F H) (m : es.map (·.1) = ks) (hk : ∀ e ∈ es, KyA K F e.1 (.ref e.2.1)) (r : RepL K mg F ds (es.map (·.2.2))) : NewR K mg H F (upd H p (DxV W p es)) (.tmp (.dix W ks ds)) (.ref p) :=
  ⟨[p], ⟨p, es, rfl, rfl, upd_same, m, hk, r⟩, fun b hb => by
    have e : b = p := by simpa using hb
    subst e
    exact ⟨fresh_F s h, by rw [upd_same]; simp, h⟩⟩
/-- d[k] -/
def gXGet : G2 := fun d e Q => match d, nkD e with
  | .dix W ks ds, some (.tup q) => W = HasT.W ∧ (NestedKey.tup q).depth ≤ 8 ∧ match lookN ks ds (.tup q) with
    | some x => Q (.val x)
    | none => False
  | _, _ => False
theorem ky_ref {F : Hp} {q : List NestedKey} {v : V} (h : KyA K F (.tup q) v) : ∃ b, v = .ref b := by
  obtain ⟨a, _, e, _⟩ := h
  exact ⟨a, e⟩
theorem See.ky {F H : Hp} {d : D} {q : List NestedKey} {v : V} (h : See K mg F H d v) (s : Mono F H) (e : nkD d = some (.tup q)) : KyA K H (.tup q) v := by
  cases d with
  | tup ds =>
    rcases h with h | ⟨ft, h⟩
    · exact (nk_rep _ _ _ h e).mono K s _ _
    · exact h.elim
  | _ => cases e
theorem op2_xget {W : World} (hw : HasT.W = W) : Op2 K mg (rXGet K W) gXGet := by
  intro F H d e v u Qg Q s h1 h2 hg k
  unfold gXGet at hg
  split at hg
  next W' ks ds q hq =>
    obtain ⟨rfl, hd, hg⟩ := hg
    split at hg
    next x hx =>
      obtain ⟨a, es, rfl, ha, hm, hk, rp⟩ := h1.dix s
      have hb := h2.ky s hq
      obtain ⟨b, rfl⟩ := ky_ref hb
      obtain ⟨w, hw', rw'⟩ := lookN_rep hm rp hx
      refine ⟨a, es, b, .tup q, w, rfl, by rw [← hw]; exact ha, fun x hx => (hk x hx).mono K s _ _, rfl, hb, hd, hw', fin_val s k rw' hg⟩
    next => exact hg.elim
  next => exact hg.elim
end
def wDix0 : WE := fun ρ Q _ => Q (.tmp (.dix HasT.W [] [])) ρ
def isDix (ρ : Env) (i : Nat) : Prop := match ρ[i]? with
  | some (some (.own _ (.dix _ _ _))) => True
  | _ => False
/-- d[k] = v, d the object of slot i -/
def wPutX (i : Nat) (wk wv : WE) : WS := fun Dp ρ => wK wv ρ (fun d ρ1 => isDix ρ1 i ∧ wK wk ρ1 (fun e ρ2 => match ρ2[i]?, nkD e with
  | some (some (.own b (.dix W ks ds))), some (.tup q) => W = HasT.W ∧ (NestedKey.tup q).depth ≤ 8 ∧ ks.length < sizeLine ∧ Dp.nx (ρ2.set i (some (.own b (.dix W (putNs ks (.tup q)) (putNd ks ds (.tup q) d)))))
  | _, _ => False) Dp.ex) Dp.ex
section
variable {X : Cx} {XE : XK} {k : Nat}
theorem pd_dix0 (hw : HasT.W = X.w) {pos : Pos} : PdE X XE (.Dict [] [] pos) wDix0 := by
  refine ⟨_, pe_xnew, fun c Qp Ep Q ok hw' x k => ?_⟩
  intro p hp
  have st := Step.new (o := DxV X.w p []) ok.sub hp (by intro xs z; cases z)
  exact k (.ref p) { c with H := upd c.H p (DxV X.w p []) } (.tmp (.dix HasT.W [] [])) (st.go ok) rfl (newR_rr (Go.refl _ _ ok) st (by rw [hw]; exact new_dix hp ok.sub rfl (fun _ h => by cases h) rfl)) hw'
theorem go_xget (hw : HasT.W = X.w) (C : Cc X XE k) {a b : Expr} {wa wb : WE} {pos : Pos} (ha : PdE X XE a wa) (hb : PdE X XE b wb) (hs : NoSl b := by exact fun _ _ => rfl) : PdE X XE (.Subscript a b pos) (wOp2 gXGet wa wb) := by
  obtain ⟨ta, pa, sa⟩ := ha
  obtain ⟨tb, pb, sb⟩ := hb
  exact ⟨_, pe_xget (by have := C.u65; omega) pa pb hs, op2_run (r := rXGet X.K X.w) (a := a) (b := b) (op2_xget hw) sa sb⟩
theorem pst_putX (hw : HasT.W = X.w) {i : Nat} {x : Str} {e ek : Expr} {p pos' pos : Pos} {wk wv : WE} (C : Cc X XE k) (hx : PE X (.Name x p) (tVar i)) (hv : PdE X XE e wv) (hk : PdE X XE ek wk)
    (hs : swapsWith e (some (.Subscript (.Name x p) ek pos')) pos.line X.env = pure false := by rfl) : PdS X XE (.Assign [.Subscript (.Name x p) ek pos'] e pos) (wPutX i wk wv) := by
  obtain ⟨tv, pv, sv⟩ := hv
  obtain ⟨tk, pk, sk⟩ := hk
  refine ⟨_, ps_xput (by have := C.u65; omega) hx pk pv hs, fun c Dp D ok hw' P => ?_⟩
  refine runK (e := e) sv ok hw' (P.2.2.2.2.ex X.K X.mg) fun v c1 d g1 e1 r1 h01 => ?_
  obtain ⟨h0, h1⟩ := h01
  have main : ∀ v0, c1.σ[i]? = some (some v0) → tk c.σ c1.H fun y H3 => ∃ a es b kk, v0 = V.ref a ∧ H3 a = some (DxV X.w a es) ∧ (∀ e ∈ es, KyA X.K H3 e.1 (.ref e.2.1)) ∧ y = .ref b ∧ KyA X.K H3 kk (.ref b) ∧ kk.depth ≤ 8 ∧ es.length < sizeLine ∧ D.nx c.σ (upd H3 a (DxV X.w a (storedV es kk b v))) := fun v0 hv0 => by
    rw [← e1]
    refine runK (e := ek) sk g1.ok h1 ((P.2.2.2.2.go X.K X.mg g1).ex X.K X.mg) fun y c2 ed g2 e2 r2 h2 => ?_
    split at h2
    next b W ks ds q hρ hq =>
      obtain ⟨rfl, hd, hzz, h2⟩ := h2
      have g12 := g1.trans X.K X.mg g2
      obtain ⟨v1, hv1, a, es, rfl, hft, ha, hm, hky, rg⟩ := g2.ok.own (c := c2) hρ
      rw [e2, hv0] at hv1; cases hv1
      have hyF := nk_rep _ _ _ r2 hq
      obtain ⟨bk, rfl⟩ := ky_ref hyF
      have pr := putN_rep (q := .tup q) (b := bk) hm rg hky hyF (r1.mono X.K X.mg g2.fr.mono _ _)
      have ln : es.length < sizeLine := by rw [← hm] at hzz; simpa using hzz
      rw [hw] at ha
      refine ⟨a, es, bk, .tup q, rfl, ha, fun z hz => (hky z hz).mono X.K g2.ok.sub _ _, rfl, hyF.mono X.K g2.ok.sub _ _, hd, ln, ?_⟩
      have hv1' : c2.σ[i]? = some (some (V.ref a)) := by rw [e2]; exact hv0
      have g4 := write_slot (H' := upd c2.H a (DxV X.w a (storedV es (.tup q) bk v))) (d' := .dix HasT.W (putNs ks (.tup q)) (putNd ks ds (.tup q) d)) g2.ok hρ hv1' ⟨a, _, rfl, hft, by rw [hw]; exact upd_same, pr.1, pr.2.1, pr.2.2⟩ (fun b hb => by rw [hft] at hb; exact upd_ne (by simpa using hb)) fun b hb => by
        rw [hft] at hb
        have : b = a := by simpa using hb
        subst this
        rw [upd_same]; simp
      have := P.1 _ (g12.trans X.K X.mg g4) h2
      rw [← e2] at *
      exact this
    next => exact h2.elim
  have there : ∃ v0, c1.σ[i]? = some (some v0) := by
    unfold isDix at h0
    split at h0
    next b ks ds hρ =>
      obtain ⟨v1, hv1, _⟩ := g1.ok.own hρ
      exact ⟨v1, hv1⟩
    next => exact h0.elim
  obtain ⟨v0, hv0⟩ := there
  exact ⟨v0, by rw [← e1]; exact hv0, main v0 hv0⟩
end
end PL
namespace PL
open PySem PySem.Spec PyProof.Rows L2
variable [HasT]
def mergeV (es more : DxE) : DxE := more.foldl (fun acc e => storedV acc e.1 e.2.1 e.2.2) es
theorem mergeV_len : ∀ (more es : DxE), (mergeV es more).length ≤ es.length + more.length
  | [], es => Nat.le_refl _
  | e :: more, es => by
    have := mergeV_len more (storedV es e.1 e.2.1 e.2.2)
    have l := storedV_len es e.1 e.2.1 e.2.2
    show (mergeV (storedV es e.1 e.2.1 e.2.2) more).length ≤ _
    rw [List.length_cons]
    omega
theorem DxR.merge : ∀ {more : DxE} {rs : List (NestedKey × Addr × Value)} {es : DxE} {vs : List (NestedKey × Addr × Value)}, DxR more rs → DxR es vs → DxR (mergeV es more) (storedAllH vs rs)
  | _, _, _, _, .nil, q => q
  | _, _, _, _, .cons (a := kv) (b := x) h t, q => by
    obtain ⟨h1, h2, h3⟩ := h
    have := DxR.merge t (q.put kv.1 kv.2.1 h3)
    show DxR (mergeV (storedV _ kv.1 kv.2.1 kv.2.2) _) (storedAllH (storedH _ x.1 x.2.1 x.2.2) _)
    rw [← h1, ← h2]
    exact this
/-- the pairs of a list: tuples of a key and a value -/
abbrev PNs (K : PySem.W.Frag) (H : Hp) : List Addr → DxE → Prop := Paired fun p e => SqT K H p [.ref e.2.1, e.2.2] ∧ KyA K H e.1 (.ref e.2.1) ∧ e.1.depth ≤ 8
def rDictPN (K : PySem.W.Frag) (W : World) : List V → Hp → VK → Prop := fun xs H Q => ∃ (a : Addr) (ps : List Addr) (es : DxE), xs = [.ref a] ∧ SqL K H a (ps.map V.ref) ∧ PNs K H ps es ∧
    ∀ p, H p = none → Q (.ref p) (upd H p (DxV W p (mergeV [] es)))
section
variable {X : Cx} {XE : XK}
theorem pairsN_of {pins : List (Addr × Obj)} {σ : L2.St} {H : Hp} {s : Shared} (I : Inv X pins σ H s) : ∀ {ps : List Addr} {es : DxE}, PNs X.K H ps es →
    ∃ prs : List (NestedKey × Addr × Value), DxR es prs ∧ prs.length = ps.length ∧ ∀ (j : Nat) (x : NestedKey × Addr × Value), prs[j]? = some x → ∃ b, ps[j]? = some b ∧ s.heap.IsTuple b #[.ref x.2.1, x.2.2] ∧ (nestedKind X.prog X.w).is s.heap x.1 x.2.1
  | _, _, .nil => ⟨[], .nil, rfl, fun j q e => by simp at e⟩
  | _, _, .cons (a := p) (b := kv) h t => by
    obtain ⟨prs, r, hl, hp⟩ := pairsN_of I t
    obtain ⟨h1, h2, h3⟩ := h
    obtain ⟨its, rv, ht, _⟩ := I.tuple h1
    obtain ⟨u, y, ei, ru, ry⟩ := vals2 rv
    subst ei
    cases ru
    refine ⟨(kv.1, kv.2.1, y) :: prs, .cons ⟨rfl, rfl, ry⟩ r, by rw [List.length_cons, List.length_cons, hl], fun j x e => ?_⟩
    cases j with
    | zero =>
      have e' : (kv.1, kv.2.1, y) = x := Option.some.inj e
      subst e'
      exact ⟨p, rfl, ht, ky_is I kv.1 _ _ h2 rfl, h3⟩
    | succ j =>
      obtain ⟨b, e1, e2, e3⟩ := hp j x (by simpa using e)
      exact ⟨b, by simpa using e1, e2, e3⟩
theorem call_dictPN (hcalm : X.calm = true) (hu : X.A.units + 11 < cLine) : CallR X (.type "dict") (rDictPN X.K X.w) := by
  intro pins s σ H xs us Q I r q
  obtain ⟨a, ps, kvs, ex, hq, hp, q⟩ := q
  subst ex
  obtain ⟨u, eu, rx⟩ := vals1 r
  subst eu
  cases rx
  obtain ⟨its, rv, pl, hz⟩ := I.list hq
  have ei := refs_at rv
  subst ei
  rw [List.length_map] at hz
  obtain ⟨prs, rel, hl, hpr⟩ := pairsN_of I hp
  have hk : kvs.length = prs.length := Paired.length rel
  obtain ⟨o, n, ho, hc, hd, hdat⟩ := pl
  have ok : PlainSeq "list" s.heap a (ps.map Value.ref).toArray ∧ PairItems s.heap (ps.map Value.ref).toArray (fun j => ps.getD j 0) (prs.map fun x => (Value.ref x.2.1, x.2.2)) := by
    refine ⟨⟨o, n, ho, hc, hd, hdat⟩, by simp [hl], fun j k v e => ?_⟩
    rw [List.getElem?_map] at e
    cases z : prs[j]? with
    | none => rw [z] at e; cases e
    | some x =>
      rw [z] at e
      cases e
      obtain ⟨b, e1, e2, _⟩ := hpr j x z
      have eb : ps.getD j 0 = b := by rw [List.getD_eq_getElem?_getD, e1]; rfl
      exact ⟨by show _ = some (Value.ref (ps.getD j 0)); rw [eb]; simp [e1], by show PairAt s.heap (ps.getD j 0) _ _; rw [eb]; exact .inl e2⟩
  refine call_dict_pairsH (knd := nestedKind X.prog X.w) (ps := prs) (PairArg.list a _ _ _) (I.ok.hd hcalm) (show X.A.units + 1 + 1 + 8 < cLine by omega) ok ⟨by simp, fun i key v e => ?_⟩ (fun h' hk' x hx => ?_) (by simp; omega) fun h' tk hd' hk' => ?_
  · have e : (prs.map fun x => (Value.ref x.2.1, x.2.2))[i]? = some (key, v) := e
    rw [List.getElem?_map] at e
    cases z : prs[i]? with
    | none => rw [z] at e; cases e
    | some x =>
      rw [z] at e
      cases e
      exact ⟨x.1, x.2.1, rfl, rfl⟩
  · obtain ⟨j, hj⟩ := List.getElem?_of_mem hx
    obtain ⟨b, e1, e2, e3⟩ := hpr j x hj
    exact nestedKind_stays.stays (fun b' o' vs' n' e _ => hk' b' o' (Nat.ne_of_lt (Heap.lt_size e)) (fun z => nomatch z) e) e3
  · have hm : (s.heap.objs.size == sysModules) = false := beq_eq_false_iff_ne.mpr (Nat.ne_of_gt I.big)
    have hlen : (mergeV [] kvs).length ≤ sizeLine := by
      refine Nat.le_trans (mergeV_len kvs []) ?_
      rw [List.length_nil, Nat.zero_add, hk, hl]
      exact hz
    have hn : H s.heap.objs.size = none := I.hok.fresh (Nat.le_refl _)
    exact ⟨.ref s.heap.objs.size, upd H s.heap.objs.size (DxV X.w s.heap.objs.size (mergeV [] kvs)), I.laid (t' := tk) (fun b o e => hk' b o (fun z => nomatch z) e) (Nat.le_refl _) (dx_new (P := X.prog) hlen hm (DxR.merge rel .nil) hd'), rfl, q _ hn⟩
end
def pairsN : List D → Option (List (NestedKey × D))
  | [] => some []
  | .tup [k, d] :: r => match nkD k with
    | some (.tup q) => if (NestedKey.tup q).depth ≤ 8 then (pairsN r).map ((.tup q, d) :: ·) else none
    | _ => none
  | _ :: _ => none
def mergeN : List (NestedKey × D) → List NestedKey → List D → List NestedKey × List D
  | [], ks, ds => (ks, ds)
  | (q, d) :: r, ks, ds => mergeN r (putNs ks q) (putNd ks ds q d)
def gDictX : GN := fun ds Q => match ds with
  | [.lst xs] => match pairsN xs with
    | some ps => Q (.tmp (.dix HasT.W (mergeN ps [] []).1 (mergeN ps [] []).2))
    | none => False
  | _ => False
section
variable {K : PySem.W.Frag} {mg : Str → Option Value}
theorem mergeN_rep {F : Hp} : ∀ {ps : List (NestedKey × D)} {kvs acc : DxE} {ks : List NestedKey} {ds : List D}, kvs.map (·.1) = ps.map (·.1) → (∀ e ∈ kvs, KyA K F e.1 (.ref e.2.1)) → RepL K mg F (ps.map (·.2)) (kvs.map (·.2.2)) →
    acc.map (·.1) = ks → (∀ e ∈ acc, KyA K F e.1 (.ref e.2.1)) → RepL K mg F ds (acc.map (·.2.2)) → (mergeV acc kvs).map (·.1) = (mergeN ps ks ds).1 ∧ (∀ e ∈ mergeV acc kvs, KyA K F e.1 (.ref e.2.1)) ∧ RepL K mg F (mergeN ps ks ds).2 ((mergeV acc kvs).map (·.2.2))
  | [], [], acc, ks, ds, _, _, _, h3, h4, h5 => ⟨h3, h4, h5⟩
  | [], _ :: _, _, _, _, h, _, _, _, _, _ => by simp at h
  | _ :: _, [], _, _, _, h, _, _, _, _, _ => by simp at h
  | (q, d) :: ps, kv :: kvs, acc, ks, ds, h, hk, r, h3, h4, h5 => by
    obtain ⟨x, t, e1, r1, r2⟩ := r
    rw [List.map_cons] at e1
    injection e1 with e1 e2
    simp only [List.map_cons, List.cons.injEq] at h
    have hb : KyA K F q (.ref kv.2.1) := by rw [← h.1]; exact hk kv (by simp)
    have pr := putN_rep (q := q) (b := kv.2.1) h3 h5 h4 hb (show Rep K mg F d kv.2.2 by rw [e1]; exact r1)
    have := mergeN_rep (ps := ps) (kvs := kvs) (acc := storedV acc q kv.2.1 kv.2.2) (ks := putNs ks q) (ds := putNd ks ds q d) h.2 (fun e he => hk e (by simp [he])) (by rw [e2]; exact r2) pr.1 pr.2.1 pr.2.2
    show (mergeV (storedV acc kv.1 kv.2.1 kv.2.2) kvs).map (·.1) = _ ∧ (∀ e ∈ mergeV (storedV acc kv.1 kv.2.1 kv.2.2) kvs, _) ∧ RepL K mg F _ ((mergeV (storedV acc kv.1 kv.2.1 kv.2.2) kvs).map (·.2.2))
    rw [h.1]
    exact this
theorem pairsN_rep {F H : Hp} (s : Mono F H) : ∀ {ds : List D} {xs : List V} {ps : List (NestedKey × D)}, RepL K mg F ds xs → pairsN ds = some ps → ∃ as kvs, xs = as.map V.ref ∧ PNs K H as kvs ∧ kvs.map (·.1) = ps.map (·.1) ∧ (∀ e ∈ kvs, KyA K F e.1 (.ref e.2.1)) ∧ RepL K mg F (ps.map (·.2)) (kvs.map (·.2.2))
  | [], _, _, h, e => by
    cases e
    rw [show _ = [] from h]
    exact ⟨[], [], rfl, .nil, rfl, (fun e he => by cases he), rfl⟩
  | d :: ds, _, ps, h, e => by
    obtain ⟨x, r, rfl, h1, h2⟩ := h
    unfold pairsN at e
    split at e
    next => contradiction
    next _ k' d' r' e' =>
      cases e'
      split at e
      next q hq =>
        by_cases hd : (NestedKey.tup q).depth ≤ 8
        · rw [if_pos hd] at e
          cases hp : pairsN ds with
          | none => rw [hp] at e; cases e
          | some pt =>
            rw [hp] at e
            cases e
            obtain ⟨as, kvs, rfl, p1, p2, p4, p3⟩ := pairsN_rep s h2 hp
            obtain ⟨a, ys, rfl, ha, ra⟩ := h1
            obtain ⟨u, t, rfl, ru, rt⟩ := ra
            obtain ⟨u2, t2, rfl, ru2, rt2⟩ := rt
            obtain rfl : t2 = [] := rt2
            have ky := nk_rep _ _ _ ru hq
            obtain ⟨b, rfl⟩ := ky_ref ky
            refine ⟨a :: as, (.tup q, b, u2) :: kvs, rfl, .cons ⟨s.sqT K ha, ky.mono K s _ _, hd⟩ p1, by simp [p2], fun e he => ?_, u2, _, rfl, ru2, p3⟩
            rcases List.mem_cons.mp he with rfl | he
            · exact ky
            · exact p4 e he
        · rw [if_neg hd] at e; cases e
      next => cases e
    next => cases e
theorem opn_dictX {W : World} (hw : HasT.W = W) : OpN K mg (rDictPN K W) gDictX := by
  intro F H ds vs Qg Q s h hg k
  unfold gDictX at hg
  split at hg
  next xs =>
    obtain ⟨v, rfl, h1⟩ := seeL1 h
    obtain ⟨a, zs, rfl, ha, ra⟩ := h1.lst s
    split at hg
    next ps hp =>
      obtain ⟨as, kvs, rfl, p1, p2, p4, p3⟩ := pairsN_rep s ra hp
      have mr := mergeN_rep (acc := []) (ks := []) (ds := []) p2 p4 p3 rfl (fun e he => by cases he) rfl
      refine ⟨a, as, kvs, rfl, SqL.of ha, p1, fun p hp => k _ _ _ _ (Step.new (o := DxV W p (mergeV [] kvs)) s hp (by intro xs z; cases z)) ?_ hg⟩
      rw [hw]
      exact new_dix hp s mr.1 mr.2.1 mr.2.2
    next => exact hg.elim
  next => exact hg.elim
end
section
variable {X : Cx} {XE : XK} {k : Nat} {p pos : Pos} {e : Expr} {w : WR}
theorem go_dictX (hw : HasT.W = X.w) (C : Cc X XE k) (hm : X.mg "dict" = none) (ha : PdV X XE [e] w) (gl : Gl X "dict" := by rfl) (he : starEach [e] X.env = (false, eval e X.env) :: starEach [] X.env := by rfl) (hpl : (backTo pos (starEach [] X.env)).any (·.1) = false := by rfl) : PdE X XE (.Call (.Name "dict" p) [e] [] pos) (wCall gDictX w) :=
  pd_callTy (call_dictPN C.calm (by have := C.u65; omega)) (opn_dictX hw) gl hm (by decide +kernel) ha (by decide) (by decide) he hpl
end
end PL
namespace PL
open PySem PySem.Spec PyProof.Rows L2
/-- the key that an element of a set's table is -/
def kyOf (e : Int × Value) : Key := match e.2 with
  | .int k _ => .inl k
  | .str x _ => .inr x
  | _ => .inl 0
def GdM (w : World) (e : Int × Value) : Prop := ∃ k, keyIs k e.2 = true ∧ e.1 = keyH w k
/-- the set of ints and texts at a: S its members, n their number -/
def SetM (w : World) (h : Heap) (a : Addr) (S : Key → Bool) (n : Nat) : Prop :=
  ∃ ob es ep tb, h.get? a = some ob ∧ ob.ExactSet ∧ ob.data = .set es ep tb ∧ (∀ e ∈ es.toList, GdM w e) ∧ (es.toList.map kyOf).Nodup ∧ (∀ k, S k = true ↔ k ∈ es.toList.map kyOf) ∧
    es.size < scanBound ∧ tb.fits es.size = true ∧ es.size = n ∧ Ris tb.place.toList ∧ (w.params.followText "set-order" = true ∨ tb.led = true)
theorem ky_scan {k : Key} {v : Value} (h : keyIs k v = true) : v.scannable = true := by
  rcases keyIs_shape h with ⟨i, t, _, rfl⟩ | ⟨x, t, _, rfl⟩ <;> rfl
theorem ky_of {k : Key} {v : Value} {z : Int} (h : keyIs k v = true) : kyOf (z, v) = k := by
  rcases keyIs_shape h with ⟨i, t, rfl, rfl⟩ | ⟨x, t, rfl, rfl⟩ <;> rfl
section
variable {P : Program} {w : World} {h h' : Heap} {a : Addr} {S : Key → Bool} {n : Nat}
theorem SetM.at (R : SetM w h a S n) (k : ∀ o, h.get? a = some o → h'.get? a = some o) : SetM w h' a S n := by
  obtain ⟨ob, es, ep, tb, h1, r⟩ := R
  exact ⟨ob, es, ep, tb, k ob h1, r⟩
theorem SetM.same {S' : Key → Bool} (R : SetM w h a S n) (e : ∀ k, S' k = S k) : SetM w h a S' n := by
  rw [show S' = S from funext e]; exact R
theorem gdM_elems {l : List (Int × Value)} (g : ∀ e ∈ l, GdM w e) : ElemsOf (mixKind P w) l := fun e he => by
  obtain ⟨k, h1, h2⟩ := g e he
  exact ⟨⟨k, h1, h2⟩, ky_scan h1⟩
theorem gdM_is {e : Int × Value} (g : GdM w e) (k : Key) : keyIs k e.2 = true ↔ kyOf e = k := by
  obtain ⟨k0, h1, _⟩ := g
  obtain ⟨z, v⟩ := e
  exact ⟨fun h => ky_of h, fun h => by rw [ky_of h1] at h; exact h ▸ h1⟩
theorem gdM_mem {l : List (Int × Value)} (g : ∀ e ∈ l, GdM w e) (k : Key) : k ∈ l.map kyOf ↔ ∃ e ∈ l, keyIs k e.2 = true := by
  rw [List.mem_map]
  exact ⟨fun ⟨e, he, q⟩ => ⟨e, he, (gdM_is (g e he) k).2 q⟩, fun ⟨e, he, q⟩ => ⟨e, he, (gdM_is (g e he) k).1 q⟩⟩
end
section
variable {P : Program} {w : World} {A : Around} {E : Value → Shared → Prop} {s : Shared} {a : Addr} {S : Key → Bool} {n : Nat}
theorem setM_tail {g : Bool → Sem Unit} (hg : ∀ (b : Bool) (s₁ : Shared) (Q' : Unit → Shared → Prop), Q' () s₁ → wpAny (model P w) A (g b) Q' E s₁)
    {ob : Obj} {es : Array (Int × Value)} {ep : Nat} {tb : SetTable} (h1 : s.heap.get? a = some ob) (h2 : ob.ExactSet) (h3 : ob.data = .set es ep tb)
    {ez : Array (Int × Value)} {tz : SetTable} {S' : Key → Bool} (gz : ∀ e ∈ ez.toList, GdM w e) (nz : (ez.toList.map kyOf).Nodup) (mz : ∀ k, S' k = true ↔ k ∈ ez.toList.map kyOf)
    (bz : ez.size < scanBound) (fz : tz.fits ez.size = true) (rz : Ris tz.place.toList) (lz : w.params.followText "set-order" = true ∨ tz.led = true) {wasDummy : Bool} {R : Option Bool → Shared → Prop}
    (hR : ∀ h', Heap.SameBut a s.heap h' → SetM w h' a S' ez.size → R (some true) { s with heap := h' }) :
    wpAny (model P w) A (do
        storeSet a ez tz
        if (!wasDummy && tz.tooFull) = true then do
            g (relayAll tz ez (SetTable.grown ez.size)).2.2
            storeSet a (relayAll tz ez (SetTable.grown ez.size)).1 (relayAll tz ez (SetTable.grown ez.size)).2.1
            pure (some true)
          else pure (some true)) R E s := by
  refine wpAny_bind (wpAny_storeSet_of h1 h3 ?_ (fits_of_scanBound bz))
  have st1 := store_at (es' := ez) (t' := tz) h1 h3
  have same := Heap.SameBut.update s.heap a (Obj.putSet ez tz)
  split
  · have q1 := relayAll_perm tz ez (SetTable.grown ez.size)
    have q2 := relayAll_fits tz ez (SetTable.grown ez.size)
    have q3 := relayAll_ris tz ez (SetTable.grown ez.size)
    have q4 := relayAll_led tz ez (SetTable.grown ez.size)
    generalize relayAll tz ez (SetTable.grown ez.size) = Z at q1 q2 q3 q4 ⊢
    obtain ⟨ey, ty, gv⟩ := Z
    dsimp only at q1 q2 q3 q4 ⊢
    have sz : ey.size = ez.size := by rw [← Array.length_toList, q1.length_eq, Array.length_toList]
    refine wpAny_bind (hg _ _ _ ?_)
    refine wpAny_bind (wpAny_storeSet_of st1 rfl ?_ (fits_of_scanBound (by rw [sz]; exact bz)))
    refine wpAny_pure (hR _ (same.trans (Heap.SameBut.update _ a _)) ?_)
    exact ⟨_, ey, _, ty, store_at (es' := ey) (t' := ty) st1 rfl, h2, rfl, fun e he => gz e (q1.mem_iff.mp he), (q1.map kyOf).nodup_iff.mpr nz, fun k => (mz k).trans (q1.map kyOf).mem_iff.symm, by rw [sz]; exact bz, q2, sz, q3,
      lz.imp id fun z => by rw [q4]; exact z⟩
  · exact wpAny_pure (hR _ same ⟨_, ez, _, tz, st1, h2, rfl, gz, nz, mz, bz, fz, rfl, rz, lz⟩)
theorem setM_add {k : Key} {v : Value} (hk : keyIs k v = true) {Q : Bool → Shared → Prop} (R : SetM w s.heap a S n) (room : n + 1 < scanBound)
    (hQ : ∀ h', Heap.SameBut a s.heap h' → SetM w h' a (fun j => S j || decide (j = k)) (if S k = true then n else n + 1) → Q (!S k) { s with heap := h' }) :
    wpAny (model P w) A (setAddHashed a v (keyH w k)) Q E s := by
  obtain ⟨ob, es, ep, tb, h1, h2, h3, g, nd, hm, hb, hf, hn, hr, hl⟩ := R
  have hsc := ky_scan hk
  have hel : ElemsOf (mixKind P w) es.toList := gdM_elems g
  unfold setAddHashed setAddHashedIn
  refine wpAny_holding (wpAny_bind (wpAny_setState_of h1 h3 hf ?_))
  dsimp only
  rw [byScan_of hsc hb hel]
  simp only [↓reduceIte]
  unfold setAddByScan
  refine wpAny_bind ?_
  refine wpAny_bind (wpAny_rule ?_)
  refine wpAny_bind (wpAny_setScan_of (knd := mixKind P w) (k := k) hk h1 h3 hf hel ?_)
  cases hfi : List.findIdx? (fun e => (mixKind P w).is k e.2) es.toList with
  | some j =>
    dsimp only
    obtain ⟨hj, pj, _⟩ := List.findIdx?_eq_some_iff_getElem.mp hfi
    have hS : S k = true := (hm k).2 ((gdM_mem g k).2 ⟨es.toList[j], List.getElem_mem hj, pj⟩)
    refine wpAny_pure (wpAny_pure ?_)
    have q := hQ s.heap (Heap.SameBut.refl a s.heap) ⟨ob, es, ep, tb, h1, h2, h3, g, nd, fun i => by
      rw [Bool.or_eq_true, decide_eq_true_eq, ← hm i]
      exact ⟨fun z => z.elim id (fun e => e ▸ hS), .inl⟩, hb, hf, by rw [if_pos hS]; exact hn, hr, hl⟩
    rw [hS] at q
    exact q
  | none =>
    dsimp only
    have hnk : k ∉ es.toList.map kyOf := fun z => by
      obtain ⟨e, he, q⟩ := (gdM_mem g k).1 z
      have c := List.findIdx?_eq_none_iff.mp hfi e he
      have q : (mixKind P w).is k e.2 = true := q
      rw [q] at c
      cases c
    have hS : S k = false := by
      cases q : S k with
      | false => rfl
      | true => exact absurd ((hm k).1 q) hnk
    have hgw : ∀ (b : Bool) {s₁ : Shared} {Q' : Unit → Shared → Prop}, Q' () s₁ → wpAny (model P w) A (match b with | true => rule "set.scan.the-table-gave-way" | false => pure ()) Q' E s₁ :=
      fun b s₁ Q' q => by cases b <;> first | exact wpAny_pure q | exact wpAny_rule q
    have pm := layNew_perm tb es (keyH w k) v
    have f1 := layNew_fits tb es (keyH w k) v
    have r1 := layNew_ris tb es (keyH w k) v hr
    have l1 := layNew_led tb es (keyH w k) v
    show wpAny _ _ (match layNew tb es (keyH w k) v with | (a, b, c, d) => _) _ _ _
    generalize layNew tb es (keyH w k) v = Z at pm f1 r1 l1 ⊢
    obtain ⟨ez, tz, wasDummy, gave⟩ := Z
    dsimp only at pm f1 r1 l1 ⊢
    rw [Array.toList_push] at pm
    have pc : ez.toList.Perm ((keyH w k, v) :: es.toList) := pm.trans (List.perm_append_singleton _ _)
    have pk : (ez.toList.map kyOf).Perm (k :: es.toList.map kyOf) := by
      have := pc.map kyOf
      rwa [List.map_cons, ky_of hk] at this
    have gz : ∀ e ∈ ez.toList, GdM w e := fun e he => by
      rcases List.mem_cons.mp (pc.mem_iff.mp he) with z | z
      · rw [z]; exact ⟨k, hk, rfl⟩
      · exact g e z
    have nz : (ez.toList.map kyOf).Nodup := pk.nodup_iff.mpr (List.nodup_cons.mpr ⟨hnk, nd⟩)
    have mz : ∀ i, (S i || decide (i = k)) = true ↔ i ∈ ez.toList.map kyOf := fun i => by
      rw [Bool.or_eq_true, decide_eq_true_eq, hm i, pk.mem_iff, List.mem_cons]
      exact Or.comm
    have sz : ez.size = n + 1 := by rw [← Array.length_toList, pc.length_eq, List.length_cons, Array.length_toList, hn]
    have bz : ez.size < scanBound := by rw [sz]; exact room
    have lz : w.params.followText "set-order" = true ∨ tz.led = true := hl.imp id fun z => by rw [l1]; exact z
    have fin : ∀ h', Heap.SameBut a s.heap h' → SetM w h' a (fun j => S j || decide (j = k)) ez.size → Q true { s with heap := h' } := fun h' sb r => by
      have q := hQ h' sb
      rw [hS] at q
      rw [sz] at r
      exact q r
    refine wpAny_bind (hgw _ ?_)
    split
    · refine wpAny_bind ?_
      rw [hashByValue_scannable 8 hsc]
      refine wpAny_pure ?_
      refine setM_tail ?_ h1 h2 h3 gz nz mz bz ?_ ?_ ?_ ?_
      · intro b s₁ Q' q; cases b <;> first | exact wpAny_pure q | exact wpAny_rule q
      · first | (split <;> first | exact f1 | exact SetTable.fits_plain_off f1) | exact f1
      · first | (split <;> exact r1) | exact r1
      · first | (split <;> exact lz) | exact lz
      · intro h' sb r; dsimp only; exact wpAny_pure (fin h' sb r)
    · refine wpAny_bind (wpAny_pure ?_)
      simp only [↓reduceIte]
      refine setM_tail ?_ h1 h2 h3 gz nz mz bz f1 r1 lz ?_
      · intro b s₁ Q' q; cases b <;> first | exact wpAny_pure q | exact wpAny_rule q
      · intro h' sb r; dsimp only; exact wpAny_pure (fin h' sb r)
end
end PL
namespace PL
open PySem PySem.Spec PyProof.Rows L2
/-- values that are the keys ks, in order -/
def KsAre (vs : List Value) (ks : List Key) : Prop := vs.length = ks.length ∧ ∀ (i : Nat) (v : Value), vs[i]? = some v → ∃ k, ks[i]? = some k ∧ keyIs k v = true
def memK (ks : List Key) (j : Key) : Bool := ks.any fun k => decide (j = k)
theorem memK_iff {ks : List Key} {j : Key} : memK ks j = true ↔ j ∈ ks := by
  unfold memK
  rw [List.any_eq_true]
  exact ⟨fun ⟨x, h, e⟩ => by rw [of_decide_eq_true e]; exact h, fun h => ⟨j, h, by simp⟩⟩
theorem memK_snoc {ks : List Key} {k j : Key} : memK (ks ++ [k]) j = (memK ks j || decide (j = k)) := by
  unfold memK; rw [List.any_append]; simp
theorem setM_new {w : World} {h : Heap} {a : Addr} {S : Key → Bool} (hS : ∀ k, S k = false) (ho : h.get? a = some { cls := .type "set", dict := none, data := .set #[] 0 (.fresh 0 0 (!w.params.followText "set-order")) }) : SetM w h a S 0 :=
  ⟨_, #[], 0, _, ho, ⟨rfl, rfl, rfl⟩, rfl, (fun e he => by simp at he), (by simp), (fun k => by simp [hS k]), (by decide), (by rfl), rfl, List.Pairwise.nil, by
    show _ ∨ (!w.params.followText "set-order") = true
    cases w.params.followText "set-order"
    · exact .inr rfl
    · exact .inl rfl⟩
section
variable {P : Program} {w : World} {A : Around} {E : Value → Shared → Prop} {s : Shared}
theorem setM_loop {I : Addr} {fp wr : List Addr} {G : Array GenState → Array GenState → Prop} {n : Nat} {Pv : Nat → Value → Prop} {St : Nat → Shared → Prop} {R : Result → Shared → Prop}
    (W : WalksS P w A.in1 I fp wr G n Pv St) (S : Addr) (hSf : S ∉ fp) (ks : List Key) (hn : n = ks.length) (hb : ks.length + 1 < scanBound) (hval : ∀ i v, Pv i v → ∃ k, ks[i]? = some k ∧ keyIs k v = true) :
    ∀ (m i : Nat) (s : Shared), n - i = m → i ≤ n → St i s → (∃ c, c ≤ i ∧ SetM w s.heap S (memK (ks.take i)) c) →
      (∀ s' c, Moved (S :: wr) G s s' → c ≤ n → SetM w s'.heap S (memK ks) c → R (.ok (.ret .none)) s') →
      codeAny (model P w) A (.builtin "set.update.loop" ⟨[.ref S, .ref I], []⟩) R s := by
  have nSw : S ∉ wr := fun h => hSf (W.sub _ h)
  have sub : ∀ b ∈ wr, b ∈ S :: wr := fun b hb => List.mem_cons_of_mem _ hb
  intro m
  induction m with
  | zero =>
    intro i s hm hi st ⟨c, hc, hS⟩ hR
    obtain rfl : i = n := by omega
    refine codeAny_builtin F.entry_set_update_loop ?_
    rw [Around.under_plainId F.plain_set_update_loop _]
    show wpAny _ A.in1 (pyNext (.ref I) >>= _) _ _ s
    refine wpAny_bind (W.done s _ _ st fun s' mv => ?_)
    show wpAny _ A.in1 (ret Value.none) _ _ s'
    rw [List.take_of_length_le (by omega)] at hS
    exact wpAny_pure (hR s' c (mv.mono sub) hc (hS.at fun o e => mv.heap S o nSw e))
  | succ m ih =>
    intro i s hm hi st ⟨c, hc, hS⟩ hR
    have lt : i < n := by omega
    refine codeAny_builtin F.entry_set_update_loop ?_
    rw [Around.under_plainId F.plain_set_update_loop _]
    show wpAny _ A.in1 (pyNext (.ref I) >>= _) _ _ s
    refine wpAny_bind (W.item i s _ _ lt st fun v s' pv st' mv => ?_)
    obtain ⟨k, hk, hkv⟩ := hval i v pv
    have S1 : SetM w s'.heap S (memK (ks.take i)) c := hS.at fun o e => mv.heap S o nSw e
    show wpAny _ A.in1 (holding [v] (setAdd S v) >>= _) _ _ s'
    refine wpAny_bind (wpAny_holding ?_)
    unfold setAdd
    refine wpAny_holding ?_
    refine wpAny_bind ((mixKind P w).pyHash (k := k) hkv ?_)
    refine setM_add (s := { s' with toks := s'.toks + 1 }) hkv S1 (by have := List.length_take_le i ks; omega) fun h' sb S2 => ?_
    have S3 : SetM w h' S (memK (ks.take (i + 1))) (if memK (ks.take i) k = true then c else c + 1) := S2.same fun j => by
      rw [List.take_add_one, hk]
      exact memK_snoc
    have c3 : (if memK (ks.take i) k = true then c else c + 1) ≤ i + 1 := by split <;> omega
    refine wpAny_pure ⟨plainId_quiet F.plain_set_update_loop _, ih (i + 1) _ (by omega) lt (W.frame _ s' _ _ st' (Nat.le_succ _) fun b hb o e => ?_) ⟨_, c3, S3⟩ fun s'' c2 mv2 hc2 S4 => ?_⟩
    · rw [sb.2 b (fun z : b = S => hSf (by rw [← z]; exact hb))]; exact e
    · refine hR s'' c2 (Moved.trans W.gtrans ((mv.mono sub).then_heap (Nat.le_succ _) fun b o hb e => ?_) mv2) hc2 S4
      rw [sb.2 b (fun z : b = S => hb (by rw [z]; exact List.mem_cons_self))]; exact e
theorem call_setM {l : Addr} {items : Array Value} (ks : List Key) {Q : Value → Shared → Prop} (hh : A.handled = none) (hl : s.heap.IsList l items) (hit : KsAre items.toList ks) (hb : ks.length + 1 < scanBound)
    (h : ∀ (h' : Heap) (tk c : Nat), SetM w h' s.heap.objs.size (memK ks) c → c ≤ ks.length → (∀ b o, s.heap.get? b = some o → h'.get? b = some o) → Q (.ref s.heap.objs.size) { s with heap := h', toks := tk }) :
    wpAny (model P w) A (call (.type "set") [.ref l]) Q E s := by
  have isz : items.size = ks.length := by
    have q := hit.1
    rw [Array.length_toList] at q
    exact q
  obtain ⟨c, tl, hmro⟩ := F.called_set.mro
  have hmade := F.called_set.made
  have hsub := F.called_set.sub
  refine wpAny_call (codeAny_of_tree ?_)
  show wpAny _ _ (callAny (.type "set") _) _ _ _
  refine wpAny_pure ⟨Code.quiet_builtin _ (by decide +kernel), codeAny_builtin F.entry_type_call ?_⟩
  rw [Around.under_plain (weight_type_call_type "set" [.ref l] []) rfl]
  have h1 := F.called_set.notType
  have h2 := F.called_set.canCreate
  have hct := F.typeCall_set_1 (.ref l)
  repeat (any_goals (first | assumption | wp_step))
  refine codeAny_mono (code_set_led1 (.ref l) (E := E) (Q₁ := fun obj s₁ => obj = .ref s.heap.objs.size ∧ s₁ = { s with heap := s.heap.push { cls := .type "set", dict := none, data := .set #[] 0 (.fresh 0 0 (!w.params.followText "set-order")) } }) ⟨rfl, rfl⟩) fun r s₁ hr => ?_
  cases r with
  | error e => exact hr
  | ok fl =>
    cases fl with
    | ret obj =>
      obtain ⟨rfl, rfl⟩ := hr
      generalize hob : ({ cls := .type "set", dict := none, data := .set #[] 0 (.fresh 0 0 (!w.params.followText "set-order")) } : Obj) = ob
      have cob : ob.cls = .type "set" := by rw [← hob]
      have gS : (s.heap.push ob).get? s.heap.objs.size = some ob := Heap.get?_push_size _ (by rw [← hob]; rfl)
      have hT : Shared.TypeIs { s with heap := s.heap.push ob } (.ref s.heap.objs.size) "set" := ⟨_, gS, cob⟩
      have hli := F.called_set.init.lookup
      have hbi := F.called_set.init.bind (.ref s.heap.objs.size)
      repeat (any_goals (first | assumption | wp_step))
      refine codeAny_mono (codeAny_call_builtin (R := wants (fun r s₂ => r = .none ∧ ∃ h' tk c, s₂ = { s with heap := h', toks := tk } ∧ SetM w h' s.heap.objs.size (memK ks) c ∧ c ≤ ks.length ∧
          (∀ b o, s.heap.get? b = some o → h'.get? b = some o)) E) F.called_set.init.plain F.entry_set_init (check_set_init_1 hT ?_)) fun r₂ s₂ hr₂ => ?_
      · obtain ⟨ol, hol, hcl, nl, hdl⟩ := hl
        obtain ⟨ocls, odict, odata, oslots⟩ := ol
        simp only at hcl hdl
        subst hcl; subst hdl
        have gl : (s.heap.push ob).get? l = some { cls := .type "list", dict := odict, data := .seq items nl, slots := oslots } := Heap.get?_push_of_some _ hol
        have hsls := F.sub_list_set
        have hslf := F.sub_list_frozenset
        have hne : (Value.type "list" == Value.type "dict") = false := by decide
        have hl1 : (s.heap.push ob).IsList l items := ⟨_, gl, rfl, nl, rfl⟩
        subst hob
        unfold Builtin.«set.__init__» noKeywords Builtin.Frozenset.updateFrom
        generalize hPI : pyIter = PI
        wp_walk
        subst hPI
        refine wpAny_pyIter_list hl1 ?_
        refine wpAny_bind (wpAny_runValue ?_)
        have lS : l < s.heap.objs.size := Heap.lt_size hol
        have hh3 : A.in1.in1.in1.handled = none := by simp [hh]
        have neI : ∀ o, l ≠ (s.heap.push o).objs.size := fun o => by
          rw [Heap.size_push]; exact Nat.ne_of_lt (Nat.lt_succ_of_lt lS)
        have nSf : ∀ o, s.heap.objs.size ∉ [(s.heap.push o).objs.size, l] := fun o => by
          rw [Heap.size_push]; simp only [List.mem_cons, List.mem_singleton, List.not_mem_nil, or_false, not_or]
          exact ⟨Nat.ne_of_lt (Nat.lt_succ_self _), Nat.ne_of_gt lS⟩
        have hval : ∀ (i : Nat) (v : Value), items[i]? = some v → ∃ k, ks[i]? = some k ∧ keyIs k v = true := fun i v hv => hit.2 i v (by rw [Array.getElem?_toList]; exact hv)
        refine setM_loop ((Walks.list hh3 _ l (neI _) items).toS) s.heap.objs.size (nSf _) ks isz hb hval (items.size - 0) 0 _ (by omega) (Nat.zero_le _)
          ⟨⟨_, Heap.get?_push_size _ rfl, rfl, rfl⟩, (hl1.push _)⟩ ?hS0 ?hR
        case hS0 => exact ⟨0, Nat.le_refl 0, setM_new (fun k => by simp [memK]) (Heap.get?_push_of_some _ gS)⟩
        case hR =>
          intro s' c' hm hc' hS'
          obtain ⟨h', g2, d', tk', os'⟩ := s'
          have eg : g2 = s.gens := hm.gens
          have ed : d' = s.drawn := hm.drawn
          have eo : os' = s.os := hm.os
          subst eg; subst ed; subst eo
          show wpAny _ _ _ _ _ _
          refine wpAny_pure ?_
          show wpAny _ _ (ret Value.none) _ _ _
          rw [isz] at hc'
          refine wpAny_pure ⟨rfl, h', tk', c', rfl, hS', hc', fun b o e => ?_⟩
          have b0 : b < s.heap.objs.size := Heap.lt_size e
          refine hm.heap b o ?_ (Heap.get?_push_of_some _ (Heap.get?_push_of_some _ e))
          simp only [List.mem_cons, List.mem_singleton, List.not_mem_nil, or_false, not_or]
          exact ⟨Nat.ne_of_lt b0, by rw [Heap.size_push]; exact Nat.ne_of_lt (Nat.lt_succ_of_lt b0)⟩
      · cases r₂ with
        | error e => exact hr₂
        | ok fl₂ =>
          cases fl₂ with
          | ret r =>
            obtain ⟨rfl, h', tk, c', rfl, hS', hc', hk'⟩ := hr₂
            repeat (any_goals (first | assumption | wp_step))
            exact h _ _ _ hS' hc' hk'
          | _ => exact hr₂.elim
    | _ => exact hr.elim
end
end PL
namespace PL
open PySem PySem.Spec PyProof.Rows L2
section
variable {P : Program} {w : World} {A : Around} {E : Value → Shared → Prop} {s : Shared} {a : Addr} {S : Key → Bool} {n : Nat}
theorem vals_ints : ∀ {vs : List Value} {l : List (Int × Value)}, vs.Perm (l.map (·.2)) → (∀ e ∈ l, ∃ i t, e.2 = Value.int i t) → IntsAre vs (vs.map Builtin.Re.reRawOf) := fun {vs l} p h => L2.ints_of vs fun v hv => by
  obtain ⟨e, he, rfl⟩ := List.mem_map.mp (p.mem_iff.mp hv)
  exact h e he
/-- the text that a value is -/
def txOf : Value → Str
  | .str x _ => x
  | _ => Str.empty
theorem strs_of : ∀ (l : List Value), (∀ v ∈ l, ∃ x t, v = Value.str x t) → StrsAre l (l.map txOf)
  | [], _ => .nil
  | v :: l, h => by
    obtain ⟨x, t, rfl⟩ := h v List.mem_cons_self
    exact .cons x t (strs_of l fun u hu => h u (List.mem_cons_of_mem _ hu))
theorem sorted_setMI {ns : List Int} {Q : Value → Shared → Prop} (R : SetM w s.heap a (memK (ns.map Sum.inl)) n) (hh : A.handled = none) (h64 : n < 64)
    (hQ : ∀ s' p (out : Array Value) (c : Nat) (ys : List Int), (∀ b o, s.heap.get? b = some o → s'.heap.get? b = some o) → s'.gens = s.gens → s'.os = s.os → s.heap.objs.size ≤ p →
      s'.heap.get? p = some (seqObj "list" out c) → IntsAre out.toList ys → ys.Pairwise (· < ·) → (∀ k, k ∈ ys ↔ k ∈ ns) → ys.length = n → Q (.ref p) s') :
    wpAny (model P w) A (call (.builtin "sorted") [.ref a]) Q E s := by
  obtain ⟨ob, es, ep, tb, h1, h2, h3, g, nd, hm, hb, hf, hn, hr, hl⟩ := R
  have gi : ∀ e ∈ es.toList, ∃ i t, e.2 = Value.int i t ∧ kyOf e = .inl i ∧ Builtin.Re.reRawOf e.2 = i := fun e he => by
    obtain ⟨k, k1, k2⟩ := g e he
    have km : k ∈ ns.map Sum.inl := by
      have : kyOf e ∈ es.toList.map kyOf := List.mem_map.mpr ⟨e, he, rfl⟩
      rw [← hm, memK_iff] at this
      rwa [show kyOf e = k from ky_of (z := e.1) k1] at this
    obtain ⟨i, _, rfl⟩ := List.mem_map.mp km
    obtain ⟨t, q⟩ := Value.isInt_shape (k := i) (v := e.2) k1
    exact ⟨i, t, q, ky_of (z := e.1) k1, by rw [q]; rfl⟩
  refine Calls.call_function_entry kind_sorted plain_sorted entry_sorted (args_sorted1 _) ?_
  unfold Builtin.«sorted»
  refine wpAny_bind (m := checkCount "sorted" 1 1 _) (wpAny_pure ?_)
  refine wpAny_bind (collect_set (A := A.in1) hh ⟨ob, h1, h2.1, h3⟩ hf hb hr hl fun s1 vs k1 hz g1 o1 pm => ?_)
  have hvl : vs.length = n := by rw [pm.length_eq, List.length_map, Array.length_toList]; exact hn
  have hI : IntsAre vs (vs.map Builtin.Re.reRawOf) := vals_ints pm fun e he => by
    obtain ⟨i, t, q, _⟩ := gi e he
    exact ⟨i, t, q⟩
  have pk : (vs.map Builtin.Re.reRawOf).Perm (es.toList.map fun e => Builtin.Re.reRawOf e.2) := by
    have q := pm.map Builtin.Re.reRawOf
    rw [List.map_map] at q
    exact q
  have eL : (es.toList.map fun e => Builtin.Re.reRawOf e.2).map (Sum.inl : Int → Key) = es.toList.map kyOf := by
    rw [List.map_map]
    refine List.map_congr_left fun e he => ?_
    obtain ⟨i, t, _, q2, q3⟩ := gi e he
    show Sum.inl (Builtin.Re.reRawOf e.2) = kyOf e
    rw [q2, q3]
  have nd' : (es.toList.map fun e => Builtin.Re.reRawOf e.2).Nodup := by
    rw [← eL] at nd
    exact List.Pairwise.of_map (Sum.inl : Int → Key) (fun a b hne e => hne (by rw [e])) nd
  have mm : ∀ k, k ∈ (es.toList.map fun e => Builtin.Re.reRawOf e.2) ↔ k ∈ ns := fun k => by
    have := hm (.inl k)
    rw [memK_iff, ← eL] at this
    constructor
    · intro hk
      obtain ⟨i, hi, e⟩ := List.mem_map.mp (this.mpr (List.mem_map.mpr ⟨k, hk, rfl⟩))
      cases e; exact hi
    · intro hk
      obtain ⟨i, hi, e⟩ := List.mem_map.mp (this.mp (List.mem_map.mpr ⟨k, hk, rfl⟩))
      cases e; exact hi
  refine wpAny_bind (wpAny_newList ?_ (by rw [hvl, sizeLine_eq]; omega))
  have hoL : (s1.heap.push (seqObj "list" vs.toArray 0)).get? s1.heap.objs.size = some (seqObj "list" vs.toArray 0) := Heap.get?_push_size _ rfl
  refine wpAny_bind (wpAny_holding (wpAny_call_entry slot_list_sort ⟨_, hoL, rfl⟩ entry_list_sort (list_sort_tree hoL hI (by rw [hvl]; exact h64) fun out ys a1 a2 a3 => ⟨_, rfl, ?_⟩) (args_list_sort _)))
  obtain ⟨c, hc⟩ := sortedHeap_at (vs := vs) (out := out) hoL
  have pn := a2.trans pk
  refine wpAny_pure ⟨_, rfl, hQ _ s1.heap.objs.size out c ys (fun b u e => ?_) g1 o1 hz hc a1 (lt_of_le_nodup ys a3 (pn.nodup_iff.mpr nd')) (fun k => by rw [pn.mem_iff, mm k]) ?_⟩
  · have q := k1 b u e
    have lt := Heap.lt_size q
    show (sortedHeap (s1.heap.push (seqObj "list" vs.toArray 0)) s1.heap.objs.size vs out).get? b = some u
    rw [sortedHeap_old (Nat.ne_of_lt lt) (by rw [size_push']; exact Nat.lt_succ_of_lt lt)]
    exact Heap.get?_push_of_some _ q
  · rw [pn.length_eq, List.length_map, Array.length_toList]; exact hn
theorem sorted_setMS {ns : List Str} {Q : Value → Shared → Prop} (R : SetM w s.heap a (memK (ns.map Sum.inr)) n) (hh : A.handled = none) (h64 : n < 64)
    (hQ : ∀ s' p (out : Array Value) (c : Nat) (ys : List Str), (∀ b o, s.heap.get? b = some o → s'.heap.get? b = some o) → s'.gens = s.gens → s'.os = s.os → s.heap.objs.size ≤ p →
      s'.heap.get? p = some (seqObj "list" out c) → StrsAre out.toList ys → sortedS ys = true → ys.Nodup → (∀ k, k ∈ ys ↔ k ∈ ns) → ys.length = n → Q (.ref p) s') :
    wpAny (model P w) A (call (.builtin "sorted") [.ref a]) Q E s := by
  obtain ⟨ob, es, ep, tb, h1, h2, h3, g, nd, hm, hb, hf, hn, hr, hl⟩ := R
  have gi : ∀ e ∈ es.toList, ∃ x t, e.2 = Value.str x t ∧ kyOf e = .inr x ∧ txOf e.2 = x := fun e he => by
    obtain ⟨k, k1, k2⟩ := g e he
    have km : k ∈ ns.map Sum.inr := by
      have : kyOf e ∈ es.toList.map kyOf := List.mem_map.mpr ⟨e, he, rfl⟩
      rw [← hm, memK_iff] at this
      rwa [show kyOf e = k from ky_of (z := e.1) k1] at this
    obtain ⟨i, _, rfl⟩ := List.mem_map.mp km
    obtain ⟨t, q⟩ := Value.isStrOf_shape (x := i) (v := e.2) k1
    exact ⟨i, t, q, ky_of (z := e.1) k1, by rw [q]; rfl⟩
  refine Calls.call_function_entry kind_sorted plain_sorted entry_sorted (args_sorted1 _) ?_
  unfold Builtin.«sorted»
  refine wpAny_bind (m := checkCount "sorted" 1 1 _) (wpAny_pure ?_)
  refine wpAny_bind (collect_set (A := A.in1) hh ⟨ob, h1, h2.1, h3⟩ hf hb hr hl fun s1 vs k1 hz g1 o1 pm => ?_)
  have hvl : vs.length = n := by rw [pm.length_eq, List.length_map, Array.length_toList]; exact hn
  have hS : StrsAre vs (vs.map txOf) := strs_of vs fun v hv => by
    obtain ⟨e, he, rfl⟩ := List.mem_map.mp (pm.mem_iff.mp hv)
    obtain ⟨x, t, q, _⟩ := gi e he
    exact ⟨x, t, q⟩
  have pk : (vs.map txOf).Perm (es.toList.map fun e => txOf e.2) := by
    have q := pm.map txOf
    rw [List.map_map] at q
    exact q
  have eL : (es.toList.map fun e => txOf e.2).map (Sum.inr : Str → Key) = es.toList.map kyOf := by
    rw [List.map_map]
    refine List.map_congr_left fun e he => ?_
    obtain ⟨i, t, _, q2, q3⟩ := gi e he
    show Sum.inr (txOf e.2) = kyOf e
    rw [q2, q3]
  have nd' : (es.toList.map fun e => txOf e.2).Nodup := by
    rw [← eL] at nd
    exact List.Pairwise.of_map (Sum.inr : Str → Key) (fun a b hne e => hne (by rw [e])) nd
  have mm : ∀ k, k ∈ (es.toList.map fun e => txOf e.2) ↔ k ∈ ns := fun k => by
    have := hm (.inr k)
    rw [memK_iff, ← eL] at this
    constructor
    · intro hk
      obtain ⟨i, hi, e⟩ := List.mem_map.mp (this.mpr (List.mem_map.mpr ⟨k, hk, rfl⟩))
      cases e; exact hi
    · intro hk
      obtain ⟨i, hi, e⟩ := List.mem_map.mp (this.mp (List.mem_map.mpr ⟨k, hk, rfl⟩))
      cases e; exact hi
  refine wpAny_bind (wpAny_newList ?_ (by rw [hvl, sizeLine_eq]; omega))
  have hoL : (s1.heap.push (seqObj "list" vs.toArray 0)).get? s1.heap.objs.size = some (seqObj "list" vs.toArray 0) := Heap.get?_push_size _ rfl
  refine wpAny_bind (wpAny_holding (wpAny_call_entry slot_list_sort ⟨_, hoL, rfl⟩ entry_list_sort
    (list_sort_treeK strKind_oneLt hoL hS.keysOf (fun v₁ v₂ rest e => keyKind_strs (by rw [← e]; exact hS)) (by rw [hvl]; exact h64) fun st' hp hs => ⟨_, rfl, ?_⟩) (args_list_sort _)))
  obtain ⟨ys, a1, a2, a3⟩ := sorted_out_str hS hp hs
  obtain ⟨c, hc⟩ := sortedHeap_at (vs := vs) (out := (arrOf st').map (·.2)) hoL
  have pn := a2.trans pk
  refine wpAny_pure ⟨_, rfl, hQ _ s1.heap.objs.size _ c ys (fun b u e => ?_) g1 o1 hz hc a1 a3 (pn.nodup_iff.mpr nd') (fun k => by rw [pn.mem_iff, mm k]) ?_⟩
  · have q := k1 b u e
    have lt := Heap.lt_size q
    show (sortedHeap (s1.heap.push (seqObj "list" vs.toArray 0)) s1.heap.objs.size vs _).get? b = some u
    rw [sortedHeap_old (Nat.ne_of_lt lt) (by rw [size_push']; exact Nat.lt_succ_of_lt lt)]
    exact Heap.get?_push_of_some _ q
  · rw [pn.length_eq, List.length_map, Array.length_toList]; exact hn
end
def SetO (w : World) (p : Addr) (ks : List Key) : HO := .ext fun h => ∃ n, n ≤ ks.length ∧ SetM w h p (memK ks) n
def rSetM (K : PySem.W.Frag) (w : World) : List V → Hp → VK → Prop := fun xs H Q => ∃ (l : Addr) (ks : List Key), xs = [.ref l] ∧ SqL K H l (ks.map L2.kV) ∧ ks.length < 64 ∧ ∀ p, H p = none → Q (.ref p) (upd H p (SetO w p ks))
def rSortM (w : World) : List V → Hp → VK → Prop := fun xs H Q => ∃ p, xs = [.ref p] ∧ ((∃ ns : List Int, H p = some (SetO w p (ns.map .inl)) ∧ ns.length < 64 ∧ ∀ out : List Int, out.Pairwise (· < ·) → (∀ k, k ∈ out ↔ k ∈ ns) → ∀ q, H q = none → Q (.ref q) (upd H q (.lst (out.map V.int)))) ∨
  ∃ ns : List Str, H p = some (SetO w p (ns.map .inr)) ∧ ns.length < 64 ∧ ∀ out : List Str, sortedS out = true → out.Nodup → (∀ k, k ∈ out ↔ k ∈ ns) → ∀ q, H q = none → Q (.ref q) (upd H q (.lst (out.map V.str))))
section
variable {X : Cx}
theorem ks_vals (P : Program) (w : World) : ∀ {ks : List Key} {its : List Value}, Vals (ks.map L2.kV) its → KsAre its ks
  | [], _, r => by cases r; exact ⟨rfl, fun i v h => by simp at h⟩
  | k :: ks, _, r => by
    cases r with
    | cons r rr =>
      obtain ⟨h1, h2⟩ := ks_vals P w rr
      refine ⟨by simp [h1], fun i v h => ?_⟩
      cases i with
      | zero =>
        cases h
        exact ⟨k, rfl, kV_is (P := P) (w := w) r⟩
      | succ i => exact h2 i v (by simpa using h)
theorem cr_setM (hcalm : X.calm = true) : CallR X (.type "set") (rSetM X.K X.w) := by
  intro pins s σ H xs us Q I r h
  obtain ⟨l, ks, rfl, hq, hl, q⟩ := h
  obtain ⟨u, rfl, rx⟩ := vals1 r
  cases rx
  obtain ⟨its, rv, pl, hz⟩ := I.list hq
  have hk := ks_vals X.prog X.w rv
  refine call_setM ks (I.ok.hd hcalm) pl.isList (by simpa using hk) (by unfold scanBound; omega) fun h' tk c R1 hc kp => ?_
  exact ⟨.ref s.heap.objs.size, upd H s.heap.objs.size (SetO X.w s.heap.objs.size ks), I.laid (t' := tk) kp (Nat.le_refl _)
    (show ObjOk X.prog X.w _ h' _ (SetO X.w s.heap.objs.size ks) from ⟨⟨c, hc, R1⟩, ⟨_, R1.choose_spec.choose_spec.choose_spec.choose_spec.1⟩, fun h1 h2 ⟨n, hn, R⟩ k => ⟨n, hn, R.at k⟩⟩), rfl, q _ (I.hok.fresh (Nat.le_refl _))⟩
theorem cr_sortM (hcalm : X.calm = true) : CallR X (.builtin "sorted") (rSortM X.w) := by
  intro pins s σ H xs us Q I r h
  obtain ⟨p, rfl, h⟩ := h
  obtain ⟨u, rfl, rx⟩ := vals1 r
  cases rx
  rcases h with ⟨ns, hp, hl, q⟩ | ⟨ns, hp, hl, q⟩
  · obtain ⟨⟨n, hn, R⟩, _⟩ := (show ObjOk X.prog X.w H s.heap p (SetO X.w p (ns.map .inl)) from I.hok p _ hp)
    rw [List.length_map] at hn
    refine sorted_setMI R (I.ok.hd hcalm) (by omega) fun s' p' out c ys k g o hz e a1 a2 a3 a4 => ?_
    have hlen : (ys.map V.int).length ≤ sizeLine := by rw [List.length_map, a4, sizeLine_eq]; omega
    have kn : H p' = none := I.hok.fresh hz
    refine ⟨.ref p', upd H p' (.lst (ys.map V.int)), I.call' (ch := []) o (Un.laid k hz kn) (I.hok.laid k hz (show ObjOk X.prog X.w _ _ _ (.lst (ys.map V.int)) from ⟨hlen, out.toList, c, vals_of_ints a1, by rw [Array.toArray_toList]; exact e⟩)) (by rw [g]; exact I.bare) (fun _ z => nomatch z), rfl, q ys a2 a3 p' kn⟩
  · obtain ⟨⟨n, hn, R⟩, _⟩ := (show ObjOk X.prog X.w H s.heap p (SetO X.w p (ns.map .inr)) from I.hok p _ hp)
    rw [List.length_map] at hn
    refine sorted_setMS R (I.ok.hd hcalm) (by omega) fun s' p' out c ys k g o hz e a1 a2 a2' a3 a4 => ?_
    have hlen : (ys.map V.str).length ≤ sizeLine := by rw [List.length_map, a4, sizeLine_eq]; omega
    have kn : H p' = none := I.hok.fresh hz
    refine ⟨.ref p', upd H p' (.lst (ys.map V.str)), I.call' (ch := []) o (Un.laid k hz kn) (I.hok.laid k hz (show ObjOk X.prog X.w _ _ _ (.lst (ys.map V.str)) from ⟨hlen, out.toList, c, vals_of_strs a1, by rw [Array.toArray_toList]; exact e⟩)) (by rw [g]; exact I.bare) (fun _ z => nomatch z), rfl, q ys a2 a2' a3 p' kn⟩
end
variable [HasT]
def strsD : List D → Option (List Str)
  | [] => some []
  | .str x :: r => (strsD r).map (x :: ·)
  | _ => none
def gSortSet : GN := fun ds Q => match ds with
  | [.lst xs] => match intsD xs with
    | some ns => ns.length < 64 ∧ ∀ out : List Int, out.Pairwise (· < ·) → (∀ k, k ∈ out ↔ k ∈ ns) → Q (.tmp (.lst (out.map .int)))
    | none => match strsD xs with
      | some ns => ns.length < 64 ∧ ∀ out : List Str, sortedS out = true → out.Nodup → (∀ k, k ∈ out ↔ k ∈ ns) → Q (.tmp (.lst (out.map .str)))
      | none => False
  | _ => False
section
variable {K : PySem.W.Frag} {mg : Str → Option Value}
theorem strsD_rep {F : Hp} : ∀ {ds : List D} {xs : List V} {bs : List Str}, RepL K mg F ds xs → strsD ds = some bs → xs = bs.map V.str
  | [], _, _, h, e => by cases e; rw [show _ = [] from h]; rfl
  | d :: ds, _, bs, h, e => by
    obtain ⟨x, r, rfl, h1, h2⟩ := h
    cases d with
    | str b =>
      cases q : strsD ds with
      | none => rw [strsD, q] at e; cases e
      | some cs =>
        rw [strsD, q] at e; cases e
        rw [show x = V.str b from h1, strsD_rep h2 q]; rfl
    | _ => cases e
theorem rep_ints {F : Hp} (l : List Int) : RepL K mg F (l.map .int) (l.map V.int) := RepL.map K mg D.int V.int (fun a => (rfl : V.int a = V.int a)) l
theorem rep_strs {F : Hp} (l : List Str) : RepL K mg F (l.map .str) (l.map V.str) := RepL.map K mg D.str V.str (fun a => (rfl : V.str a = V.str a)) l
theorem seto_nt {w : World} {p : Addr} {ks : List Key} : ∀ xs, SetO w p ks ≠ .tup xs := fun xs z => by cases z
theorem opn_sortSet {w : World} : OpN K mg (fun xs H Q => rSetM K w xs H fun x H1 => rSortM w [x] H1 Q) gSortSet := by
  intro F H ds vs Qg Q s h hg k
  unfold gSortSet at hg
  split at hg
  next xs =>
    obtain ⟨v, rfl, h1⟩ := seeL1 h
    obtain ⟨a, zs, rfl, ha, ra⟩ := h1.lst s
    have step : ∀ (ks : List Key) (p q : Addr) (out : List V) (ds' : List D), H p = none → upd H p (SetO w p ks) q = none → RepL K mg F ds' out → Qg (.tmp (.lst ds')) → Q (.ref q) (upd (upd H p (SetO w p ks)) q (.lst out)) := fun ks p q out ds' hp hq r hQ => by
      have st1 := Step.new (o := SetO w p ks) s hp seto_nt
      have hqH : H q = none := by
        by_cases z : q = p
        · subst z; exact hp
        · rw [upd_ne z] at hq; exact hq
      have st2 := Step.new (o := .lst out) st1.sub hq
      refine k _ _ _ (.tmp (.lst ds')) (st1.trans st2) ⟨[q], ⟨q, out, rfl, rfl, upd_same, r⟩, fun b hb => ?_⟩ hQ
      have e : b = q := by simpa using hb
      subst e
      exact ⟨fresh_F s hqH, by rw [upd_same]; simp, hqH⟩
    split at hg
    next ns hns =>
      obtain rfl := intsD_rep ra hns
      obtain ⟨hl, hg⟩ := hg
      refine ⟨a, ns.map Sum.inl, rfl, by rw [List.map_map]; exact SqL.of ha, by rw [List.length_map]; exact hl, fun p hp => ⟨p, rfl, .inl ⟨ns, upd_same, hl, fun out o1 o2 q hq => step _ p q _ (out.map .int) hp hq (rep_ints out) (hg out o1 o2)⟩⟩⟩
    next =>
      split at hg
      next ns hns =>
        obtain rfl := strsD_rep ra hns
        obtain ⟨hl, hg⟩ := hg
        refine ⟨a, ns.map Sum.inr, rfl, by rw [List.map_map]; exact SqL.of ha, by rw [List.length_map]; exact hl, fun p hp => ⟨p, rfl, .inr ⟨ns, upd_same, hl, fun out o1 o2 o3 q hq => step _ p q _ (out.map .str) hp hq (rep_strs out) (hg out o1 o2 o3)⟩⟩⟩
      next => exact hg.elim
  next => exact hg.elim
end
section
variable {X : Cx} {XE : XK} {k : Nat} {p0 pos0 p pos : Pos} {e : Expr} {w : WR}
theorem go_sortSet (C : Cc X XE k) (hm0 : X.mg "sorted" = none) (hm : X.mg "set" = none) (ha : PdV X XE [e] w) (gl0 : Gl X "sorted" := by rfl) (gl : Gl X "set" := by rfl) (he : starEach [e] X.env = (false, eval e X.env) :: starEach [] X.env := by rfl) (hpl : (backTo pos (starEach [] X.env)).any (·.1) = false := by rfl)
    (he0 : starEach [.Call (.Name "set" p) [e] [] pos] X.env = (false, eval (.Call (.Name "set" p) [e] [] pos) X.env) :: starEach [] X.env := by rfl) (hpl0 : (backTo pos0 (starEach [] X.env)).any (·.1) = false := by rfl) :
    PdE X XE (.Call (.Name "sorted" p0) [.Call (.Name "set" p) [e] [] pos] [] pos0) (wCall gSortSet w) := by
  obtain ⟨t, pa, s⟩ := ha
  refine ⟨_, pe_callB (cr_sortM C.calm) gl0 hm0 boot_sorted (pa_cons (pe_callTy (cr_setM C.calm) gl hm PyProof.Rows.boot_set pa (by decide) (by decide) he hpl) pa_nil he0) (by decide) (by decide) he0 hpl0, ?_⟩
  have h := call_run (es := [e]) (opn_sortSet (K := X.K) (mg := X.mg) (w := X.w)) s
  exact h
end
end PL
namespace PL
open PySem PySem.Spec PyProof.Rows L2
variable [HasT]
/-- a or b, a a list -/
def wOrL (wa wb : WE) : WE := fun ρ Q Ep => wV wa ρ (fun r ρ1 => pk1 ρ1 r fun d => match d with
  | .lst [] => wb ρ1 Q Ep
  | .lst (_ :: _) => Q r ρ1
  | _ => False) Ep
section
variable {X : Cx} {XE : XK} {k : Nat}
theorem pd_orL {a b : Expr} {pos : Pos} {wa wb : WE} (ha : PdE X XE a wa) (hb : PdE X XE (.BoolOp .Or [b] pos) wb) : PdE X XE (.BoolOp .Or [a, b] pos) (wOrL wa wb) := by
  obtain ⟨ta, pa, sa⟩ := ha
  obtain ⟨tb, pb, sb⟩ := hb
  refine ⟨_, pe_orT pa pb, fun c Qp Ep Q ok hw x kf => ?_⟩
  refine runV (e := a) sa ok hw x fun v c1 r g1 e1 rr h1 => ?_
  obtain ⟨d, hd, h1⟩ := pk1_of h1
  have sd := rr.see g1.ok hd
  cases d with
  | lst ds =>
    obtain ⟨p, xs, rfl, hp, rp⟩ := sd.lst g1.ok.sub
    cases ds with
    | nil =>
      obtain rfl : xs = [] := rp
      refine ⟨false, .inl ⟨[], SqL.of hp, rfl⟩, ?_⟩
      rw [if_neg Bool.false_ne_true, ← e1]
      exact sb c1 _ Ep _ g1.ok h1 (x.go X.K X.mg g1 e1) fun v c2 r2 g2 e2 rr2 q2 => kf v c2 r2 (g1.trans X.K X.mg g2) (e2.trans e1) (rr_go g1 rr2) q2
    | cons d0 ds =>
      obtain ⟨y, t, rfl, _, _⟩ := rp
      refine ⟨true, .inl ⟨y :: t, SqL.of hp, rfl⟩, ?_⟩
      rw [if_pos rfl]
      refine kf _ c1 r g1 e1 ?_ h1
      cases r with
      | val d' => exact rr
      | tmp d' => exact rr.elim
      | slot i => exact rr
  | _ => exact h1.elim
end
end PL
namespace PL
open PySem PySem.Spec PyProof.Rows L2
/-- a zip object whose last tuple is T -/
abbrev ZpO (h : Heap) (z TI TO : Addr) (T : Addr) (f : Bool) : Prop :=
  h.get? z = some { cls := .type "zip", dict := none, data := .fields #[rawInt T, .bool f, .bool false, .ref TI, .ref TO], slots := #[] }
section
variable {prog : Program} {w : World} {A : Around} {E : Value → Shared → Prop} {s : Shared} {z TI TO i1 i2 T : Addr} {fp1 fp2 : List Addr} {n1 n2 i : Nat} {P1 P2 : Nat → Value → Prop} {St1 St2 : Nat → Heap → Prop} {f : Bool} {oT : Obj}
theorem zp_mark {Q : Bool → Shared → Prop} (hz : ZpO s.heap z TI TO T f) (hT : s.heap.get? T = some oT)
    (hQ : ∀ h', ZpO h' z TI TO T true → Heap.SameBut z s.heap h' → Q false { s with heap := h' }) : wpAny (model prog w) A (Builtin.SmallTypes.ownedTupleIsFree (.ref z)) Q E s := by
  unfold Builtin.SmallTypes.ownedTupleIsFree
  refine wpAny_bind (wpAny_field hz rfl (x := rawInt T) rfl ?_)
  show wpAny _ _ (loadIfAlive (T : Int).toNat >>= _) _ _ _
  rw [Int.toNat_natCast]
  refine wpAny_bind (PySem.W.kdx_alive hT ?_)
  dsimp only
  refine wpAny_bind (wpAny_field hz rfl (x := .bool f) rfl ?_)
  cases f with
  | true =>
    rw [if_neg (by simp)]
    exact wpAny_pure (hQ s.heap hz (Heap.SameBut.refl _ _))
  | false =>
    rw [if_pos (by simp)]
    refine wpAny_bind (wpAny_setField_rec hz (by simp) fun h1 z1 s1 => ?_)
    replace z1 : ZpO h1 z TI TO T true := z1
    exact wpAny_pure (hQ h1 z1 s1)
theorem zp_next {Q : Value → Shared → Prop} (S : ZipSep2 z TI TO i1 i2 fp1 fp2) (D1 : Draws prog w A i1 fp1 n1 P1 St1) (D2 : Draws prog w A i2 fp2 n2 P2 St2)
    (hz : ZpO s.heap z TI TO T f) (hT : s.heap.get? T = some oT) (hTI : IsTupOf2 s.heap TI (.ref i1) (.ref i2)) (st1 : St1 i s.heap) (st2 : St2 i s.heap) (l1 : i < n1) (l2 : i < n2)
    (hQ : ∀ x1 x2 h' tk, P1 i x1 → P2 i x2 → ZpO h' z TI TO T true → St1 (i + 1) h' → St2 (i + 1) h' → IsTupOf2 h' s.heap.objs.size x1 x2 → h'.objs.size = s.heap.objs.size + 1 →
      (∀ c o, c ≠ z → c ≠ i1 → c ≠ i2 → s.heap.get? c = some o → h'.get? c = some o) → Q (.ref s.heap.objs.size) { s with heap := h', toks := tk }) :
    wpAny (model prog w) A (Builtin.«zip.__next__» ⟨[.ref z], []⟩) (fun fin s' => ∃ v, fin = .done (.ret v) ∧ Q v s') E s := by
  obtain ⟨hp, g, d, tk0, os⟩ := s
  show wpAny _ _ (field (.ref z) 2 >>= _) _ _ _
  refine wpAny_bind (wpAny_field hz rfl (x := .bool false) rfl ?_)
  show wpAny _ _ (field (.ref z) 3 >>= _) _ _ _
  refine wpAny_bind (wpAny_field hz rfl (x := .ref TI) rfl ?_)
  refine wpAny_bind (wpAny_seqItems hTI rfl ?_)
  show wpAny _ _ (Builtin.SmallTypes.ownedTupleIsFree (.ref z) >>= _) _ _ _
  refine wpAny_bind (zp_mark hz hT fun h0 z0 s0 => ?_)
  replace s0 : Heap.SameBut z hp h0 := s0
  rw [if_neg (by simp)]
  dsimp only
  rw [← Array.forIn_toList]
  refine wpAny_bind ?_
  simp only [List.forIn_cons, List.forIn_nil]
  refine wpAny_bind (wpAny_bind (wpAny_holding ?_))
  show wpAny _ _ (Builtin.SmallTypes.nextOf (.ref i1) >>= _) _ _ ⟨h0, g, d, tk0, os⟩
  refine wpAny_bind (D1.item i _ _ _ l1 (D1.over st1 s0 S.zf1) fun x1 p1 tk1 hx1 sn1 hp1 => wpAny_pure ?_)
  replace hp1 : Heap.SameBut i1 h0 p1 := hp1
  refine wpAny_pure (wpAny_bind (wpAny_bind (wpAny_holding ?_)))
  show wpAny _ _ (Builtin.SmallTypes.nextOf (.ref i2) >>= _) _ _ ⟨p1, g, d, tk1, os⟩
  refine wpAny_bind (D2.item i _ _ _ l2 (D2.over (D2.over st2 s0 S.zf2) hp1 S.sep1_2) fun x2 p2 tk2 hx2 sn2 hp2 => wpAny_pure ?_)
  replace hp2 : Heap.SameBut i2 p1 p2 := hp2
  refine wpAny_pure (wpAny_pure ?_)
  have sz : p2.objs.size = hp.objs.size := by rw [hp2.1, hp1.1, s0.1]
  show wpAny _ _ (newTuple [x1, x2] >>= _) _ _ _
  refine wpAny_bind (wpAny_newTuple ?_)
  have zz : ZpO p2 z TI TO T true := hp2.extBut _ _ S.zi2 (hp1.extBut _ _ S.zi1 z0)
  have kk : ∀ c o, c ≠ z → c ≠ i1 → c ≠ i2 → hp.get? c = some o → p2.get? c = some o := fun c o cz c1 c2 e => hp2.extBut _ _ c2 (hp1.extBut _ _ c1 (s0.extBut _ _ cz e))
  have j1 : St1 (i + 1) p2 := D1.over sn1 hp2 S.sep2_1
  refine wpAny_pure ⟨_, rfl, ?_⟩
  show Q (.ref p2.objs.size) _
  rw [sz]
  have ht : (p2.push { cls := .type "tuple", data := .seq #[x1, x2] }).get? hp.objs.size = some { cls := .type "tuple", data := .seq #[x1, x2] } := by rw [← sz]; exact Heap.get?_push_size _ rfl
  exact hQ x1 x2 _ tk2 hx1 hx2 (Heap.get?_push_of_some _ zz) (D1.frame _ _ _ j1 fun b _ o e => Heap.get?_push_of_some _ e) (D2.frame _ _ _ sn2 fun b _ o e => Heap.get?_push_of_some _ e) ht (by rw [Heap.size_push, sz]) fun c o cz c1 c2 e => Heap.get?_push_of_some _ (kk c o cz c1 c2 e)
theorem zp_end {Q : Fin → Shared → Prop} (S : ZipSep2 z TI TO i1 i2 fp1 fp2) (D1 : Draws prog w A i1 fp1 n1 P1 St1) (D2 : Draws prog w A i2 fp2 n2 P2 St2)
    (hz : ZpO s.heap z TI TO T f) (hT : s.heap.get? T = some oT) (hTI : IsTupOf2 s.heap TI (.ref i1) (.ref i2)) (st1 : St1 n1 s.heap)
    (hE : ∀ h' tk e, (∀ c o, c ≠ z → c ≠ i1 → c ≠ i2 → s.heap.get? c = some o → h'.get? c = some o) → (∃ o, h'.get? e = some o ∧ o.cls = .type "StopIteration") → E (.ref e) { s with heap := h', toks := tk }) :
    wpAny (model prog w) A (Builtin.«zip.__next__» ⟨[.ref z], []⟩) Q E s := by
  obtain ⟨hp, g, d, tk0, os⟩ := s
  show wpAny _ _ (field (.ref z) 2 >>= _) _ _ _
  refine wpAny_bind (wpAny_field hz rfl (x := .bool false) rfl ?_)
  show wpAny _ _ (field (.ref z) 3 >>= _) _ _ _
  refine wpAny_bind (wpAny_field hz rfl (x := .ref TI) rfl ?_)
  refine wpAny_bind (wpAny_seqItems hTI rfl ?_)
  show wpAny _ _ (Builtin.SmallTypes.ownedTupleIsFree (.ref z) >>= _) _ _ _
  refine wpAny_bind (zp_mark hz hT fun h0 z0 s0 => ?_)
  replace s0 : Heap.SameBut z hp h0 := s0
  rw [if_neg (by simp)]
  dsimp only
  rw [← Array.forIn_toList]
  refine wpAny_bind ?_
  simp only [List.forIn_cons, List.forIn_nil]
  refine wpAny_bind (wpAny_bind (wpAny_holding ?_))
  show wpAny _ _ (Builtin.SmallTypes.nextOf (.ref i1) >>= _) _ _ ⟨h0, g, d, tk0, os⟩
  refine wpAny_bind (D1.done ⟨h0, g, d, tk0, os⟩ _ _ (D1.over st1 s0 S.zf1) fun q e hq he => ?_)
  replace hq : Heap.ExtBut i1 h0 q := hq
  exact hE q tk0 e (fun c o cz c1 c2 x => hq _ _ c1 (s0.extBut _ _ cz x)) he
theorem zp_item {Q : Option Value → Shared → Prop} (S : ZipSep2 z TI TO i1 i2 fp1 fp2) (D1 : Draws prog w A.in1 i1 fp1 n1 P1 St1) (D2 : Draws prog w A.in1 i2 fp2 n2 P2 St2)
    (hz : ZpO s.heap z TI TO T f) (hT : s.heap.get? T = some oT) (hTI : IsTupOf2 s.heap TI (.ref i1) (.ref i2)) (st1 : St1 i s.heap) (st2 : St2 i s.heap) (l1 : i < n1) (l2 : i < n2)
    (hQ : ∀ x1 x2 h' tk, P1 i x1 → P2 i x2 → ZpO h' z TI TO T true → St1 (i + 1) h' → St2 (i + 1) h' → IsTupOf2 h' s.heap.objs.size x1 x2 → h'.objs.size = s.heap.objs.size + 1 →
      (∀ c o, c ≠ z → c ≠ i1 → c ≠ i2 → s.heap.get? c = some o → h'.get? c = some o) → Q (some (.ref s.heap.objs.size)) { s with heap := h', toks := tk }) :
    wpAny (model prog w) A (pyNext (.ref z)) Q E s := by
  have hTy : s.TypeIs (.ref z) "zip" := ⟨_, hz, rfl⟩
  unfold pyNext
  exact wpAny_bind (wpAny_attempt (wpAny_callSpecial?_slot (name := Str.ofString "__next__") hTy F.slot_zip_next
    (wpAny_call_entry F.slot_zip_next hTy F.entry_zip_next (zp_next S D1 D2 hz hT hTI st1 st2 l1 l2 fun x1 x2 h' tk y1 y2 b1 d1 d2 b5 b6 b7 => wpAny_pure (hQ x1 x2 h' tk y1 y2 b1 d1 d2 b5 b6 b7)) (F.args_zip_next_1 _))))
theorem zp_done {Q : Option Value → Shared → Prop} (S : ZipSep2 z TI TO i1 i2 fp1 fp2) (D1 : Draws prog w A.in1 i1 fp1 n1 P1 St1) (D2 : Draws prog w A.in1 i2 fp2 n2 P2 St2)
    (hz : ZpO s.heap z TI TO T f) (hT : s.heap.get? T = some oT) (hTI : IsTupOf2 s.heap TI (.ref i1) (.ref i2)) (st1 : St1 n1 s.heap)
    (hQ : ∀ h' tk, (∀ c o, c ≠ z → c ≠ i1 → c ≠ i2 → s.heap.get? c = some o → h'.get? c = some o) → Q none { s with heap := h', toks := tk }) : wpAny (model prog w) A (pyNext (.ref z)) Q E s := by
  have hTy : s.TypeIs (.ref z) "zip" := ⟨_, hz, rfl⟩
  unfold pyNext
  refine wpAny_bind (wpAny_attempt (wpAny_callSpecial?_slot (name := Str.ofString "__next__") hTy F.slot_zip_next
    (wpAny_call_entry F.slot_zip_next hTy F.entry_zip_next (zp_end S D1 D2 hz hT hTI st1 fun h' tk e hk he => ?_) (F.args_zip_next_1 _))))
  obtain ⟨o, ho, hc⟩ := he
  refine wpAny_bind (wpAny_isInstance (T := "StopIteration") (b := true) ⟨o, ho, hc⟩ isSubtype_stop ?_)
  exact wpAny_pure (hQ _ _ hk)
end
end PL
namespace PL
open PySem PySem.Spec PySem.Calls PyProof.Rows L2
theorem no_zip_len : typeLookup (.type "zip") "__len__" = pure none := am_miss_of_fast (by decide +kernel)
theorem no_zip_hint : typeLookup (.type "zip") "__length_hint__" = pure none := am_miss_of_fast (by decide +kernel)
/-- the pairs at the addresses as -/
structure ZpG (xs ys : Array Value) (lo : Addr) (h : Heap) (as : List Addr) : Prop where
  rise : as.Pairwise (· < ·)
  above : ∀ a ∈ as, lo < a
  pairs : ∀ (j : Nat) (a : Addr), as[j]? = some a → ∃ x y, xs[j]? = some x ∧ ys[j]? = some y ∧ h.get? a = some { cls := .type "tuple", data := .seq #[x, y] }
theorem ZpG.there {xs ys : Array Value} {lo : Addr} {h : Heap} {as : List Addr} (g : ZpG xs ys lo h as) {a : Addr} (ha : a ∈ as) : a < h.objs.size := by
  obtain ⟨j, hj⟩ := List.mem_iff_getElem?.mp ha
  obtain ⟨_, _, _, _, e⟩ := g.pairs j a hj
  exact Heap.lt_size e
/-- where a zip over the lists l1 and l2 stands -/
structure ZpS (h : Heap) (z TI TO i1 i2 l1 l2 S : Addr) (xs ys : Array Value) (i : Nat) : Prop where
  own : (i = 0 ∧ IsZip h z TI TO .none ∧ ∃ a b, IsTupOf2 h TO a b) ∨ ∃ T f o, ZpO h z TI TO T f ∧ h.get? T = some o ∧ T ≠ z ∧ T ≠ i1 ∧ T ≠ i2 ∧ T ≠ S
  ti : IsTupOf2 h TI (.ref i1) (.ref i2)
  s1 : h.IsListIter i1 l1 i ∧ h.IsList l1 xs
  s2 : h.IsListIter i2 l2 i ∧ h.IsList l2 ys
theorem ZpS.keep {h h' : Heap} {z TI TO i1 i2 l1 l2 S : Addr} {xs ys : Array Value} {i : Nat} (x : ZpS h z TI TO i1 i2 l1 l2 S xs ys i) (k : ∀ b o, b ≠ S → h.get? b = some o → h'.get? b = some o) (e0 : z ≠ S) (e1 : TI ≠ S) (e2 : TO ≠ S) (e3 : i1 ≠ S) (e4 : i2 ≠ S) (e5 : l1 ≠ S) (e6 : l2 ≠ S) : ZpS h' z TI TO i1 i2 l1 l2 S xs ys i :=
  ⟨x.own.imp (fun ⟨a, b, c, d, e⟩ => ⟨a, k _ _ e0 b, c, d, k _ _ e2 e⟩) (fun ⟨T, f, o, a, b, c1, c2, c3, c4⟩ => ⟨T, f, o, k _ _ e0 a, k _ _ c4 b, c1, c2, c3, c4⟩), k _ _ e1 x.ti,
    ⟨x.s1.1.at fun o e => k _ o e3 e, x.s1.2.at fun o e => k _ o e5 e⟩, ⟨x.s2.1.at fun o e => k _ o e4 e, x.s2.2.at fun o e => k _ o e6 e⟩⟩
section
variable {prog : Program} {w : World} {A : Around} {E : Value → Shared → Prop} {s : Shared} {z TI TO i1 i2 l1 l2 S : Addr} {xs ys : Array Value} {i : Nat}
theorem zl_item {Q : Option Value → Shared → Prop} (hh : A.handled = none) (Z : ZipSep2 z TI TO i1 i2 [i1, l1] [i2, l2]) (n1 : l1 ≠ i1) (n2 : l2 ≠ i2) (hS : S < s.heap.objs.size) (st : ZpS s.heap z TI TO i1 i2 l1 l2 S xs ys i) (h1 : i < xs.size) (h2 : i < ys.size)
    (hQ : ∀ x y h' tk, xs[i]? = some x → ys[i]? = some y → ZpS h' z TI TO i1 i2 l1 l2 S xs ys (i + 1) → h'.get? s.heap.objs.size = some { cls := .type "tuple", data := .seq #[x, y] } → h'.objs.size = s.heap.objs.size + 1 →
      (∀ b o, b ≠ z → b ≠ TO → b ≠ i1 → b ≠ i2 → s.heap.get? b = some o → h'.get? b = some o) → Q (some (.ref s.heap.objs.size)) { s with heap := h', toks := tk }) :
    wpAny (model prog w) A (pyNext (.ref z)) Q E s := by
  have hi : A.in1.handled = none := hh
  have D1 := Draws.list (prog := prog) (w := w) hi i1 l1 n1 xs
  have D2 := Draws.list (prog := prog) (w := w) hi i2 l2 n2 ys
  have lt : ∀ {c o}, s.heap.get? c = some o → s.heap.objs.size ≠ c := fun e => Nat.ne_of_gt (Heap.lt_size e)
  have k1 : s.heap.objs.size ≠ i1 := by obtain ⟨_, e⟩ := D1.live _ _ st.s1; exact lt e
  have k2 : s.heap.objs.size ≠ i2 := by obtain ⟨_, e⟩ := D2.live _ _ st.s2; exact lt e
  rcases st.own with ⟨rfl, hz, a, b, hTO⟩ | ⟨T, f, o, hz, hT, c1, c2, c3, c4⟩
  · refine wpAny_pyNext_zipD2_item Z D1 D2 hz st.ti hTO st.s1 st.s2 h1 h2 fun x y h' tk hx hy z' o' d1 d2 ht hsz hk => ?_
    exact hQ x y h' tk hx hy ⟨.inr ⟨_, false, _, z', ht, lt hz, k1, k2, Nat.ne_of_gt hS⟩, hk _ _ Z.TIz Z.TITO Z.TIi1 Z.TIi2 st.ti, d1, d2⟩ ht hsz hk
  · refine zp_item Z D1 D2 hz hT st.ti st.s1 st.s2 h1 h2 fun x y h' tk hx hy z' d1 d2 ht hsz hk => ?_
    exact hQ x y h' tk hx hy ⟨.inr ⟨T, true, o, z', hk _ _ c1 c2 c3 hT, c1, c2, c3, c4⟩, hk _ _ Z.TIz Z.TIi1 Z.TIi2 st.ti, d1, d2⟩ ht hsz fun b o e1 _ e3 e4 e => hk b o e1 e3 e4 e
theorem zl_done {Q : Option Value → Shared → Prop} (hh : A.handled = none) (Z : ZipSep2 z TI TO i1 i2 [i1, l1] [i2, l2]) (n1 : l1 ≠ i1) (n2 : l2 ≠ i2) (st : ZpS s.heap z TI TO i1 i2 l1 l2 S xs ys i) (h1 : i = xs.size) (h2 : i = ys.size)
    (hQ : ∀ h' tk, (∀ b o, b ≠ z → b ≠ TO → b ≠ i1 → b ≠ i2 → s.heap.get? b = some o → h'.get? b = some o) → Q none { s with heap := h', toks := tk }) :
    wpAny (model prog w) A (pyNext (.ref z)) Q E s := by
  have hi : A.in1.handled = none := hh
  have D1 := Draws.list (prog := prog) (w := w) hi i1 l1 n1 xs
  have D2 := Draws.list (prog := prog) (w := w) hi i2 l2 n2 ys
  rcases st.own with ⟨rfl, hz, a, b, hTO⟩ | ⟨T, f, o, hz, hT, c1, c2, c3, c4⟩
  · exact wpAny_pyNext_zipD2_end Z D1 D2 hz st.ti hTO st.s1 st.s2 (by omega) (by omega) (.inl h1) hQ
  · subst h1
    exact zp_done Z D1 D2 hz hT st.ti st.s1 fun h' tk hk => hQ h' tk fun b o e1 _ e3 e4 e => hk b o e1 e3 e4 e
end
section
variable {prog : Program} {w : World} {A : Around} {s : Shared} {R : Result → Shared → Prop} {z TI TO i1 i2 l1 l2 S : Addr} {xs ys : Array Value}
/-- all of the zip's own cells lie above S and below z -/
structure ZpC (z TI TO i1 i2 l1 l2 S : Addr) : Prop where
  sep : ZipSep2 z TI TO i1 i2 [i1, l1] [i2, l2]
  n1 : l1 ≠ i1
  n2 : l2 ≠ i2
  z : z ≠ S
  ti : TI ≠ S
  to : TO ≠ S
  i1 : i1 ≠ S
  i2 : i2 ≠ S
  l1 : l1 ≠ S
  l2 : l2 ≠ S
theorem zl_loop (hh : A.handled = none) (C : ZpC z TI TO i1 i2 l1 l2 S) {lo : Addr} (lz : z ≤ lo) (lTO : TO ≤ lo) (li1 : i1 ≤ lo) (li2 : i2 ≤ lo) (lS : S ≤ lo) (hn : xs.size ≤ sizeLine) (hxy : ys.size = xs.size) (res : Value) {h₁ : Heap}
    (hR : ∀ h' tk acc c as, (∀ b o, b ≠ S → b ≠ z → b ≠ TO → b ≠ i1 → b ≠ i2 → h₁.get? b = some o → h'.get? b = some o) → h'.get? S = some { cls := .type "list", dict := none, data := .seq acc c, slots := #[] } → as.length = xs.size → ZpG xs ys lo h' as →
      acc.toList = as.map Value.ref → R (.ok (.ret res)) { s with heap := h', toks := tk }) :
    ∀ (k i : Nat) (h : Heap) (tk c : Nat) (acc : Array Value) (as : List Addr), xs.size - i = k → i ≤ xs.size → ZpS h z TI TO i1 i2 l1 l2 S xs ys i → (∀ b o, b ≠ S → b ≠ z → b ≠ TO → b ≠ i1 → b ≠ i2 → h₁.get? b = some o → h.get? b = some o) →
      h.get? S = some { cls := .type "list", dict := none, data := .seq acc c, slots := #[] } → acc.toList = as.map Value.ref → as.length = i → ZpG xs ys lo h as → lo < h.objs.size →
      codeAny (model prog w) A (.builtin "list.extend.loop" ⟨[.ref S, .ref z, res], []⟩) R { s with heap := h, toks := tk } := by
  have up2 : ∀ {a : Addr}, lo < a → a ≠ z ∧ a ≠ TO ∧ a ≠ i1 ∧ a ≠ i2 ∧ a ≠ S := fun ha => ⟨Nat.ne_of_gt (Nat.lt_of_le_of_lt lz ha), Nat.ne_of_gt (Nat.lt_of_le_of_lt lTO ha), Nat.ne_of_gt (Nat.lt_of_le_of_lt li1 ha), Nat.ne_of_gt (Nat.lt_of_le_of_lt li2 ha), Nat.ne_of_gt (Nat.lt_of_le_of_lt lS ha)⟩
  intro k
  induction k with
  | zero =>
    intro i h tk c acc as hk hi st keep hS hacc hal hG hlo
    have hin : i = xs.size := by omega
    refine codeAny_builtin PySem.F.entry_extend_loop ?_
    rw [Around.under_plainId PySem.F.plain_extend_loop _]
    show wpAny _ A.in1 (pyNext (.ref z) >>= _) _ _ _
    refine wpAny_bind (zl_done (s := { s with heap := h, toks := tk }) (A := A.in1) hh C.sep C.n1 C.n2 st hin (by omega) fun h' tk' he => ?_)
    refine wpAny_pure (hR h' tk' acc c as (fun b o e0 e1 e2 e3 e4 e => he b o e1 e2 e3 e4 (keep b o e0 e1 e2 e3 e4 e)) (he S _ C.z.symm C.to.symm C.i1.symm C.i2.symm hS) (by omega) ⟨hG.rise, hG.above, fun j a hj => ?_⟩ hacc)
    obtain ⟨x, y, a1, a2, a3⟩ := hG.pairs j a hj
    obtain ⟨b1, b2, b3, b4, b5⟩ := up2 (hG.above a (List.mem_of_getElem? hj))
    exact ⟨x, y, a1, a2, he a _ b1 b2 b3 b4 a3⟩
  | succ k ih =>
    intro i h tk c acc as hk hi st keep hS hacc hal hG hlo
    have lt : i < xs.size := by omega
    have hsz : acc.size = i := by rw [← Array.length_toList, hacc, List.length_map, hal]
    refine codeAny_builtin PySem.F.entry_extend_loop ?_
    rw [Around.under_plainId PySem.F.plain_extend_loop _]
    show wpAny _ A.in1 (pyNext (.ref z) >>= _) _ _ _
    refine wpAny_bind (zl_item (s := { s with heap := h, toks := tk }) (A := A.in1) hh C.sep C.n1 C.n2 (Heap.lt_size hS) st lt (by omega) fun x y h' tk' hx hy st' ht hz' hkp => ?_)
    dsimp only at ht hz' hkp ⊢
    have hS' := hkp S _ C.z.symm C.to.symm C.i1.symm C.i2.symm hS
    have up : ∀ b o, b ≠ S → h'.get? b = some o → (h'.update S (Obj.mapSeq (·.push (Value.ref h.objs.size)))).get? b = some o := fun b o hb e => (Heap.get?_update_other _ _ (Ne.symm hb)).trans e
    have hSl : S < h.objs.size := Heap.lt_size hS
    show wpAny _ A.in1 (updateSeq S (·.push (Value.ref h.objs.size)) >>= _) _ _ _
    refine wpAny_bind ?_
    refine wpAny_updateSeq hS' rfl (wpAny_pure ⟨plainId_quiet PySem.F.plain_extend_loop _, ih (i + 1) _ tk' _ (acc.push (Value.ref h.objs.size)) (as ++ [h.objs.size]) (by omega) lt (st'.keep up C.z C.ti C.to C.i1 C.i2 C.l1 C.l2)
      (fun b o e0 e1 e2 e3 e4 e => up b o e0 (hkp b o e1 e2 e3 e4 (keep b o e0 e1 e2 e3 e4 e))) (Heap.get?_update_self _ hS' rfl) (by rw [Array.toList_push, hacc, List.map_append]; rfl) (by rw [List.length_append, hal]; rfl) ⟨?_, ?_, ?_⟩ ?_⟩) (by rw [hsz]; omega) (by show (acc.push (Value.ref h.objs.size)).size ≤ sizeLine + 1; rw [Array.size_push, hsz]; omega)
    · refine List.pairwise_append.mpr ⟨hG.rise, List.pairwise_singleton _ _, fun a ha b hb => ?_⟩
      rw [List.mem_singleton.mp hb]
      exact hG.there ha
    · intro a ha
      rcases List.mem_append.mp ha with ha | ha
      · exact hG.above a ha
      · rw [List.mem_singleton.mp ha]; exact hlo
    · intro j b hj
      rcases Nat.lt_trichotomy j as.length with q | q | q
      · rw [List.getElem?_append_left q] at hj
        obtain ⟨u, v, a1, a2, a3⟩ := hG.pairs j b hj
        obtain ⟨b1, b2, b3, b4, b5⟩ := up2 (hG.above b (List.mem_of_getElem? hj))
        exact ⟨u, v, a1, a2, up b _ b5 (hkp b _ b1 b2 b3 b4 a3)⟩
      · subst q
        have hb : h.objs.size = b := by simpa using hj
        subst hb
        exact ⟨x, y, by rw [hal]; exact hx, by rw [hal]; exact hy, up _ _ (Nat.ne_of_gt hSl) ht⟩
      · have hnone : (as ++ [h.objs.size])[j]? = none := List.getElem?_eq_none (by rw [List.length_append, List.length_singleton]; omega)
        rw [hnone] at hj; cases hj
    · have e : (h'.update S (Obj.mapSeq (·.push (Value.ref h.objs.size)))).get? h.objs.size = _ := up _ _ (Nat.ne_of_gt hSl) ht
      exact Nat.lt_trans hlo (Heap.lt_size e)
theorem zl_hint (hT : s.TypeIs (.ref z) "zip") {E : Value → Shared → Prop} {Q : Bool → Shared → Prop} (h : ∀ b, Q b s) : wpAny (model prog w) A (Builtin.List.listLengthHint (.ref z)) Q E s := by
  unfold Builtin.List.listLengthHint
  refine wpAny_bind (wpAny_specialOf hT no_zip_len ?_)
  show wpAny _ _ (specialOf (Value.ref z) (Str.ofString "__length_hint__") >>= _) _ _ _
  refine wpAny_bind (wpAny_specialOf hT no_zip_hint ?_)
  exact wpAny_pure (h _)
end
end PL
namespace PL
open PySem PySem.Spec PySem.Calls PyProof.Rows L2
/-- a zip over the lists l1, l2, as it is made -/
structure Zp0 (h : Heap) (z TI TO i1 i2 l1 l2 : Addr) (xs ys : Array Value) : Prop where
  z : IsZip h z TI TO .none
  ti : IsTupOf2 h TI (.ref i1) (.ref i2)
  to : IsTupOf2 h TO .none .none
  s1 : h.IsListIter i1 l1 0 ∧ h.IsList l1 xs
  s2 : h.IsListIter i2 l2 0 ∧ h.IsList l2 ys
theorem Zp0.at {h h' : Heap} {z TI TO i1 i2 l1 l2 : Addr} {xs ys : Array Value} (x : Zp0 h z TI TO i1 i2 l1 l2 xs ys) {S : Addr} (k : ∀ b o, b ≠ S → h.get? b = some o → h'.get? b = some o) (C : ZpC z TI TO i1 i2 l1 l2 S) : Zp0 h' z TI TO i1 i2 l1 l2 xs ys :=
  ⟨k _ _ C.z x.z, k _ _ C.ti x.ti, k _ _ C.to x.to, ⟨x.s1.1.at fun o e => k _ o C.i1 e, x.s1.2.at fun o e => k _ o C.l1 e⟩, ⟨x.s2.1.at fun o e => k _ o C.i2 e, x.s2.2.at fun o e => k _ o C.l2 e⟩⟩
section
variable {prog : Program} {w : World} {A : Around} {E : Value → Shared → Prop} {s : Shared} {z TI TO i1 i2 l1 l2 S : Addr} {xs ys : Array Value}
theorem zl_extend {R : Result → Shared → Prop} (hh : A.handled = none) (C : ZpC z TI TO i1 i2 l1 l2 S) {lo : Addr} (lz : z ≤ lo) (lTO : TO ≤ lo) (li1 : i1 ≤ lo) (li2 : i2 ≤ lo) (lS : S ≤ lo) (hlo : lo < s.heap.objs.size) (hn : xs.size ≤ sizeLine) (hxy : ys.size = xs.size)
    (st : Zp0 s.heap z TI TO i1 i2 l1 l2 xs ys) (res : Value) (c₀ : Nat) (hS : s.heap.get? S = some { cls := .type "list", data := .seq #[] c₀ })
    (hR : ∀ h' tk acc c as, (∀ b o, b ≠ S → b ≠ z → b ≠ TO → b ≠ i1 → b ≠ i2 → s.heap.get? b = some o → h'.get? b = some o) → h'.get? S = some { cls := .type "list", dict := none, data := .seq acc c, slots := #[] } → as.length = xs.size → ZpG xs ys lo h' as →
      acc.toList = as.map Value.ref → R (.ok (.ret res)) { s with heap := h', toks := tk }) :
    wpAny (model prog w) A.in1 (Builtin.List.listExtendWith (.ref S) (.ref z) res)
      (fun fin s' => match fin with | .done f => R (.ok f) s' | .again c' => c'.quiet = true ∧ codeAny (model prog w) A c' R s') (fun e s' => R (.error e) s') s := by
  have hT : s.TypeIs (.ref z) "zip" := ⟨_, st.z, rfl⟩
  have key : ∀ (h : Heap) (c₁ tk : Nat), (∀ b o, b ≠ S → s.heap.get? b = some o → h.get? b = some o) → h.objs.size = s.heap.objs.size →
      h.get? S = some { cls := .type "list", data := .seq #[] c₁ } → codeAny (model prog w) A (.builtin "list.extend.loop" ⟨[.ref S, .ref z, res], []⟩) R { s with heap := h, toks := tk } := by
    intro h c₁ tk hk hsz hS₁
    have st' := st.at hk C
    exact zl_loop (s := s) (h₁ := s.heap) hh C lz lTO li1 li2 lS hn hxy res hR xs.size 0 h tk c₁ #[] [] (Nat.sub_zero _) (Nat.zero_le _) ⟨.inl ⟨rfl, st'.z, _, _, st'.to⟩, st'.ti, st'.s1, st'.s2⟩
      (fun b o e0 _ _ _ _ e => hk b o e0 e) hS₁ rfl rfl ⟨List.Pairwise.nil, (fun _ ha => nomatch ha), (fun j a hj => by simp at hj)⟩ (by rw [hsz]; exact hlo)
  unfold Builtin.List.listExtendWith
  refine wpAny_bind (wpAny_typeOf (T := "zip") hT ?_)
  have h1 : Builtin.List.listSameRef (.ref S) (.ref z) = false := by simp [Builtin.List.listSameRef, Ne.symm C.z]
  have h2 : (Value.type "zip" == Value.type "list") = false := by decide
  have h3 : (Value.type "zip" == Value.type "tuple") = false := by decide
  simp only [h1, h2, h3, Bool.or_false, Bool.false_eq_true, if_false]
  refine wpAny_bind (wpAny_pyIter_zip st.z ?_)
  refine wpAny_bind (wpAny_holding (zl_hint hT fun b => ?_))
  refine wpAny_ite_split (fun _ => ?_) (fun _ => wpAny_pure ⟨plainId_quiet PySem.F.plain_extend_loop _, key _ c₀ _ (fun b o _ e => e) rfl hS⟩)
  refine wpAny_bind (wpAny_rule ?_)
  refine wpAny_bind ?_
  show wpAny _ _ (updateSeq S (·.push .none) >>= fun _ => updateSeq S (·.pop)) _ _ _
  refine wpAny_bind (wpAny_updateSeq hS rfl ?_)
  have hS₂ := Heap.get?_update_self (Obj.mapSeq (·.push Value.none)) hS rfl
  refine wpAny_updateSeq (hz := by seq_fits) hS₂ rfl ?_
  have hS₃ := Heap.get?_update_self (Obj.mapSeq (·.pop)) hS₂ rfl
  refine wpAny_pure ⟨plainId_quiet PySem.F.plain_extend_loop _, key _ _ _ (fun b o hb e => ?_) ?_ hS₃⟩
  · exact (Heap.get?_update_other _ _ (Ne.symm hb)).trans ((Heap.get?_update_other _ _ (Ne.symm hb)).trans e)
  · rw [(Heap.SameBut.update _ _ _).1, (Heap.SameBut.update _ _ _).1]
theorem zl_call {Q : Value → Shared → Prop} (hh : A.handled = none) (sep : ZipSep2 z TI TO i1 i2 [i1, l1] [i2, l2]) (n1 : l1 ≠ i1) (n2 : l2 ≠ i2) (st : Zp0 s.heap z TI TO i1 i2 l1 l2 xs ys) (hn : xs.size ≤ sizeLine) (hxy : ys.size = xs.size)
    (hQ : ∀ h' tk acc c as, (∀ b o, b ≠ z → b ≠ TO → b ≠ i1 → b ≠ i2 → s.heap.get? b = some o → h'.get? b = some o) → h'.get? s.heap.objs.size = some { cls := .type "list", dict := none, data := .seq acc c, slots := #[] } → as.length = xs.size → ZpG xs ys s.heap.objs.size h' as →
      acc.toList = as.map Value.ref → Q (.ref s.heap.objs.size) { s with heap := h', toks := tk }) :
    wpAny (model prog w) A (call (.type "list") [.ref z]) Q E s := by
  have lt : ∀ {c o}, s.heap.get? c = some o → c ≠ s.heap.objs.size := fun e => Nat.ne_of_lt (Heap.lt_size e)
  have le : ∀ {c o}, s.heap.get? c = some o → c ≤ s.heap.objs.size := fun e => Nat.le_of_lt (Heap.lt_size e)
  obtain ⟨⟨o1, e1, x1⟩, ⟨o2, e2, x2⟩⟩ := id st.s1
  obtain ⟨⟨o3, e3, x3⟩, ⟨o4, e4, x4⟩⟩ := id st.s2
  have C : ZpC z TI TO i1 i2 l1 l2 s.heap.objs.size := ⟨sep, n1, n2, lt st.z, lt st.ti, lt st.to, lt e1, lt e3, lt e2, lt e4⟩
  refine callType_codes (Q₁ := fun obj s₁ => obj = .ref s.heap.objs.size ∧ s₁ = { s with heap := s.heap.push { cls := .type "list", data := .seq #[] } }) PySem.F.called_list (PySem.F.typeCall_list_1 _) PySem.F.entry_list_init
    (code_list_new _ ⟨rfl, rfl⟩) fun obj s₁ h₁ => ?_
  obtain ⟨rfl, rfl⟩ := h₁
  have hS : (s.heap.push { cls := .type "list", data := .seq #[] }).get? s.heap.objs.size = some { cls := .type "list", data := .seq #[] } := Heap.get?_push_size _ rfl
  refine ⟨⟨_, hS, rfl⟩, PySem.F.args_list_init_2 _ _, ?_⟩
  show wpAny _ _ (do let old ← Builtin.List.listItems (.ref s.heap.objs.size); Builtin.List.listUpdate (.ref s.heap.objs.size) (fun _ => #[]); letGo old.toList.reverse; Builtin.List.listExtendWith (.ref s.heap.objs.size) (.ref z) .none) _ _ _
  refine wpAny_bind ?_
  unfold Builtin.List.listItems
  refine wpAny_bind (wpAny_seqItems hS rfl (wpAny_pure ?_))
  show wpAny _ _ (updateSeq s.heap.objs.size (fun _ => #[]) >>= fun _ => letGo (#[] : Array Value).toList.reverse >>= fun _ => Builtin.List.listExtendWith (.ref s.heap.objs.size) (.ref z) .none) _ _ _
  refine wpAny_bind (wpAny_updateSeq hS rfl ?_)
  have hS₂ := Heap.get?_update_self (Obj.mapSeq (fun _ => (#[] : Array Value))) hS rfl
  have oth : ∀ b o, b ≠ s.heap.objs.size → s.heap.get? b = some o → ((s.heap.push { cls := .type "list", data := .seq #[] }).update s.heap.objs.size (Obj.mapSeq (fun _ => (#[] : Array Value)))).get? b = some o :=
    fun b o hb e => (Heap.get?_update_other _ _ (Ne.symm hb)).trans (Heap.get?_push_of_some _ e)
  refine wpAny_bind (wpAny_letGo ?_)
  refine zl_extend (A := A.in1) hh C (lo := s.heap.objs.size) (le st.z) (le st.to) (le e1) (le e3) (Nat.le_refl _) (Heap.lt_size hS₂) hn hxy (st.at oth C) .none _ hS₂ fun h' tk acc c as hk hS' hl hG hacc => ?_
  exact ⟨rfl, hQ h' tk acc c as (fun b o a1 a2 a3 a4 e => hk b o (lt e) a1 a2 a3 a4 (oth b o (lt e) e)) hS' hl hG hacc⟩
end
/-- tuples laid, one by one -/
def layT (H : Hp) : List (Addr × List V) → Hp
  | [] => H
  | p :: r => layT (upd H p.1 (.tup p.2)) r
theorem layT_out : ∀ (ps : List (Addr × List V)) (H : Hp) {b : Addr}, b ∉ ps.map (·.1) → layT H ps b = H b
  | [], _, _, _ => rfl
  | p :: r, H, b, h => by
    rw [List.map_cons, List.mem_cons, not_or] at h
    show layT (upd H p.1 (.tup p.2)) r b = H b
    rw [layT_out r _ h.2, upd_ne h.1]
theorem layT_in : ∀ (ps : List (Addr × List V)) (H : Hp), (ps.map (·.1)).Nodup → ∀ p ∈ ps, layT H ps p.1 = some (.tup p.2)
  | [], _, _, _, hp => by cases hp
  | q :: r, H, nd, p, hp => by
    rw [List.map_cons, List.nodup_cons] at nd
    show layT (upd H q.1 (.tup q.2)) r p.1 = _
    rcases List.mem_cons.mp hp with rfl | hp
    · rw [layT_out r _ nd.1, upd_same]
    · exact layT_in r _ nd.2 p hp
theorem refs_rel : ∀ as : List Addr, Vals (as.map V.ref) (as.map Value.ref)
  | [] => .nil
  | a :: as => .cons rfl (refs_rel as)
theorem vals_at : ∀ {xs : List V} {its : List Value}, Vals xs its → ∀ (j : Nat) (x : V), xs[j]? = some x → ∃ u, its[j]? = some u ∧ L2.RelV x u
  | _, _, .nil, j, x, h => by simp at h
  | _, _, .cons r rr, 0, x, h => by cases h; exact ⟨_, rfl, r⟩
  | _, _, .cons r rr, j + 1, x, h => vals_at rr j x (by simpa using h)
def tLstZip (K : PySem.W.Frag) (ta : TA) : TE := fun σ H Q => ta σ H fun vs H1 => ∃ a b xs ys, vs = [.ref a, .ref b] ∧ SqL K H1 a xs ∧ SqL K H1 b ys ∧ ys.length = xs.length ∧
  ∀ (as : List Addr) (p : Addr), as.length = xs.length → as.Nodup → (∀ c ∈ as, H1 c = none) → H1 p = none → p ∉ as → Q (.ref p) (upd (layT H1 (as.zip ((xs.zip ys).map fun q => [q.1, q.2]))) p (.lst (as.map V.ref)))
section
variable {X : Cx}
/-- what was known is kept, what is told anew is new -/
theorem Inv.more {pins : List (Addr × Obj)} {σ : L2.St} {H H' : Hp} {s : Shared} {h' : Heap} {t' : Nat} (I : Inv X pins σ H s) (k : ∀ b u, s.heap.get? b = some u → h'.get? b = some u) (hH : ∀ b o, H b = some o → H' b = some o) (hf : ∀ b u, s.heap.get? b = some u → H b = none → H' b = none)
    (ok : HOk X.prog X.w H' h') : Inv X pins σ H' { s with heap := h', toks := t' } :=
  I.un { keep := fun b u q _ _ _ => k b u q, slot := fun b u q _ _ _ => ⟨u.slots, k b u q⟩, free := fun b u q n _ => hf b u q n, there := fun b u q _ => ⟨u, k b u q⟩, tups := fun b xs q => hH b _ q, frzs := fun b o u q => hH b _ q, tbls := fun b ps q => ⟨#[], by rw [hH b _ q]; simp⟩ } ok
theorem pe_lstZip {e e2 : Expr} {ta : TA} {p0 pos0 p pos : Pos} (hc : X.calm = true) (hl : Gl X "list") (hml : X.mg "list" = none) (hg : Gl X "zip") (hm : X.mg "zip" = none) (ha : PA X [e, e2] ta)
    (hs : starEach [e, e2] X.env = (false, eval e X.env) :: starEach [e2] X.env := by rfl) (hpl : (backTo pos (starEach [e2] X.env)).any (·.1) = false := by rfl)
    (na : starEach [.Call (.Name "zip" p) [e, e2] [] pos] X.env = (false, eval (.Call (.Name "zip" p) [e, e2] [] pos) X.env) :: starEach [] X.env := by rfl) :
    PE X (.Call (.Name "list" p0) [.Call (.Name "zip" p) [e, e2] [] pos] [] pos0) (tLstZip X.K ta) := by
  refine ⟨fun pins s σ H Q I h => ?_⟩
  refine Call_ (ld_blt I hl hml boot_list (PyProof.Rows.callWith_type1 (args_cons ?_ na) na))
  refine Call_ (ld_blt I hg hm PyProof.Rows.boot_zip (PyProof.Rows.callWith_type1 (thn (ha.run pos pins s σ H _ I h) fun us s1 ⟨vs, H1, I1, r1, q1⟩ => ?_) hs hpl))
  obtain ⟨a, b, xs, ys, ex, hqx, hqy, hxy, q⟩ := q1
  subst ex
  cases r1 with
  | cons r rr =>
    cases rr with
    | cons r' rr =>
      cases rr
      cases r
      cases r'
      obtain ⟨its, rv, p1, z1⟩ := I1.list hqx
      obtain ⟨its2, rv2, p2, _⟩ := I1.list hqy
      have la : a < s1.heap.objs.size := p1.lt
      have lb : b < s1.heap.objs.size := p2.lt
      have e1 : its.length = xs.length := rv.length.symm
      have e2 : its2.length = ys.length := rv2.length.symm
      refine call_zip_2 p1.isList p2.isList fun h' hz hTI hTO i1 i2 hsz hk => args_nil ?_
      have hk' : ∀ c o, s1.heap.get? c = some o → h'.get? c = some o := hk
      have sep : ZipSep2 (s1.heap.objs.size + 4) (s1.heap.objs.size + 2) (s1.heap.objs.size + 3) s1.heap.objs.size (s1.heap.objs.size + 1) [s1.heap.objs.size, a] [s1.heap.objs.size + 1, b] :=
        zip_sep2 (fun c hc => by rw [List.mem_singleton.mp hc]; exact la) fun c hc => by rw [List.mem_singleton.mp hc]; exact lb
      refine zl_call (s := { s1 with heap := h' }) (xs := its.toArray) (ys := its2.toArray) (I1.ok.hd hc) sep (Nat.ne_of_lt la) (Nat.ne_of_lt (Nat.lt_succ_of_lt lb)) ⟨hz, hTI, hTO, ⟨i1, p1.isList.at fun o e => hk' _ o e⟩, ⟨i2, p2.isList.at fun o e => hk' _ o e⟩⟩ (by simpa [e1] using z1) (by simp [e1, e2, hxy]) fun h2 tk acc c as k2 hL hal hG hacc => ?_
      have al : as.length = xs.length := by rw [hal]; simpa using e1
      have above : ∀ c ∈ as, s1.heap.objs.size + 5 ≤ c := fun c hc => by
        have := hG.above c hc
        have hsz' : h'.objs.size = s1.heap.objs.size + 5 := hsz
        rw [hsz'] at this
        exact Nat.le_of_lt this
      have old : ∀ c u, s1.heap.get? c = some u → h2.get? c = some u := fun c u hcu => by
        have hlt := Heap.lt_size hcu
        exact k2 c u (Nat.ne_of_lt (Nat.lt_of_lt_of_le hlt (Nat.le_add_right _ _))) (Nat.ne_of_lt (Nat.lt_of_lt_of_le hlt (Nat.le_add_right _ _))) (Nat.ne_of_lt hlt) (Nat.ne_of_lt (Nat.lt_of_lt_of_le hlt (Nat.le_add_right _ _))) (hk' c u hcu)
      have nH : ∀ c, s1.heap.objs.size ≤ c → H1 c = none := fun c hc => I1.hok.fresh hc
      have pz : s1.heap.objs.size ≤ h'.objs.size := by have hsz' : h'.objs.size = s1.heap.objs.size + 5 := hsz; rw [hsz']; exact Nat.le_add_right _ _
      have pn : h'.objs.size ∉ as := fun hm => Nat.lt_irrefl _ (hG.above _ hm)
      have nd : as.Nodup := hG.rise.imp fun a => Nat.ne_of_lt a
      have kz : ((as.zip ((xs.zip ys).map fun q => [q.1, q.2])).map (·.1)) = as := by
        rw [List.map_fst_zip]
        rw [List.length_map, List.length_zip, hxy, al]; simp
      refine ⟨.ref h'.objs.size, upd (layT H1 (as.zip ((xs.zip ys).map fun q => [q.1, q.2]))) h'.objs.size (.lst (as.map V.ref)), ?_, rfl, q as h'.objs.size al nd (fun c hc => nH c (Nat.le_trans (Nat.le_add_right _ 5) (above c hc))) (nH _ pz) pn⟩
      have hin : ∀ c o, H1 c = some o → upd (layT H1 (as.zip ((xs.zip ys).map fun q => [q.1, q.2]))) h'.objs.size (.lst (as.map V.ref)) c = some o := fun c o hco => by
        have hlt := I1.hok.lt hco
        rw [upd_ne (Nat.ne_of_lt (Nat.lt_of_lt_of_le hlt pz)), layT_out _ _ (by rw [kz]; exact fun hm => Nat.not_lt_of_le (Nat.le_trans (Nat.le_add_right _ 5) (above c hm)) hlt)]
        exact hco
      refine (show L2.Inv X pins σ _ { s1 with heap := h2, toks := tk } from Inv.more I1 old hin (fun c u hcu hn => ?_) fun c o hco => ?_)
      · have hlt := Heap.lt_size hcu
        rw [upd_ne (Nat.ne_of_lt (Nat.lt_of_lt_of_le hlt pz)), layT_out _ _ (by rw [kz]; exact fun hm => Nat.not_lt_of_le (Nat.le_trans (Nat.le_add_right _ 5) (above c hm)) hlt)]
        exact hn
      · by_cases hcp : c = h'.objs.size
        · subst hcp
          rw [upd_same] at hco; cases hco
          refine ⟨by rw [List.length_map, al]; exact z1, as.map Value.ref, _, ?_, by rw [← hacc]; simpa using hL⟩
          exact refs_rel as
        · rw [upd_ne hcp] at hco
          by_cases hca : c ∈ as
          · obtain ⟨j, hj⟩ := List.mem_iff_getElem?.mp hca
            obtain ⟨x, y, hx, hy, ht⟩ := hG.pairs j c hj
            have hjx : j < xs.length := by rw [← al]; exact (List.getElem?_eq_some_iff.mp hj).1
            have hjy : j < ys.length := by omega
            have gz : (as.zip ((xs.zip ys).map fun q => [q.1, q.2]))[j]? = some (c, [xs[j], ys[j]]) := by
              rw [List.getElem?_zip_eq_some]
              refine ⟨hj, ?_⟩
              have gzz : (xs.zip ys)[j]? = some (xs[j], ys[j]) := List.getElem?_zip_eq_some.mpr ⟨List.getElem?_eq_getElem hjx, List.getElem?_eq_getElem hjy⟩
              rw [List.getElem?_map, gzz]
              rfl
            have := layT_in _ H1 (by rw [kz]; exact nd) _ (List.mem_of_getElem? gz)
            rw [this] at hco; cases hco
            obtain ⟨x', hx', rx⟩ := vals_at rv j _ (List.getElem?_eq_getElem hjx)
            obtain ⟨y', hy', ry⟩ := vals_at rv2 j _ (List.getElem?_eq_getElem hjy)
            rw [List.getElem?_toArray] at hx hy
            rw [hx'] at hx; cases hx
            rw [hy'] at hy; cases hy
            exact ⟨by show 2 ≤ sizeLine; decide, [x, y], .cons rx (.cons ry .nil), _, ht, rfl, _, rfl⟩
          · rw [layT_out _ _ (by rw [kz]; exact hca)] at hco
            refine (I1.hok c o hco).stay (fun d v _ e => old d v e) (fun d e => hin _ _ e) fun d zs e => hin _ _ e
end
end PL
namespace PL
open PySem PySem.Spec PyProof.Rows L2
variable [HasT]
theorem step_layT : ∀ (ps : List (Addr × List V)) {F H : Hp}, Mono F H → (ps.map (·.1)).Nodup → (∀ p ∈ ps, H p.1 = none) → ∃ F', Step F H F' (layT H ps) ∧ ∀ p ∈ ps, F' p.1 = some (.tup p.2)
  | [], F, H, s, _, _ => ⟨F, Step.refl s, fun p hp => by cases hp⟩
  | q :: r, F, H, s, nd, hn => by
    rw [List.map_cons, List.nodup_cons] at nd
    have st := Step.tup' (o := .tup q.2) s (hn q (by simp))
    obtain ⟨F', st', h'⟩ := step_layT r (F := upd F q.1 (.tup q.2)) (H := upd H q.1 (.tup q.2)) st.sub nd.2 fun p hp => by
      rw [upd_ne fun z => nd.1 (by rw [← z]; exact List.mem_map.mpr ⟨p, hp, rfl⟩)]
      exact hn p (by simp [hp])
    refine ⟨F', st.trans st', fun p hp => ?_⟩
    rcases List.mem_cons.mp hp with rfl | hp
    · exact st'.mono.tup upd_same
    · exact h' p hp
def pairsZ : List D → List D → List D
  | x :: xs, y :: ys => .tup [x, y] :: pairsZ xs ys
  | _, _ => []
def gLstZip : GN := fun ds Q => match ds with
  | [.lst xs, .lst ys] => ys.length = xs.length ∧ Q (.tmp (.lst (pairsZ xs ys)))
  | _ => False
def rLstZip (K : PySem.W.Frag) : List V → Hp → VK → Prop := fun vs H1 Q => ∃ a b xs ys, vs = [.ref a, .ref b] ∧ SqL K H1 a xs ∧ SqL K H1 b ys ∧ ys.length = xs.length ∧
  ∀ (as : List Addr) (p : Addr), as.length = xs.length → as.Nodup → (∀ c ∈ as, H1 c = none) → H1 p = none → p ∉ as → Q (.ref p) (upd (layT H1 (as.zip ((xs.zip ys).map fun q => [q.1, q.2]))) p (.lst (as.map V.ref)))
section
variable {K : PySem.W.Frag} {mg : Str → Option Value}
theorem pairsZ_rep {F F' : Hp} (m : Mono F F') : ∀ {as : List Addr} {xs ys : List V} {ds es : List D}, RepL K mg F ds xs → RepL K mg F es ys → as.length = xs.length → ys.length = xs.length → (∀ p ∈ as.zip ((xs.zip ys).map fun q => [q.1, q.2]), F' p.1 = some (.tup p.2)) → RepL K mg F' (pairsZ ds es) (as.map V.ref)
  | [], xs, ys, ds, es, r1, r2, h1, h2, h => by
    cases xs with
    | nil =>
      cases ds with
      | nil => rfl
      | cons d ds => obtain ⟨_, _, e, _⟩ := r1; cases e
    | cons x xs => simp at h1
  | a :: as, xs, ys, ds, es, r1, r2, h1, h2, h => by
    cases xs with
    | nil => simp at h1
    | cons x xs =>
      cases ys with
      | nil => simp at h2
      | cons y ys =>
        cases ds with
        | nil => exact absurd (show x :: xs = [] from r1) (by simp)
        | cons d ds =>
          cases es with
          | nil => exact absurd (show y :: ys = [] from r2) (by simp)
          | cons e es =>
            obtain ⟨_, _, e1, a1, a2⟩ := r1
            cases e1
            obtain ⟨_, _, e2, b1, b2⟩ := r2
            cases e2
            refine ⟨.ref a, as.map V.ref, rfl, ⟨a, [x, y], rfl, SqT.of (h (a, [x, y]) (by simp)), x, [y], rfl, a1.mono K mg m _ _, y, [], rfl, b1.mono K mg m _ _, rfl⟩, pairsZ_rep m a2 b2 (by simpa using h1) (by simpa using h2) fun p hp => h p (by simp [hp])⟩
theorem opn_lstZip : OpN K mg (rLstZip K) gLstZip := by
  intro F H ds vs Qg Q s h hg k
  unfold gLstZip at hg
  split at hg
  next xs ys =>
    obtain ⟨hl, hg⟩ := hg
    obtain ⟨v, u, rfl, h1, h2⟩ := seeL2 h
    obtain ⟨a, zs, rfl, ha, ra⟩ := h1.lst s
    obtain ⟨b, ws, rfl, hb, rb⟩ := h2.lst s
    have la := ra.len K mg
    have lb := rb.len K mg
    have lw : ws.length = zs.length := by omega
    refine ⟨a, b, zs, ws, rfl, SqL.of ha, SqL.of hb, lw, fun as p hal nd nf hp pn => ?_⟩
    have kz : ((as.zip ((zs.zip ws).map fun q => [q.1, q.2])).map (·.1)) = as := by
      rw [List.map_fst_zip]
      rw [List.length_map, List.length_zip, lw, hal]; simp
    obtain ⟨F', st, hF⟩ := step_layT (as.zip ((zs.zip ws).map fun q => [q.1, q.2])) s (by rw [kz]; exact nd) fun q hq => nf q.1 (by
      rw [← kz]; exact List.mem_map.mpr ⟨q, hq, rfl⟩)
    have hp' : layT H (as.zip ((zs.zip ws).map fun q => [q.1, q.2])) p = none := by rw [layT_out _ _ (by rw [kz]; exact pn)]; exact hp
    have st2 := Step.new (o := .lst (as.map V.ref)) st.sub hp'
    refine k _ _ _ (.tmp (.lst (pairsZ xs ys))) (st.trans st2) ⟨[p], ⟨p, _, rfl, rfl, upd_same, pairsZ_rep st.mono ra rb hal lw hF⟩, fun c hc => ?_⟩ hg
    obtain rfl : c = p := by simpa using hc
    exact ⟨fresh_F st.sub hp', by rw [upd_same]; simp, hp⟩
  next => exact hg.elim
end
section
variable {X : Cx} {XE : XK} {k : Nat} {p0 pos0 p pos : Pos} {e e2 : Expr} {w : WR}
theorem go_lstZip (C : Cc X XE k) (hml : X.mg "list" = none) (hm : X.mg "zip" = none) (ha : PdV X XE [e, e2] w) (hl : Gl X "list" := by rfl) (hg : Gl X "zip" := by rfl)
    (hs : starEach [e, e2] X.env = (false, eval e X.env) :: starEach [e2] X.env := by rfl) (hpl : (backTo pos (starEach [e2] X.env)).any (·.1) = false := by rfl)
    (na : starEach [.Call (.Name "zip" p) [e, e2] [] pos] X.env = (false, eval (.Call (.Name "zip" p) [e, e2] [] pos) X.env) :: starEach [] X.env := by rfl) :
    PdE X XE (.Call (.Name "list" p0) [.Call (.Name "zip" p) [e, e2] [] pos] [] pos0) (wCall gLstZip w) := by
  obtain ⟨t, pa, s⟩ := ha
  refine ⟨_, pe_lstZip C.calm hl hml hg hm pa hs hpl na, ?_⟩
  have h := call_run (es := [e, e2]) (opn_lstZip (K := X.K) (mg := X.mg)) s
  exact h
end
end PL
namespace PL.K4
open PySem PySem.Spec PyProof.Rows L2 PL
open PySem.W (dataLt dataLe minD alike keyToks)
def ltPk (p q : Pk) : Bool := dataLt (pkP p) (pkP q)
theorem ltPk_irr (p : Pk) : ltPk p p = false := lex_irrefl (O := itemOrd) _
theorem ltPk_neg {p q r : Pk} (h : ltPk p q = false) (g : ltPk q r = false) : ltPk p r = false := by
  cases e : ltPk p r with
  | false => rfl
  | true =>
    rcases lex_negTrans (O := itemOrd) (keyToks (pkP p)) (keyToks (pkP q)) (keyToks (pkP r)) e with a | a
    · rw [← h]; exact a.symm
    · rw [← g]; exact a.symm
theorem str_of {x y : Str} (h : x.cps.toList = y.cps.toList) : x = y := PySem.W.str_of_cps h
theorem ltPk_tot {p q : Pk} (h : ltPk p q = false) (g : ltPk q p = false) : p = q := by
  have e := lex_total (O := itemOrd) (keyToks (pkP p)) (keyToks (pkP q)) h g
  obtain ⟨k, a, b, c, d⟩ := p
  obtain ⟨k', a', b', c', d'⟩ := q
  simp only [pkP, keyToks, PySem.W.keyToksAll, List.cons_append, List.nil_append, List.append_assoc, List.cons.injEq, true_and, and_true, Sum.inl.injEq, Sum.inr.injEq] at e
  obtain ⟨e1, e2, e3, e4, e5⟩ := e
  rw [str_of e1, e2, e3, e4, e5]
theorem step_i {m n : Int} {r t : List (Int ⊕ List Nat)} (h : n ≤ m) (g : n = m → PyProof.Rows.lexLt itemOrd r t = false) : PyProof.Rows.lexLt itemOrd (.inl m :: r) (.inl n :: t) = false := by
  refine (lex_false (O := itemOrd)).mpr ⟨?_, ?_⟩
  · show decide (m < n) = false
    simp; omega
  · by_cases e : n = m
    · exact .inr (g e)
    · refine .inl ?_
      show decide (n < m) = true
      simp; omega
theorem step_s {l : List Nat} {r t : List (Int ⊕ List Nat)} (g : PyProof.Rows.lexLt itemOrd r t = false) : PyProof.Rows.lexLt itemOrd (.inr l :: r) (.inr l :: t) = false := by
  rw [lex_self (O := itemOrd)]; exact g
/-- a packet that is no greater anywhere is no greater -/
theorem ltPk_mono {p q : Pk} (hk : p.k = q.k) (ha : p.a ≤ q.a) (hb : p.b ≤ q.b) (hc : p.c ≤ q.c) (hd : p.d ≤ q.d) : ltPk q p = false := by
  obtain ⟨k, a, b, c, d⟩ := p
  obtain ⟨k', a', b', c', d'⟩ := q
  obtain rfl : k = k' := hk
  simp only at ha hb hc hd
  unfold ltPk dataLt
  simp only [pkP, keyToks, PySem.W.keyToksAll, List.cons_append, List.nil_append, List.append_assoc]
  exact step_i (Int.le_refl _) fun _ => step_s (step_i (Int.le_refl _) fun _ => step_i (Int.le_refl _) fun _ => step_i ha fun _ => step_i (Int.le_refl _) fun _ => step_i hb fun _ => step_i (Int.le_refl _) fun _ => step_i (Int.le_refl _) fun _ => step_i (Int.le_refl _) fun _ => step_i hc fun _ => step_i (Int.le_refl _) fun _ => step_i hd fun _ => step_i (Int.le_refl _) fun _ => step_i (Int.le_refl _) fun _ => lex_irrefl (O := itemOrd) _)
/-- min of packets: one of them, no other is less -/
theorem minD_pk : ∀ (ps : List Pk) (p : Pk), ∃ m ∈ p :: ps, minD (pkP p) (ps.map pkP) = pkP m ∧ ∀ q ∈ p :: ps, ltPk q m = false
  | [], p => ⟨p, by simp, rfl, fun q hq => by rw [List.mem_singleton.mp hq]; exact ltPk_irr p⟩
  | r :: ps, p => by
    have e : minD (pkP p) ((r :: ps).map pkP) = minD (pkP (if ltPk r p = true then r else p)) (ps.map pkP) := by
      unfold minD
      rw [List.map_cons, List.foldl_cons]
      congr 1
      unfold ltPk
      split <;> rfl
    obtain ⟨m, hm, h1, h2⟩ := minD_pk ps (if ltPk r p = true then r else p)
    have hq0 := h2 _ List.mem_cons_self
    refine ⟨m, ?_, e.trans h1, fun q hq => ?_⟩
    · rcases List.mem_cons.mp hm with rfl | hm
      · split <;> simp
      · simp [hm]
    · rcases List.mem_cons.mp hq with rfl | hq
      · by_cases hl : ltPk r q = true
        · rw [if_pos hl] at hq0
          refine ltPk_neg ?_ hq0
          cases z : ltPk q r with
          | false => rfl
          | true =>
            have := lex_trans (O := itemOrd) _ _ _ z hl
            exact absurd (show ltPk q q = true from this) (by rw [ltPk_irr]; simp)
        · rw [if_neg hl] at hq0; exact hq0
      · rcases List.mem_cons.mp hq with rfl | hq
        · by_cases hl : ltPk q p = true
          · rw [if_pos hl] at hq0; exact hq0
          · rw [if_neg hl] at hq0
            exact ltPk_neg (by simpa using hl) hq0
        · exact h2 q (List.mem_cons_of_mem _ hq)
theorem le_pk : dataLe false pkP = fun a b => !ltPk b a := PySem.W.dataLe_eq false pkP
/-- a sorted list of packets begins with the least -/
theorem sorted_head {l : List Pk} : ∀ m t, l.mergeSort (dataLe false pkP) = m :: t → m ∈ l ∧ ∀ q ∈ l, ltPk q m = false := fun m t e => by
  have hp := List.mergeSort_perm l (dataLe false pkP)
  have hs := List.pairwise_mergeSort (le := dataLe false pkP) (fun a b c h1 h2 => by
    rw [le_pk] at h1 h2 ⊢
    simp only [Bool.not_eq_true'] at h1 h2 ⊢
    exact ltPk_neg h2 h1) (fun a b => by
    rw [le_pk]
    simp only [Bool.or_eq_true, Bool.not_eq_true']
    cases z : ltPk b a with
    | false => exact .inl rfl
    | true =>
      right
      cases y : ltPk a b with
      | false => rfl
      | true =>
        have := lex_trans (O := itemOrd) _ _ _ z y
        exact absurd (show ltPk b b = true from this) (by rw [ltPk_irr]; simp)) l
  rw [e] at hp hs
  refine ⟨hp.mem_iff.mp (by simp), fun q hq => ?_⟩
  rcases List.mem_cons.mp (hp.mem_iff.mpr hq) with rfl | hq
  · exact ltPk_irr q
  · have := (List.pairwise_cons.mp hs).1 q hq
    rw [le_pk] at this
    simpa using this
end PL.K4
namespace PL
open PySem PySem.Spec PyProof.Rows L2
variable [HasT]
section
variable {ρ : Env} {Q : R → Env → Prop} {Ep : Ex → Env → Prop} {Dp : PEnds} {n : Env → Prop} {K : R → Prop}
theorem x_dix0 : wDix0 ρ Q Ep = Q (.tmp (.dix HasT.W [] [])) ρ := Eq.trans rfl rfl
def kDix : Option (Option Ent) → Prop
  | some (some (.own _ (.dix _ _ _))) => True
  | _ => False
theorem kDix_t {b : Bool} {W : World} {ks : List NestedKey} {ds : List D} : kDix (some (some (.own b (.dix W ks ds)))) = True := Eq.trans rfl rfl
def kPX (i : Nat) (d : D) (n : Env → Prop) (e : D) (ρ : Env) : Prop := match ρ[i]?, nkD e with
  | some (some (.own b (.dix W ks ds))), some (.tup q) => W = HasT.W ∧ (NestedKey.tup q).depth ≤ 8 ∧ ks.length < sizeLine ∧ n (ρ.set i (some (.own b (.dix W (putNs ks (.tup q)) (putNd ks ds (.tup q) d)))))
  | _, _ => False
theorem x_putX {i : Nat} {wk wv : WE} : wPutX i wk wv Dp ρ = wK wv ρ (fun d ρ1 => kDix ρ1[i]? ∧ wK wk ρ1 (kPX i d Dp.nx) Dp.ex) Dp.ex := Eq.trans rfl rfl
theorem kPX_t {i : Nat} {d e : D} {b : Bool} {W : World} {ks : List NestedKey} {ds : List D} {q : List NestedKey} (h : ρ[i]? = some (some (.own b (.dix W ks ds)))) (hq : nkD e = some (.tup q)) :
    kPX i d n e ρ = (W = HasT.W ∧ (NestedKey.tup q).depth ≤ 8 ∧ ks.length < sizeLine ∧ n (ρ.set i (some (.own b (.dix W (putNs ks (.tup q)) (putNd ks ds (.tup q) d)))))) := by
  unfold kPX; rw [h, hq]
def kOrL (wb : WE) (Q : R → Env → Prop) (Ep : Ex → Env → Prop) (r : R) (ρ : Env) : D → Prop
  | .lst [] => wb ρ Q Ep
  | .lst (_ :: _) => Q r ρ
  | _ => False
theorem x_orL {wa wb : WE} : wOrL wa wb ρ Q Ep = wV wa ρ (fun r ρ1 => pk1 ρ1 r (kOrL wb Q Ep r ρ1)) Ep := by
  unfold wOrL
  congr 1
theorem kOrL_n {wb : WE} {r : R} : kOrL wb Q Ep r ρ (.lst []) = wb ρ Q Ep := Eq.trans rfl rfl
theorem kOrL_c {wb : WE} {r : R} {d : D} {ds : List D} : kOrL wb Q Ep r ρ (.lst (d :: ds)) = Q r ρ := Eq.trans rfl rfl
theorem gLstZip_l {xs ys : List D} : gLstZip [.lst xs, .lst ys] K = (ys.length = xs.length ∧ K (.tmp (.lst (pairsZ xs ys)))) := Eq.trans rfl rfl
theorem gSortSet_i {ns : List Int} : gSortSet [.lst (ns.map .int)] K = (ns.length < 64 ∧ ∀ out : List Int, out.Pairwise (· < ·) → (∀ k, k ∈ out ↔ k ∈ ns) → K (.tmp (.lst (out.map .int)))) := by
  unfold gSortSet; simp only [intsD_map]
theorem strsD_map : ∀ (l : List Str), strsD (l.map .str) = some l
  | [] => rfl
  | b :: l => by simp [strsD, strsD_map l]
theorem gSortSet_s {ns : List Str} (h : ns ≠ []) : gSortSet [.lst (ns.map .str)] K = (ns.length < 64 ∧ ∀ out : List Str, sortedS out = true → out.Nodup → (∀ k, k ∈ out ↔ k ∈ ns) → K (.tmp (.lst (out.map .str)))) := by
  obtain ⟨a, l, rfl⟩ := List.exists_cons_of_ne_nil h
  have e : intsD ((a :: l).map .str) = none := rfl
  unfold gSortSet
  simp only [e, strsD_map]
theorem gDictX_p {xs : List D} {ps : List (NestedKey × D)} (h : pairsN xs = some ps) : gDictX [.lst xs] K = K (.tmp (.dix HasT.W (mergeN ps [] []).1 (mergeN ps [] []).2)) := by
  unfold gDictX; simp only [h]
theorem gXGet_x {ks : List NestedKey} {ds : List D} {e d : D} {q : List NestedKey} (hq : nkD e = some (.tup q)) (hd : (NestedKey.tup q).depth ≤ 8) (h : lookN ks ds (.tup q) = some d) {K : R → Prop} : gXGet (.dix HasT.W ks ds) e K = K (.val d) := by
  unfold gXGet
  simp only [hq, h, hd, true_and]
end
theorem lookN_put {ds : List D} {q k : NestedKey} {d : D} : ∀ {ks : List NestedKey} {ds : List D}, ks.length = ds.length → lookN (putNs ks q) (putNd ks ds q d) k = if q = k then some d else lookN ks ds k := by
  have aux : ∀ (ks : List NestedKey) (ds : List D), ks.length = ds.length → (ks.any fun k => decide (k = q)) = true → lookN ks ((ks.zip ds).map fun p => if p.1 = q then d else p.2) k = if q = k then some d else lookN ks ds k := by
    intro ks
    induction ks with
    | nil => intro ds _ h; simp at h
    | cons x ks ih =>
      intro ds hl h
      cases ds with
      | nil => simp at hl
      | cons e ds =>
        simp only [List.zip_cons_cons, List.map_cons, lookN]
        by_cases hxq : x = q
        · subst hxq
          by_cases hxk : x = k
          · simp [hxk]
          · simp only [hxk, if_false]
            by_cases h2 : (ks.any fun k => decide (k = x)) = true
            · have := ih ds (by simpa using hl) h2
              rw [this, if_neg hxk]
            · have e2 : ∀ (ks : List NestedKey) (ds : List D), (ks.any fun k => decide (k = x)) = false → ks.length = ds.length → (ks.zip ds).map (fun p => if p.1 = x then d else p.2) = ds := by
                intro ks
                induction ks with
                | nil => intro ds _ hl; cases ds with
                  | nil => rfl
                  | cons => simp at hl
                | cons y ks ih2 =>
                  intro ds hn hl
                  cases ds with
                  | nil => simp at hl
                  | cons e ds =>
                    rw [List.any_cons, Bool.or_eq_false_iff] at hn
                    have hy : ¬ y = x := of_decide_eq_false hn.1
                    simp only [List.zip_cons_cons, List.map_cons, hy, if_false]
                    rw [ih2 ds hn.2 (by simpa using hl)]
              rw [e2 ks ds (Bool.eq_false_iff.mpr h2) (by simpa using hl)]
        · rw [List.any_cons] at h
          have h2 : (ks.any fun k => decide (k = q)) = true := by simpa [hxq] using h
          have := ih ds (by simpa using hl) h2
          by_cases hxk : x = k
          · have : ¬ q = k := fun z => hxq (hxk.trans z.symm)
            simp [hxk, this, hxq]
            intro z; exact absurd z.symm this
          · simp only [hxq, hxk, if_false]
            exact this
  have app : ∀ (ks : List NestedKey) (ds : List D), ks.length = ds.length → (ks.any fun k => decide (k = q)) = false → lookN (ks ++ [q]) (ds ++ [d]) k = if q = k then some d else lookN ks ds k := by
    intro ks
    induction ks with
    | nil => intro ds hl _; cases ds with
      | nil => simp [lookN]
      | cons => simp at hl
    | cons x ks ih =>
      intro ds hl h
      cases ds with
      | nil => simp at hl
      | cons e ds =>
        rw [List.any_cons, Bool.or_eq_false_iff] at h
        have hx : ¬ x = q := of_decide_eq_false h.1
        simp only [List.cons_append, lookN]
        by_cases hxk : x = k
        · have : ¬ q = k := fun z => hx (hxk.trans z.symm)
          simp [hxk, this]
        · simp only [hxk, if_false]
          exact ih ds (by simpa using hl) h.2
  intro ks ds hl
  unfold putNs putNd
  by_cases h : (ks.any fun k => decide (k = q)) = true
  · rw [if_pos h, if_pos h]; exact aux ks ds hl h
  · rw [if_neg h, if_neg h]; exact app ks ds hl (Bool.eq_false_iff.mpr h)
theorem putN_len {ks : List NestedKey} {ds : List D} {q : NestedKey} {d : D} (hl : ks.length = ds.length) : (putNs ks q).length = (putNd ks ds q d).length ∧ (putNs ks q).length ≤ ks.length + 1 := by
  unfold putNs putNd
  split
  · simp [hl]
  · simp [hl]
end PL
namespace PL.K4
open PySem PySem.Spec PyProof.Rows L2 PL
variable [HasT]
def GK (G : Grid) (n : Nat) : Prop := (∀ k ∈ G.ks, k = "ask" ∨ k = "tell") ∧ G.ks.length ≤ 2 ∧ G.xs.length ≤ n ∧ G.ys.length ≤ n
def rEnds : Option Rg → List Int
  | some r => [r.1, r.2 + 1]
  | none => []
theorem rEnds_len (o : Option Rg) : (rEnds o).length ≤ 2 := by cases o <;> simp [rEnds]
def gridOf (bs : List Bk) : Grid := ⟨["ask", "tell"], bs.flatMap fun b => rEnds b.rs[0]? ++ rEnds b.rs[2]?, bs.flatMap fun b => rEnds b.rs[1]? ++ rEnds b.rs[3]?⟩
theorem flat_le {α β : Type} {f : α → List β} {n : Nat} (h : ∀ a, (f a).length ≤ n) : ∀ l : List α, (l.flatMap f).length ≤ n * l.length
  | [] => by simp
  | a :: l => by
    have := flat_le h l
    have := h a
    rw [List.flatMap_cons, List.length_append, List.length_cons, Nat.mul_add]; omega
theorem gridOf_k (bs : List Bk) : GK (gridOf bs) (4 * bs.length) := by
  refine ⟨fun k hk => by simpa [gridOf] using hk, by simp [gridOf], flat_le (fun b => ?_) bs, flat_le (fun b => ?_) bs⟩
  · have := rEnds_len b.rs[0]?; have := rEnds_len b.rs[2]?
    simp; omega
  · have := rEnds_len b.rs[1]?; have := rEnds_len b.rs[3]?
    simp; omega
theorem gridOf_in {bs : List Bk} {b : Bk} (hb : b ∈ bs) (hk : b.k = "ask" ∨ b.k = "tell") (h4 : b.rs.length = 4) : inG (gridOf bs) b := by
  refine ⟨by simpa [gridOf] using hk, fun i r hr => ?_⟩
  have hi : i < 4 := by rw [← h4]; exact (List.getElem?_eq_some_iff.mp hr).1
  have hx : ∀ {n}, n ∈ rEnds b.rs[0]? ++ rEnds b.rs[2]? → n ∈ (gridOf bs).xs := fun h => List.mem_flatMap.mpr ⟨b, hb, h⟩
  have hy : ∀ {n}, n ∈ rEnds b.rs[1]? ++ rEnds b.rs[3]? → n ∈ (gridOf bs).ys := fun h => List.mem_flatMap.mpr ⟨b, hb, h⟩
  match i, hi with
  | 0, _ => exact ⟨hx (by rw [hr]; simp [rEnds]), hx (by rw [hr]; simp [rEnds])⟩
  | 1, _ => exact ⟨hy (by rw [hr]; simp [rEnds]), hy (by rw [hr]; simp [rEnds])⟩
  | 2, _ => exact ⟨hx (by rw [hr]; simp [rEnds]), hx (by rw [hr]; simp [rEnds])⟩
  | 3, _ => exact ⟨hy (by rw [hr]; simp [rEnds]), hy (by rw [hr]; simp [rEnds])⟩
theorem GK.ok {G : Grid} {n : Nat} (h : GK G n) (hn : n ≤ 45) : G.ok := by
  obtain ⟨_, a2, a3, a4⟩ := h
  unfold Grid.ok
  have h1 : G.xs.length * G.xs.length ≤ 45 * 45 := Nat.mul_le_mul (by omega) (by omega)
  have h2 : G.ys.length * G.ys.length ≤ 45 * 45 := Nat.mul_le_mul (by omega) (by omega)
  have h3 := Nat.mul_le_mul h1 h2
  have h4 := Nat.mul_le_mul a2 h3
  omega
theorem nameOk_ask : nameOk "ask" := by refine ⟨by decide, by decide, by decide⟩
theorem nameOk_tell : nameOk "tell" := by refine ⟨by decide, by decide, by decide⟩
theorem atI_mem {α : Type} {l : List α} {m : Int} (h0 : 0 ≤ m) (h1 : m < l.length) : ∃ x, atI l m = some x ∧ x ∈ l ∧ l[m.toNat]? = some x := by
  obtain ⟨n, rfl⟩ := Int.eq_ofNat_of_zero_le h0
  have hn : n < l.length := by omega
  exact ⟨l[n], by rw [atI_nat]; simp [hn], List.getElem_mem _, by simp [hn]⟩
end PL.K4
namespace PL
open PySem PySem.Spec PyProof.Rows L2
section
variable {X : Cx}
theorem ps_parc {i j : Nat} {x y : Str} {a b : Expr} {ta : TA} {px py pt pos : Pos} {kt k2 pt2} (hc : X.calm = true) (hN : X.N.Nodup) (hi : X.N[i]? = some x) (hj : X.N[j]? = some y) (hij : i ≠ j)
    (hx : Loc X.env.scope x) (hy : Loc X.env.scope y) (fx : X.fn x = true ∨ X.env.scope.names.lookup x = some .local) (fy : X.fn y = true ∨ X.env.scope.names.lookup y = some .local) (ha : PA X [a, b] ta)
    (hw : swappedStores [.Tuple [.Name x px, .Name y py] kt pt] (.Tuple [a, b] k2 pt2) X.env = pure none)
    (hs : swapsWithSole [.Tuple [.Name x px, .Name y py] kt pt] (.Tuple [a, b] k2 pt2) pos.line X.env = pure false := by rfl) :
    L2.PS X (.Assign [.Tuple [.Name x px, .Name y py] kt pt] (.Tuple [a, b] k2 pt2) pos) (tPar i j ta) := by
  refine ⟨fun pins s σ H D I h => ?_⟩
  refine wpAny_Assign_stores (Tuple_ (thn (ha.run _ pins s σ H _ I h) fun us s1 ⟨vs, H1, I1, r1, q1⟩ => ?_)) hs hw
  obtain ⟨v1, v2, e1, q1⟩ := q1
  subst e1
  obtain ⟨u1, u2, rfl, r1', r2'⟩ : ∃ u1 u2, us = [u1, u2] ∧ RelV v1 u1 ∧ RelV v2 u2 := by
    cases r1 with
    | cons p q =>
      cases q with
      | cons p' q' =>
        cases q'
        exact ⟨_, _, rfl, p, p'⟩
  refine wpAny_newObj_type ?_ (by show 2 ≤ sizeLine; decide)
  have I2 : Inv X pins σ H1 { s1 with heap := s1.heap.push { cls := .type "tuple", data := .seq [u1, u2].toArray } } := I1.kept (t' := s1.toks) fun b o e => Heap.get?_push_of_some _ e
  show wpAny (model X.prog X.w) X.A (assign (.Tuple [.Name x px, .Name y py] kt pt) X.env (.ref s1.heap.objs.size)) _ _ _
  refine assign_Tuple_tuple (items := #[u1, u2]) (I.ok.hd hc) (IsTup.new s1.heap _) (by rfl) (by rfl) fun h' hx' => ?_
  have I3 := I2.kept (h' := h') (t' := s1.toks) fun b o e => hx' b o (Nat.ne_of_lt (Heap.lt_size e)) e
  show wpAny _ _ (assignInOrder [assign (.Name x px) X.env, assign (.Name y py) X.env] [u1, u2]) _ _ _
  refine assignInOrder_cons (wpAny_assign_Name (store_ok I3 hN hi hx r1' (fun s2 I4 => ?_) fx))
  refine assignInOrder_cons (wpAny_assign_Name (store_ok I4 hN hj hy r2' (fun s3 I5 => assignInOrder_nil ?_) fy))
  exact ⟨_, H1, I5, q1⟩
end
variable [HasT]
section
variable {X : Cx} {XE : XK} {k : Nat}
theorem pst_parc {i j : Nat} {x y : Str} {a b : Expr} {px py pt pos : Pos} {kt k2 pt2} {wa wb : WE} (hc : X.calm = true) (hN : X.N.Nodup) (ha : PdE X XE a wa) (hb : PdE X XE b wb)
    (hw : swappedStores [.Tuple [.Name x px, .Name y py] kt pt] (.Tuple [a, b] k2 pt2) X.env = pure none)
    (hi : X.N[i]? = some x := by rfl) (hj : X.N[j]? = some y := by rfl) (hij : i ≠ j := by decide)
    (hx : Loc X.env.scope x := by first | exact Or.inl rfl | exact Or.inr rfl) (hy : Loc X.env.scope y := by first | exact Or.inl rfl | exact Or.inr rfl) (fx : X.fn x = true ∨ X.env.scope.names.lookup x = some .local := by first | exact .inl rfl | exact .inr rfl | assumption) (fy : X.fn y = true ∨ X.env.scope.names.lookup y = some .local := by first | exact .inl rfl | exact .inr rfl | assumption)
    (hs : swapsWithSole [.Tuple [.Name x px, .Name y py] kt pt] (.Tuple [a, b] k2 pt2) pos.line X.env = pure false := by rfl)
    (hs0 : starEach [a, b] X.env = (false, eval a X.env) :: starEach [b] X.env := by rfl) (hs1 : starEach [b] X.env = (false, eval b X.env) :: starEach [] X.env := by rfl) :
    PdS X XE (.Assign [.Tuple [.Name x px, .Name y py] kt pt] (.Tuple [a, b] k2 pt2) pos) (wPar i j wa wb) := by
  obtain ⟨ta, pa, sa⟩ := ha
  obtain ⟨tb, pb, sb⟩ := hb
  refine ⟨_, ps_parc hc hN hi hj hij hx hy fx fy (pa_cons pa (pa_cons pb pa_nil hs1) hs0) hw hs, fun c Dp D ok h P => ?_⟩
  refine sa c _ _ _ ok h (P.2.2.2.2.ex X.K X.mg) fun v1 c1 r1 g1 e1 rr1 h1 => ?_
  show tb c.σ c1.H _
  rw [← e1]
  refine sb c1 _ _ _ g1.ok h1 ((P.2.2.2.2.go X.K X.mg g1).ex X.K X.mg) fun v2 c2 r2 g2 e2 rr2 h2 => ?_
  refine ⟨v1, v2, rfl, ?_⟩
  have g := g1.trans X.K X.mg g2
  obtain ⟨en1, f1, h2, o1, n1, m1⟩ := ent_ok rr1 h2
  obtain ⟨en2, f2, ⟨q1, q2, h2⟩, o2, n2, m2⟩ := ent_ok rr2 h2
  obtain ⟨o1', m1'⟩ := ent_keep o1 m1 g2
  have d12 : ∀ b ∈ f2, b ∉ f1 := fun b h2 h1 => (m1 b h1).2.1 (m2 b h2).2.2.1
  have out : ∀ {fp : Nat → List Addr} {i' : Nat} {ft : List Addr} {b : Addr} (hb : b ∉ ft) (ho : ∀ n, b ∉ fp n) (n : Nat), b ∉ fpSet fp i' ft n := fun hb ho n z => by
    unfold fpSet at z
    split at z
    · exact hb z
    · exact ho _ z
  have s1 := set_slotE g q1 n1 o1' m1'
  have s2 := set_slotE (i := j) (e := en2) (v := v2) (ft := f2) s1 (freeE_set q2 n1) n2 o2 fun b hb => ⟨(m2 b hb).1, (m2 b hb).2.1, new_go g1 (m2 b hb).2.2.1, out (d12 b hb) (m2 b hb).2.2.2⟩
  have := P.1 _ s2 h2
  rw [← e2]
  exact this
end
end PL
namespace PL
open PySem PySem.Spec PyProof.Rows L2
variable [HasT]
def fs__law_begin : FS := fun args Q _ => ∃ ns : List Int, args = vals [.kst (ns.map .int)] ∧ ns.length ≤ 63 ∧ Q (.tmp .draw) args
def fs__law_take : FS := fun args Q _ => ∃ n : Int, args = [.own true .draw, .val (.int n)] ∧ 0 < n ∧ n < 1180591620717411303424 ∧ ∀ m : Int, 0 ≤ m → m < n → Q (.val (.int m)) args
def fs__law_pick : FS := fun args Q _ => ∃ (xs : List D), args = [.own true .draw, .val (.lst xs)] ∧ xs ≠ [] ∧ xs.length < 1073741824 ∧ ∀ x ∈ xs, Q (.val x) args
/-- the marks of addresses and of ports, and single ones -/
structure Home where
  marks : List Int
  alone : List Int
  ports : List Int
  lone : List Int
def homeMenu1 : List (List Int × List Int) := [([0, 10, 11, 200], [10]), ([0, 1, 2, 3], [0, 1, 2]), ([0, 100, 254, 255], [254, 255]), ([0, 128], [])]
def homeMenu2 : List (List Int × List Int) := [([0, 5, 6], [5]), ([0, 1, 255], [0, 255]), ([0], [])]
def Home.ok (h : Home) : Prop := (h.marks, h.alone) ∈ homeMenu1 ∧ (h.ports, h.lone) ∈ homeMenu2
end PL
namespace PL.K4
open PySem PySem.Spec PyProof.Rows L2 PL
variable [HasT]
def AT (k : Str) : Prop := k = "ask" ∨ k = "tell"
def CellsOk (bs : List Bk) : Prop := ∀ b ∈ bs, bOk b ∧ AT b.k
/-- what stands behind k in an ascending row, 256 behind the last -/
def nxt : List Int → Int → Int
  | x :: y :: t, k => if x = k then y else nxt (y :: t) k
  | _, _ => 256
/-- the last number of an ascending row that is not greater -/
def flo : List Int → Int → Int
  | x :: y :: t, n => if y ≤ n then flo (y :: t) n else x
  | x :: [], _ => x
  | [], n => n
/-- a row of cuts: ascending, from 0, up to 255 -/
structure Row (X : List Int) : Prop where
  asc : X.Pairwise (· < ·)
  zero : 0 ∈ X
  num : ∀ k ∈ X, numOk k
  len : X.length ≤ 9
/-- the ends of the ranges lie on the row -/
def OnRow (X : List Int) (r : Rg) : Prop := r.1 ∈ X ∧ (r.2 < 255 → r.2 + 1 ∈ X)
structure Rows where
  x0 : List Int
  x1 : List Int
  x2 : List Int
  x3 : List Int
def Rows.ok (X : Rows) : Prop := Row X.x0 ∧ Row X.x1 ∧ Row X.x2 ∧ Row X.x3
def Rows.on (X : Rows) (b : Bk) : Prop := ∀ r0 r1 r2 r3, b.rs = [r0, r1, r2, r3] → OnRow X.x0 r0 ∧ OnRow X.x1 r1 ∧ OnRow X.x2 r2 ∧ OnRow X.x3 r3
def rowD (X : List Int) : D := .dic (X.map .inl) ((X.tail ++ [256]).map .int)
def Rows.ds (X : Rows) : List D := [rowD X.x0, rowD X.x1, rowD X.x2, rowD X.x3]
def cards (ks : List Str) (X : Rows) : List Pk := ks.flatMap fun k => X.x0.flatMap fun a => X.x1.flatMap fun b => X.x2.flatMap fun c => X.x3.map fun d => ⟨k, a, b, c, d⟩
/-- the corner of the cell that a packet lies in -/
def corner (X : Rows) (p : Pk) : Pk := ⟨p.k, flo X.x0 p.a, flo X.x1 p.b, flo X.x2 p.c, flo X.x3 p.d⟩
/-- the cell of a corner -/
def cellB (X : Rows) (c : Pk) : Bk := ⟨c.k, [(c.a, nxt X.x0 c.a - 1), (c.b, nxt X.x1 c.b - 1), (c.c, nxt X.x2 c.c - 1), (c.d, nxt X.x3 c.d - 1)]⟩
structure KsOk (ks : List Str) : Prop where
  nd : ks.Nodup
  at_ : ∀ k ∈ ks, AT k
def pkN (p : Pk) : NestedKey := .tup [.text p.k, .tup [.num p.a, .num p.b], .tup [.num p.c, .num p.d]]
/-- the dict that tells of each of these cards what f says -/
def Tells (ks : List NestedKey) (ds : List D) (cs : List Pk) (f : Pk → Bool) : Prop := ks.length = ds.length ∧ ∀ c ∈ cs, lookN ks ds (pkN c) = some (.bl (f c))
def fs__law_in : FS := fun args Q _ => ∃ (b : Bk) (p : Pk), args = vals [bD b, pkD p] ∧ bWell b ∧ sOk p.k ∧ Q (.val (.bl (hasP b p))) args
def fs__law_any_range : FS := fun args Q _ => args = [.own true .draw] ∧ ∀ r : Rg, rgOk r → Q (.val (rgD r)) args
def fs__law_any_cells : FS := fun args Q _ => args = [.own true .draw] ∧ ∀ bs : List Bk, CellsOk bs → bs.length ≤ 8 → Q (.tmp (.lst (bs.map bD))) args
def fs__law_cuts : FS := fun args Q _ => ∃ (bs : List Bk) (i : Nat), args = vals [.lst (bs.map bD), .int (i + 1)] ∧ CellsOk bs ∧ bs.length ≤ 4 ∧ i < 4 ∧ ∀ X, Row X → (∀ b ∈ bs, ∀ r, b.rs[i]? = some r → OnRow X r) → Q (.tmp (.lst (X.map .int))) args
def fs__law_corners : FS := fun args Q _ => ∃ (bs : List Bk), args = vals [.lst (bs.map bD)] ∧ CellsOk bs ∧ bs.length ≤ 4 ∧ ∀ (ks : List Str) (X : Rows), KsOk ks → (∀ b ∈ bs, b.k ∈ ks) → X.ok → (∀ b ∈ bs, X.on b) → Q (.val (.tup [.lst ((cards ks X).map pkD), .lst X.ds])) args
def fs__law_volume : FS := fun args Q _ => ∃ (ks : List Str) (X : Rows) (c : Pk), args = vals [.lst X.ds, pkD c] ∧ X.ok ∧ c ∈ cards ks X ∧ Q (.val (.int (volF (cellB X c)))) args
def fs__law_block_size : FS := fun args Q _ => ∃ (b : Bk), args = vals [bD b] ∧ bOk b ∧ Q (.val (.int (volF b))) args
def fs_Packets_least : FS := fun args Q _ => ∃ (G : Grid) (a : List Bk), args = vals [setD a] ∧ Grid.ok G ∧ PS G a ∧ (a = [] → Q (.val .non) args) ∧ ∀ p, memB a p → (∀ q, memB a q → ltPk q p = false) → Q (.val (pkD p)) args
def fs__law_set_right : FS := fun args Q _ => ∃ (G : Grid) (a : List Bk) (ks : List Str) (X : Rows) (f : Pk → Bool) (ns : List NestedKey) (ds : List D), args = vals [setD a, .lst ((cards ks X).map pkD), .lst X.ds, .dix HasT.W ns ds] ∧ Grid.ok G ∧ ksAT G ∧ PS G a ∧ KsOk ks ∧ ks.length ≤ 2 ∧ X.ok ∧
  Tells ns ds (cards ks X) f ∧ (∀ p ∈ univ, memB a p ↔ p.k ∈ ks ∧ f (corner X p) = true) ∧ Q (.val (.bl true)) args
def fs_law : FS := fun args Q _ => ∃ ns : List Int, args = vals [.kst (ns.map .int)] ∧ ns.length ≤ 63 ∧ Q (.val (.bl true)) args
def w__law_pick : WS :=
  wRet (wOp2 gIx (wVar 1) (wCallF fs__law_take [] (wVc (wVar 0) (wVk (wCall gLen (wVc (wVar 1) (wVn))) (wVn)))))
def w__law_in : WS :=
  wSeq (wSet 2 (wLst (wKc (wOp2 gIx (wOp2 gIx (wVar 1) (wC (.int 1))) (wC (.int 0))) (wKc (wOp2 gIx (wOp2 gIx (wVar 1) (wC (.int 1))) (wC (.int 1))) (wKc (wOp2 gIx (wOp2 gIx (wVar 1) (wC (.int 2))) (wC (.int 0))) (wKc (wOp2 gIx (wOp2 gIx (wVar 1) (wC (.int 2))) (wC (.int 1))) (wKn)))))))
    (wSeq (wIf (wAndT (wB (wOp2 (gIs not) (wOp2 gIx (wVar 0) (wC (.int 0))) (wC .non))) (wB (wOp2 (gEq not) (wOp2 gIx (wVar 0) (wC (.int 0))) (wOp2 gIx (wVar 1) (wC (.int 0)))))) (wRet (wC (.bl false))) (wNext))
    (wRet (wOp2 (gEq id) (wLc (wZipM (wSl (wVar 0) (wSome (wC (.int 1))) (wNone)) (wVar 2)) (wUnp 2 (wGc (wUnp 2 (wGc (wName 3) (wGc (wName 4) (wGn)))) (wGc (wName 5) (wGn)))) (wNotT (wB (wChain gLe gLe (wVar 3) (wVar 5) (wVar 4)))) (wC (.int 1)) [3, 4, 5]) (wLst (wKn)))))
def w__law_any_range : WS :=
  wSeq (wSet 1 (wCallF fs__law_pick [] (wVc (wVar 0) (wVk (wLst (wKc (wC (.int 0)) (wKc (wC (.int 255)) (wKc (wCallF fs__law_take [] (wVc (wVar 0) (wVk (wC (.int 256)) (wVn)))) (wKc (wCallF fs__law_take [] (wVc (wVar 0) (wVk (wC (.int 256)) (wVn)))) (wKn)))))) (wVn)))))
    (wRet (wTup (wKc (wVar 1) (wKc (wCall gMin2 (wVc (wC (.int 255)) (wVc (wOp2 gAdd (wVar 1) (wCallF fs__law_pick [] (wVc (wVar 0) (wVk (wLst (wKc (wC (.int 0)) (wKc (wC (.int 1)) (wKc (wC (.int 255)) (wKc (wCallF fs__law_take [] (wVc (wVar 0) (wVk (wC (.int 256)) (wVn)))) (wKn)))))) (wVn))))) (wVn)))) (wKn)))))
def w__law_cuts : WS :=
  wSeq (wSet 2 (wLc (wSrc (wVar 0)) (wName 3) (wB (wOp2 (gI fun i j => .bl (decide (i < j))) (wOp2 gIx (wOp2 gIx (wVar 3) (wVar 1)) (wC (.int 1))) (wC (.int 255)))) (wOp2 gAdd (wOp2 gIx (wOp2 gIx (wVar 3) (wVar 1)) (wC (.int 1))) (wC (.int 1))) [3]))
    (wRet (wCall gSortSet (wVc (wOp2 gAdd (wOp2 gAdd (wLst (wKc (wC (.int 0)) (wKn))) (wLc (wSrc (wVar 0)) (wName 3) (wYes) (wOp2 gIx (wOp2 gIx (wVar 3) (wVar 1)) (wC (.int 0))) [3])) (wVar 2)) (wVn))))
def w__law_volume : WS :=
  wSeq (wSet 2 (wLst (wKc (wOp2 gIx (wOp2 gIx (wVar 1) (wC (.int 1))) (wC (.int 0))) (wKc (wOp2 gIx (wOp2 gIx (wVar 1) (wC (.int 1))) (wC (.int 1))) (wKc (wOp2 gIx (wOp2 gIx (wVar 1) (wC (.int 2))) (wC (.int 0))) (wKc (wOp2 gIx (wOp2 gIx (wVar 1) (wC (.int 2))) (wC (.int 1))) (wKn)))))))
    (wSeq (wSet 3 (wC (.int 1)))
    (wSeq (wFor (wZip (wVar 0) (wVar 2)) (wUnp 2 (wGc (wName 4) (wGc (wName 5) (wGn)))) (wSet 3 (wOp2 gMul (wVar 3) (wOp2 (gI fun i j => .int (i - j)) (wOp2 gDGet (wVar 4) (wVar 5)) (wVar 5)))))
    (wRet (wVar 3))))
def w__law_block_size : WS :=
  wSeq (wSet 1 (wC (.int 1)))
    (wSeq (wFor (wSrc (wSl (wVar 0) (wSome (wC (.int 1))) (wNone))) (wUnp 2 (wGc (wName 2) (wGc (wName 3) (wGn)))) (wSet 1 (wOp2 gMul (wVar 1) (wOp2 gAdd (wOp2 (gI fun i j => .int (i - j)) (wVar 3) (wVar 2)) (wC (.int 1))))))
    (wRet (wVar 1)))
def wAc2 : WS := wIf (wB (wOp2 (gEq id) (wCallF fs__law_take [] (wVc (wVar 0) (wVk (wC (.int 3)) (wVn)))) (wC (.int 0)))) (wSeq (wPar 4 5 (wOp2 gAdd (wC (.int 1)) (wCallF fs__law_take [] (wVc (wVar 0) (wVk (wC (.int 4)) (wVn))))) (wOp2 gIx (wVar 1) (wOp1 gNeg (wC (.int 1)))))
    (wSeq (wSet 6 (wCall gMin2 (wVc (wC (.int 255)) (wVc (wOp2 gAdd (wOp2 gIx (wOp2 gIx (wVar 5) (wVar 4)) (wC (.int 1))) (wC (.int 1))) (wVn)))))
    (wExpr (wAppend 1 (wOp2 gAdd (wOp2 gAdd (wSl (wVar 5) (wNone) (wSome (wVar 4))) (wTup (wKc (wTup (wKc (wVar 6) (wKc (wCall gMin2 (wVc (wC (.int 255)) (wVc (wOp2 gAdd (wVar 6) (wCallF fs__law_take [] (wVc (wVar 0) (wVk (wC (.int 9)) (wVn))))) (wVn)))) (wKn)))) (wKn)))) (wSl (wVar 5) (wSome (wOp2 gAdd (wVar 4) (wC (.int 1)))) (wNone))))))) (wNext)
def wAc1 : WS := wSeq (wExpr (wAppend 1 (wOp2 gAdd (wTup (wKc (wVar 3) (wKn))) (wCall gTuple (wVc (wLc (wRng1 (wC (.int 4))) (wName 7) (wYes) (wCallF fs__law_any_range [] (wVc (wVar 0) (wVn))) [7]) (wVn))))))
    wAc2
def wAc0 : WS := wSeq (wSet 3 (wCallF fs__law_pick [] (wVc (wVar 0) (wVk (wLst (wKc (wC (.str "ask")) (wKc (wC (.str "ask")) (wKc (wC (.str "ask")) (wKc (wC (.str "tell")) (wKn)))))) (wVn)))))
    wAc1
def wAy2 : WS := wRet (wVar 1)
def wAy1 : WS := wSeq (wFor (wRng1 (wCallF fs__law_take [] (wVc (wVar 0) (wVk (wC (.int 5)) (wVn))))) (wName 2) wAc0)
    wAy2
def w__law_any_cells : WS := wSeq (wSet 1 (wLst (wKn)))
    wAy1
def wCd0 : WS := wExpr (wExtend 1 (wLc (wSrc (wOp2 gIx (wVar 2) (wC (.int 3)))) (wName 9) (wYes) (wTup (wKc (wVar 4) (wKc (wTup (wKc (wVar 5) (wKc (wVar 6) (wKn)))) (wKc (wTup (wKc (wVar 7) (wKc (wVar 9) (wKn)))) (wKn))))) [9]))
def wCc0 : WS := wFor (wSrc (wOp2 gIx (wVar 2) (wC (.int 2)))) (wName 7) wCd0
def wCb0 : WS := wFor (wSrc (wOp2 gIx (wVar 2) (wC (.int 1)))) (wName 6) wCc0
def wCa0 : WS := wFor (wSrc (wOp2 gIx (wVar 2) (wC (.int 0)))) (wName 5) wCb0
def wCo2 : WS := wRet (wTup (wKc (wVar 1) (wKc (wLc (wSrc (wVar 2)) (wName 10) (wYes) (wCall gDict (wVc (wCall gLstZip (wVc (wVar 10) (wVc (wOp2 gAdd (wSl (wVar 10) (wSome (wC (.int 1))) (wNone)) (wLst (wKc (wC (.int 256)) (wKn)))) (wVn)))) (wVn))) [10]) (wKn))))
def wCo1 : WS := wSeq (wFor (wSrc (wCall gSortSet (wVc (wLc (wSrc (wVar 0)) (wName 8) (wYes) (wOp2 gIx (wVar 8) (wC (.int 0))) [8]) (wVn)))) (wName 4) wCa0)
    wCo2
def w__law_corners : WS := wSeq (wPar 1 2 (wLst (wKn)) (wLc (wRng2 (wC (.int 1)) (wC (.int 5))) (wName 3) (wYes) (wCallF fs__law_cuts [] (wVk (wVar 0) (wVk (wVar 3) (wVn)))) [3]))
    wCo1
def wSr4 : WS := wRet (wOp2 (gEq id) (wLc (wSrc (wVar 1)) (wName 4) (wB (wOp2 (gEq not) (wOwnIn "Packets" id fs_Packets_contains (wVar 4) (wVar 0)) (wOp2 gXGet (wVar 3) (wVar 4)))) (wVar 4) [4]) (wLst (wKn)))
def wSr3 : WS := wSeq (wIf (wB (wOp2 (gEq not) (wLst (wKc (wMeth "Packets" "least" fs_Packets_least [] (wVar 0) wVn) (wKn))) (wOrL (wVar 6) (wLst (wKc (wC .non) (wKn)))))) (wRet (wC (.bl false))) (wNext))
    wSr4
def wSr2 : WS := wSeq (wSet 6 (wSl (wCall gSort (wVc (wLc (wSrc (wVar 1)) (wName 4) (wB (wOp2 gXGet (wVar 3) (wVar 4))) (wVar 4) [4]) (wVn))) (wNone) (wSome (wC (.int 1)))))
    wSr3
def wSr1 : WS := wSeq (wIf (wB (wOp2 (gEq not) (wCall gSum (wVc (wLc (wSrc (wMeth "Packets" "blocks" fs_Packets_blocks [] (wVar 0) wVn)) (wName 5) (wYes) (wCallF fs__law_block_size [] (wVk (wVar 5) (wVn))) [5]) (wVn))) (wMeth "Packets" "size" fs_Packets_size [] (wVar 0) wVn))) (wRet (wC (.bl false))) (wNext))
    wSr2
def w__law_set_right : WS := wSeq (wIf (wB (wOp2 (gEq not) (wMeth "Packets" "size" fs_Packets_size [] (wVar 0) wVn) (wCall gSum (wVc (wLc (wSrc (wVar 1)) (wName 4) (wB (wOp2 gXGet (wVar 3) (wVar 4))) (wCallF fs__law_volume [] (wVk (wVar 2) (wVk (wVar 4) (wVn)))) [4]) (wVn))))) (wRet (wC (.bl false))) (wNext))
    wSr1
def wLi1 : WS := wPutX 10 (wVar 11) (wOp2 (gEq not) (wLc (wSrc (wVar 4)) (wName 13) (wB (wCallF fs__law_in [] (wVk (wVar 13) (wVk (wVar 11) (wVn))))) (wVar 13) [13]) (wLst (wKn)))
def wLi0 : WS := wSeq (wPutX 9 (wVar 11) (wOp2 (gEq not) (wLc (wSrc (wVar 3)) (wName 13) (wB (wCallF fs__law_in [] (wVk (wVar 13) (wVk (wVar 11) (wVn))))) (wVar 13) [13]) (wLst (wKn))))
    wLi1
def wLw9 : WS := wIf (wOrT (wNotT (wB (wCallF fs__law_set_right [] (wVk (wVar 6) (wVk (wVar 7) (wVk (wVar 8) (wVk (wVar 10) (wVn)))))))) (wB (wOp2 (gEq not) (wMeth "Packets" "size" fs_Packets_size [] (wMeth "Packets" "turned" fs_Packets_turned [] (wVar 5) wVn) wVn) (wMeth "Packets" "size" fs_Packets_size [] (wVar 5) wVn)))) (wRet (wC (.bl false))) (wNext)
def wLw8 : WS := wSeq (wIf (wNotT (wB (wCallF fs__law_set_right [] (wVk (wOwn "Packets" fs_Packets_sub (wVar 5) (wVar 6)) (wVk (wVar 7) (wVk (wVar 8) (wVk (wVar 12) (wVn)))))))) (wRet (wC (.bl false))) (wNext))
    wLw9
def wLw7 : WS := wSeq (wSet 12 (wCall gDictX (wVc (wLc (wSrc (wVar 7)) (wName 11) (wYes) (wTup (wKc (wVar 11) (wKc (wAnd (wOp2 gXGet (wVar 9) (wVar 11)) (wNot (wOp2 gXGet (wVar 10) (wVar 11)))) (wKn)))) [11]) (wVn))))
    wLw8
def wLw6 : WS := wSeq (wIf (wNotT (wB (wCallF fs__law_set_right [] (wVk (wOwn "Packets" fs_Packets_and (wVar 5) (wVar 6)) (wVk (wVar 7) (wVk (wVar 8) (wVk (wCall gDictX (wVc (wLc (wSrc (wVar 7)) (wName 11) (wYes) (wTup (wKc (wVar 11) (wKc (wAnd (wOp2 gXGet (wVar 9) (wVar 11)) (wOp2 gXGet (wVar 10) (wVar 11))) (wKn)))) [11]) (wVn))) (wVn)))))))) (wRet (wC (.bl false))) (wNext))
    wLw7
def wLw5 : WS := wSeq (wIf (wNotT (wB (wCallF fs__law_set_right [] (wVk (wOwn "Packets" fs_Packets_or (wVar 5) (wVar 6)) (wVk (wVar 7) (wVk (wVar 8) (wVk (wCall gDictX (wVc (wLc (wSrc (wVar 7)) (wName 11) (wYes) (wTup (wKc (wVar 11) (wKc (wOr (wOp2 gXGet (wVar 9) (wVar 11)) (wOp2 gXGet (wVar 10) (wVar 11))) (wKn)))) [11]) (wVn))) (wVn)))))))) (wRet (wC (.bl false))) (wNext))
    wLw6
def wLw4 : WS := wSeq (wFor (wSrc (wVar 7)) (wName 11) wLi0)
    wLw5
def wLw3 : WS := wSeq (wPar 9 10 (wDix0) (wDix0))
    wLw4
def wLw2 : WS := wSeq (wAsg (wCallF fs__law_corners [] (wVk (wOp2 gAdd (wVar 3) (wVar 4)) (wVn))) (wUnp 2 (wGc (wName 7) (wGc (wName 8) (wGn)))))
    wLw3
def wLw1 : WS := wSeq (wPar 5 6 (wMake "Packets" fs_Packets_init [] (wVk (wVar 3) (wVn))) (wMake "Packets" fs_Packets_init [] (wVk (wVar 4) (wVn))))
    wLw2
def wLw0 : WS := wSeq (wPar 3 4 (wSl (wCallF fs__law_any_cells [] (wVc (wVar 1) (wVn))) (wNone) (wSome (wC (.int 2)))) (wSl (wCallF fs__law_any_cells [] (wVc (wVar 1) (wVn))) (wNone) (wSome (wC (.int 2)))))
    wLw1
def wLv2 : WS := wRet (wC (.bl true))
def wLv1 : WS := wSeq (wFor (wRng1 (wOp2 gAdd (wC (.int 1)) (wCall gMin2 (wVc (wCall gLen (wVc (wVar 0) (wVn))) (wVc (wC (.int 1)) (wVn)))))) (wName 2) wLw0)
    wLv2
def w_law : WS := wSeq (wSet 1 (wCallF fs__law_begin [] (wVk (wVar 0) (wVn))))
    wLv1
end PL.K4
namespace PL.K4
open PySem PySem.Spec PyProof.Rows L2 PL
variable [HasT]
theorem flo_mem : ∀ {X : List Int} {n : Int}, X ≠ [] → flo X n ∈ X
  | [], _, h => absurd rfl h
  | [x], n, _ => by simp [flo]
  | x :: y :: t, n, _ => by
    unfold flo
    split
    · exact List.mem_cons_of_mem _ (flo_mem (by simp))
    · simp
theorem flo_le : ∀ {X : List Int} {n : Int}, X.Pairwise (· < ·) → (∃ x ∈ X, x ≤ n) → flo X n ≤ n ∧ ∀ x ∈ X, x ≤ n → x ≤ flo X n
  | [], _, _, ⟨_, h, _⟩ => by cases h
  | [x], n, _, ⟨y, h, hy⟩ => by
    rw [List.mem_singleton.mp h] at hy
    refine ⟨hy, fun z hz _ => ?_⟩
    rw [List.mem_singleton.mp hz]; exact Int.le_refl _
  | x :: y :: t, n, asc, ⟨w, hw, hwn⟩ => by
    obtain ⟨a1, a2⟩ := List.pairwise_cons.mp asc
    unfold flo
    by_cases h : y ≤ n
    · rw [if_pos h]
      obtain ⟨b1, b2⟩ := flo_le (X := y :: t) a2 ⟨y, by simp, h⟩
      refine ⟨b1, fun z hz hzn => ?_⟩
      rcases List.mem_cons.mp hz with rfl | hz
      · have := a1 y (by simp)
        have := b2 y (by simp) h
        omega
      · exact b2 z hz hzn
    · rw [if_neg h]
      have hx : x ≤ n := by
        rcases List.mem_cons.mp hw with rfl | hw
        · exact hwn
        · have := a1 w hw; omega
      refine ⟨hx, fun z hz hzn => ?_⟩
      rcases List.mem_cons.mp hz with rfl | hz
      · exact Int.le_refl _
      · exfalso
        rcases List.mem_cons.mp hz with rfl | hz
        · exact h hzn
        · have := (List.pairwise_cons.mp a2).1 z hz; omega
theorem nxt_spec : ∀ {X : List Int} {k : Int}, X.Pairwise (· < ·) → (∀ x ∈ X, x ≤ 255) → k ∈ X → k < nxt X k ∧ nxt X k ≤ 256 ∧ (∀ x ∈ X, k < x → nxt X k ≤ x) ∧ (nxt X k ∈ X ∨ nxt X k = 256)
  | [], _, _, _, h => by cases h
  | [x], k, _, hn, h => by
    rw [List.mem_singleton.mp h]
    have := hn x (by simp)
    refine ⟨by simp only [nxt]; omega, by simp [nxt], fun y hy hxy => ?_, .inr rfl⟩
    rw [List.mem_singleton.mp hy] at hxy; omega
  | x :: y :: t, k, asc, hn, h => by
    obtain ⟨a1, a2⟩ := List.pairwise_cons.mp asc
    unfold nxt
    by_cases e : x = k
    · rw [if_pos e]
      subst e
      have hy := hn y (by simp)
      refine ⟨a1 y (by simp), by omega, fun z hz hxz => ?_, .inl (by simp)⟩
      rcases List.mem_cons.mp hz with rfl | hz
      · omega
      · rcases List.mem_cons.mp hz with rfl | hz
        · exact Int.le_refl _
        · have := (List.pairwise_cons.mp a2).1 z hz; omega
    · rw [if_neg e]
      have hk : k ∈ y :: t := by
        rcases List.mem_cons.mp h with rfl | h
        · exact absurd rfl e
        · exact h
      obtain ⟨b1, b2, b3, b4⟩ := nxt_spec (X := y :: t) a2 (fun z hz => hn z (List.mem_cons_of_mem _ hz)) hk
      refine ⟨b1, b2, fun z hz hkz => ?_, b4.imp (fun h => List.mem_cons_of_mem _ h) id⟩
      rcases List.mem_cons.mp hz with rfl | hz
      · have := a1 k hk; omega
      · exact b3 z hz hkz
section
variable {X : List Int} (h : Row X)
include h
theorem Row.ne : X ≠ [] := fun e => by have := h.zero; rw [e] at this; cases this
theorem Row.flo {n : Int} (hn : numOk n) : flo X n ∈ X ∧ PL.K4.flo X n ≤ n ∧ ∀ x ∈ X, x ≤ n → x ≤ PL.K4.flo X n := by
  obtain ⟨h1, h2⟩ := flo_le h.asc ⟨0, h.zero, hn.1⟩
  exact ⟨flo_mem h.ne, h1, h2⟩
theorem Row.nxt {k : Int} (hk : k ∈ X) : k < nxt X k ∧ PL.K4.nxt X k ≤ 256 ∧ (∀ x ∈ X, k < x → PL.K4.nxt X k ≤ x) ∧ (PL.K4.nxt X k ∈ X ∨ PL.K4.nxt X k = 256) := nxt_spec h.asc (fun x hx => (h.num x hx).2) hk
theorem Row.cell {k n : Int} (hk : k ∈ X) (hn : numOk n) : (k ≤ n ∧ n ≤ PL.K4.nxt X k - 1) ↔ PL.K4.flo X n = k := by
  obtain ⟨f1, f2, f3⟩ := h.flo hn
  obtain ⟨a1, a2, a3, a4⟩ := h.nxt hk
  constructor
  · rintro ⟨g1, g2⟩
    have := f3 k hk g1
    by_cases e : k < PL.K4.flo X n
    · have := a3 _ f1 e; omega
    · omega
  · intro e
    have hn2 := hn.2
    refine ⟨by omega, ?_⟩
    by_cases g : PL.K4.nxt X k ≤ n
    · exfalso
      rcases a4 with a4 | a4
      · have := f3 _ a4 g; omega
      · omega
    · omega
theorem Row.self {k : Int} (hk : k ∈ X) : PL.K4.flo X k = k := by
  have := (h.nxt hk).1
  exact (h.cell hk (h.num k hk)).mp ⟨Int.le_refl _, by omega⟩
theorem Row.on {r : Rg} (ho : OnRow X r) (hr : rgOk r) {n : Int} (hn : numOk n) : (r.1 ≤ n ∧ n ≤ r.2) ↔ (r.1 ≤ PL.K4.flo X n ∧ PL.K4.flo X n ≤ r.2) := by
  obtain ⟨f1, f2, f3⟩ := h.flo hn
  have hn2 := hn.2
  have hr2 := hr.2.2
  constructor
  · rintro ⟨g1, g2⟩
    have := f3 _ ho.1 g1
    omega
  · rintro ⟨g1, g2⟩
    refine ⟨by omega, ?_⟩
    by_cases e : r.2 < 255
    · by_cases g : r.2 + 1 ≤ n
      · have := f3 _ (ho.2 e) g; omega
      · omega
    · omega
end
theorem nums_iff {n : Int} : n ∈ nums ↔ numOk n := by
  unfold nums numOk
  rw [List.mem_map]
  constructor
  · rintro ⟨i, hi, rfl⟩
    have := List.mem_range.mp hi
    omega
  · rintro ⟨h0, h1⟩
    exact ⟨n.toNat, List.mem_range.mpr (by omega), by omega⟩
theorem univ_iff {p : Pk} : p ∈ univ ↔ AT p.k ∧ numOk p.a ∧ numOk p.b ∧ numOk p.c ∧ numOk p.d := by
  unfold univ
  rw [mem_cube, nums_iff, nums_iff, nums_iff, nums_iff]
  simp [AT]
theorem cards_iff {ks : List Str} {X : Rows} {c : Pk} : c ∈ cards ks X ↔ c.k ∈ ks ∧ c.a ∈ X.x0 ∧ c.b ∈ X.x1 ∧ c.c ∈ X.x2 ∧ c.d ∈ X.x3 := by
  unfold cards
  simp only [List.mem_flatMap, List.mem_map]
  constructor
  · rintro ⟨k, hk, a, ha, b, hb, e, he, d, hd, rfl⟩
    exact ⟨hk, ha, hb, he, hd⟩
  · rintro ⟨hk, ha, hb, he, hd⟩
    exact ⟨_, hk, _, ha, _, hb, _, he, _, hd, rfl⟩
theorem inR4 {r0 r1 r2 r3 : Rg} {a b c d : Int} : inR [r0, r1, r2, r3] [a, b, c, d] = true ↔ (r0.1 ≤ a ∧ a ≤ r0.2) ∧ (r1.1 ≤ b ∧ b ≤ r1.2) ∧ (r2.1 ≤ c ∧ c ≤ r2.2) ∧ (r3.1 ≤ d ∧ d ≤ r3.2) := by
  simp [inR]
theorem asc_ne {Y : List Int} (h : Row Y) : Y.Pairwise (· ≠ ·) := h.asc.imp fun a => by omega
section
variable {ks : List Str} {X : Rows} (hk : KsOk ks) (hX : X.ok)
include hk hX
theorem cards_univ {c : Pk} (h : c ∈ cards ks X) : c ∈ univ := by
  obtain ⟨h1, h2, h3, h4, h5⟩ := cards_iff.mp h
  exact univ_iff.mpr ⟨hk.at_ _ h1, hX.1.num _ h2, hX.2.1.num _ h3, hX.2.2.1.num _ h4, hX.2.2.2.num _ h5⟩
omit hk in
theorem corner_self {c : Pk} (h : c ∈ cards ks X) : corner X c = c := by
  obtain ⟨h1, h2, h3, h4, h5⟩ := cards_iff.mp h
  unfold corner
  rw [hX.1.self h2, hX.2.1.self h3, hX.2.2.1.self h4, hX.2.2.2.self h5]
omit hk in
theorem corner_mem {p : Pk} (h : p ∈ univ) : corner X p ∈ cards ks X ↔ p.k ∈ ks := by
  obtain ⟨_, h2, h3, h4, h5⟩ := univ_iff.mp h
  rw [cards_iff]
  exact ⟨fun h => h.1, fun h => ⟨h, (hX.1.flo h2).1, (hX.2.1.flo h3).1, (hX.2.2.1.flo h4).1, (hX.2.2.2.flo h5).1⟩⟩
omit hk in
theorem corner_le {p : Pk} (h : p ∈ univ) : (corner X p).a ≤ p.a ∧ (corner X p).b ≤ p.b ∧ (corner X p).c ≤ p.c ∧ (corner X p).d ≤ p.d := by
  obtain ⟨_, h2, h3, h4, h5⟩ := univ_iff.mp h
  exact ⟨(hX.1.flo h2).2.1, (hX.2.1.flo h3).2.1, (hX.2.2.1.flo h4).2.1, (hX.2.2.2.flo h5).2.1⟩
omit hk in
theorem has_corner {b : Bk} (ho : X.on b) (hb : bOk b) {p : Pk} (h : p ∈ univ) : hasP b p = hasP b (corner X p) := by
  obtain ⟨_, h2, h3, h4, h5⟩ := univ_iff.mp h
  obtain ⟨k, rs⟩ := b
  obtain ⟨r0, r1, r2, r3, rfl⟩ := four hb.2.1
  obtain ⟨o0, o1, o2, o3⟩ := ho r0 r1 r2 r3 rfl
  have g0 := hb.2.2 r0 (by simp)
  have g1 := hb.2.2 r1 (by simp)
  have g2 := hb.2.2 r2 (by simp)
  have g3 := hb.2.2 r3 (by simp)
  rw [Bool.eq_iff_iff]
  unfold hasP
  rw [Bool.and_eq_true, Bool.and_eq_true]
  have e1 := (inR4 (r0 := r0) (r1 := r1) (r2 := r2) (r3 := r3) (a := p.a) (b := p.b) (c := p.c) (d := p.d))
  have e2 := (inR4 (r0 := r0) (r1 := r1) (r2 := r2) (r3 := r3) (a := (corner X p).a) (b := (corner X p).b) (c := (corner X p).c) (d := (corner X p).d))
  unfold Pk.ns
  rw [e1, e2, hX.1.on o0 g0 h2, hX.2.1.on o1 g1 h3, hX.2.2.1.on o2 g2 h4, hX.2.2.2.on o3 g3 h5]
  exact Iff.rfl
omit hk in
theorem cell_has {c : Pk} (hc : c ∈ cards ks X) {p : Pk} (h : p ∈ univ) : hasP (cellB X c) p = true ↔ corner X p = c := by
  obtain ⟨c1, c2, c3, c4, c5⟩ := cards_iff.mp hc
  obtain ⟨_, h2, h3, h4, h5⟩ := univ_iff.mp h
  unfold hasP cellB Pk.ns
  rw [Bool.and_eq_true, inR4, hX.1.cell c2 h2, hX.2.1.cell c3 h3, hX.2.2.1.cell c4 h4, hX.2.2.2.cell c5 h5]
  obtain ⟨k, a, b, e, d⟩ := c
  unfold corner
  simp only [Pk.mk.injEq, decide_eq_true_eq]
  constructor
  · rintro ⟨e0, e1, e2, e3, e4⟩; exact ⟨e0.symm, e1, e2, e3, e4⟩
  · rintro ⟨e0, e1, e2, e3, e4⟩; exact ⟨e0.symm, e1, e2, e3, e4⟩
theorem cell_ok {c : Pk} (hc : c ∈ cards ks X) : bOk (cellB X c) := by
  obtain ⟨c1, c2, c3, c4, c5⟩ := cards_iff.mp hc
  refine ⟨?_, rfl, fun r hr => ?_⟩
  · rcases hk.at_ _ c1 with e | e
    · show nameOk c.k; rw [e]; exact nameOk_ask
    · show nameOk c.k; rw [e]; exact nameOk_tell
  · have aux : ∀ {Y : List Int} {k : Int}, Row Y → k ∈ Y → rgOk (k, nxt Y k - 1) := fun {Y k} hY hk' => by
      obtain ⟨a1, a2, _⟩ := hY.nxt hk'
      exact ⟨(hY.num _ hk').1, by show k ≤ nxt Y k - 1; omega, by show nxt Y k - 1 ≤ 255; omega⟩
    simp only [cellB, List.mem_cons, List.not_mem_nil, or_false] at hr
    rcases hr with rfl | rfl | rfl | rfl
    · exact aux hX.1 c2
    · exact aux hX.2.1 c3
    · exact aux hX.2.2.1 c4
    · exact aux hX.2.2.2 c5
theorem cards_nd : (cards ks X).Pairwise (· ≠ ·) := by
  unfold cards
  refine List.pairwise_flatMap.mpr ⟨fun k _ => List.pairwise_flatMap.mpr ⟨fun a _ => List.pairwise_flatMap.mpr ⟨fun b _ => List.pairwise_flatMap.mpr ⟨fun c _ => List.pairwise_map.mpr ?_, ?_⟩, ?_⟩, ?_⟩, ?_⟩
  · exact (asc_ne hX.2.2.2).imp fun h e => h (by injection e)
  · refine (asc_ne hX.2.2.1).imp fun h x hx y hy e => ?_
    obtain ⟨_, _, rfl⟩ := List.mem_map.mp hx
    obtain ⟨_, _, rfl⟩ := List.mem_map.mp hy
    exact h (by injection e)
  · refine (asc_ne hX.2.1).imp fun h x hx y hy e => ?_
    simp only [List.mem_flatMap, List.mem_map] at hx hy
    obtain ⟨_, _, _, _, rfl⟩ := hx
    obtain ⟨_, _, _, _, rfl⟩ := hy
    exact h (by injection e)
  · refine (asc_ne hX.1).imp fun h x hx y hy e => ?_
    simp only [List.mem_flatMap, List.mem_map] at hx hy
    obtain ⟨_, _, _, _, _, _, rfl⟩ := hx
    obtain ⟨_, _, _, _, _, _, rfl⟩ := hy
    exact h (by injection e)
  · refine (show ks.Pairwise (· ≠ ·) from hk.nd).imp fun h x hx y hy e => ?_
    simp only [List.mem_flatMap, List.mem_map] at hx hy
    obtain ⟨_, _, _, _, _, _, _, _, rfl⟩ := hx
    obtain ⟨_, _, _, _, _, _, _, _, rfl⟩ := hy
    exact h (by injection e)
def wide : Grid := ⟨["ask", "tell"], nums ++ [256], nums ++ [256]⟩
theorem cells_ps (f : Pk → Bool) : PS wide (((cards ks X).filter f).map (cellB X)) := by
  refine ⟨fun b hb => ?_, ?_, fun b hb => ?_⟩
  · obtain ⟨c, hc, rfl⟩ := List.mem_map.mp hb
    exact cell_ok hk hX (List.mem_filter.mp hc).1
  · rw [List.pairwise_map]
    have nd : ((cards ks X).filter f).Pairwise (· ≠ ·) := List.Pairwise.sublist List.filter_sublist (cards_nd hk hX)
    refine List.Pairwise.imp_of_mem (fun {c d} hc hd h p ⟨h1, h2⟩ => ?_) nd
    have c1 := (List.mem_filter.mp hc).1
    have d1 := (List.mem_filter.mp hd).1
    have up : p ∈ univ := by
      obtain ⟨q1, q2, q3, q4, q5⟩ := cards_iff.mp c1
      obtain ⟨b1, b2, b3⟩ := cell_ok hk hX c1
      unfold hasP cellB Pk.ns at h1
      rw [Bool.and_eq_true, inR4] at h1
      obtain ⟨e0, e1, e2, e3, e4⟩ := h1
      have e0 : c.k = p.k := of_decide_eq_true e0
      have g0 := b3 _ (show (c.a, nxt X.x0 c.a - 1) ∈ (cellB X c).rs by simp [cellB])
      have g1 := b3 _ (show (c.b, nxt X.x1 c.b - 1) ∈ (cellB X c).rs by simp [cellB])
      have g2 := b3 _ (show (c.c, nxt X.x2 c.c - 1) ∈ (cellB X c).rs by simp [cellB])
      have g3 := b3 _ (show (c.d, nxt X.x3 c.d - 1) ∈ (cellB X c).rs by simp [cellB])
      unfold rgOk at g0 g1 g2 g3
      simp only at g0 g1 g2 g3 e1 e2 e3 e4
      exact univ_iff.mpr ⟨by rw [← e0]; exact hk.at_ _ q1, ⟨by omega, by omega⟩, ⟨by omega, by omega⟩, ⟨by omega, by omega⟩, ⟨by omega, by omega⟩⟩
    exact h (((cell_has hX c1 up).mp h1).symm.trans ((cell_has hX d1 up).mp h2))
  · obtain ⟨c, hc, rfl⟩ := List.mem_map.mp hb
    have c1 := (List.mem_filter.mp hc).1
    have ok := cell_ok hk hX c1
    refine ⟨by
      have := hk.at_ _ (cards_iff.mp c1).1
      rcases this with e | e <;> simp [wide, cellB, e], fun i r hr => ?_⟩
    have hr' := ok.2.2 r (List.mem_of_getElem? hr)
    unfold rgOk at hr'
    have m1 : r.1 ∈ nums ++ [256] := List.mem_append_left _ (nums_iff.mpr ⟨by omega, by omega⟩)
    have m2 : r.2 + 1 ∈ nums ++ [256] := by
      by_cases e : r.2 = 255
      · rw [e]; simp
      · exact List.mem_append_left _ (nums_iff.mpr ⟨by omega, by omega⟩)
    by_cases e : i % 2 = 0
    · rw [if_pos e]; exact ⟨m1, m2⟩
    · rw [if_neg e]; exact ⟨m1, m2⟩
/-- a set of packets is as large as its cells together -/
theorem set_size {G : Grid} {a : List Bk} {f : Pk → Bool} (hG : ksAT G) (ha : PS G a) (h : ∀ p ∈ univ, memB a p ↔ p.k ∈ ks ∧ f (corner X p) = true) :
    (a.map volF).sum = (((cards ks X).filter f).map fun c => volF (cellB X c)).sum := by
  have e1 := ha.vol hG
  have e2 := (cells_ps hk hX f).vol (by intro k hk'; simpa [wide] using hk')
  rw [List.map_map] at e2
  rw [e1]
  refine Eq.trans ?_ e2.symm
  unfold cnt
  refine sumI_congr fun p hp => ?_
  congr 1
  rw [Bool.eq_iff_iff, memT_iff, memT_iff, h p hp]
  constructor
  · rintro ⟨g1, g2⟩
    have := (corner_mem (ks := ks) hX hp).mpr g1
    exact ⟨cellB X (corner X p), List.mem_map.mpr ⟨_, List.mem_filter.mpr ⟨this, g2⟩, rfl⟩, (cell_has hX this hp).mpr rfl⟩
  · rintro ⟨b, hb, hbp⟩
    obtain ⟨c, hc, rfl⟩ := List.mem_map.mp hb
    obtain ⟨c1, c2⟩ := List.mem_filter.mp hc
    have e := (cell_has hX c1 hp).mp hbp
    rw [e]
    exact ⟨(corner_mem (ks := ks) hX hp).mp (by rw [e]; exact c1), c2⟩
end
end PL.K4
namespace PL.K4
open PySem PySem.Spec PyProof.Rows L2 PL
variable [HasT]
theorem sOk_at {k : Str} (h : AT k) : sOk k := by
  rcases h with rfl | rfl
  · exact sOk_name nameOk_ask
  · exact sOk_name nameOk_tell
theorem CellsOk.well {bs : List Bk} (h : CellsOk bs) : ∀ b ∈ bs, bWell b := fun b hb => bOk.well (h b hb).1
theorem sp__law_pick : Kp w__law_pick 2 2 fs__law_pick := by
  rintro args Qp Ep ⟨xs, rfl, h0, h1, q⟩
  refine ⟨rfl, ?_⟩
  have hp : 0 < xs.length := List.length_pos_iff.mpr h0
  simp only [w__law_pick, PDS, STD]
  refine ⟨_, rfl, by omega, by omega, fun m m0 m1 => ?_⟩
  obtain ⟨x, hx, hm, _⟩ := atI_mem m0 m1
  simp only [PDS, STD, hx]
  exact q x hm
theorem sp__law_block_size : Kp w__law_block_size 1 4 fs__law_block_size := by
  rintro args Qp Ep ⟨b, rfl, ⟨h1, h2, h3⟩, q⟩
  refine ⟨rfl, ?_⟩
  obtain ⟨k, rs⟩ := b
  match rs, h2 with
  | [r0, r1, r2, r3], _ =>
    have c : ∀ (m : Int) (r : Rg), r ∈ [r0, r1, r2, r3] → CMul m (r.2 - r.1 + 1) := fun m r hr => by
      obtain ⟨a, b, c⟩ := h3 r hr
      exact .inr ⟨by omega, by omega⟩
    simp only [w__law_block_size, PDS, STD, bD, wForL, rgD]
    exact ⟨c _ _ (by simp), c _ _ (by simp), c _ _ (by simp), c _ _ (by simp), q⟩
theorem sp__law_any_range : Kp w__law_any_range 1 2 fs__law_any_range := by
  rintro args Qp Ep ⟨rfl, q⟩
  refine ⟨rfl, ?_⟩
  have num : ∀ {x : D} {u v : Int}, 0 ≤ u → u < 256 → 0 ≤ v → v < 256 → x ∈ [D.int 0, D.int 255, D.int u, D.int v] → ∃ n, x = .int n ∧ 0 ≤ n ∧ n ≤ 255 := fun {x u v} a b c d h => by
    simp only [List.mem_cons, List.not_mem_nil, or_false] at h
    rcases h with rfl | rfl | rfl | rfl
    · exact ⟨0, rfl, by omega, by omega⟩
    · exact ⟨255, rfl, by omega, by omega⟩
    · exact ⟨u, rfl, by omega, by omega⟩
    · exact ⟨v, rfl, by omega, by omega⟩
  simp only [w__law_any_range, PDS, STD]
  refine ⟨256, rfl, by decide, by decide, fun u u0 u1 => ?_⟩
  simp only [PDS, STD]
  refine ⟨256, rfl, by decide, by decide, fun v v0 v1 => ?_⟩
  simp only [PDS, STD]
  refine ⟨_, rfl, by simp, by simp, fun x hx => ?_⟩
  obtain ⟨lo, rfl, l0, l1⟩ := num u0 u1 v0 v1 hx
  simp only [PDS, STD]
  refine ⟨256, rfl, by decide, by decide, fun w w0 w1 => ?_⟩
  simp only [PDS, STD]
  refine ⟨_, rfl, by simp, by simp, fun y hy => ?_⟩
  have hy' : ∃ m, y = .int m ∧ 0 ≤ m := by
    simp only [List.mem_cons, List.not_mem_nil, or_false] at hy
    rcases hy with rfl | rfl | rfl | rfl
    · exact ⟨0, rfl, by omega⟩
    · exact ⟨1, rfl, by omega⟩
    · exact ⟨255, rfl, by omega⟩
    · exact ⟨w, rfl, by omega⟩
  obtain ⟨m, rfl, m0⟩ := hy'
  simp only [PDS, STD]
  exact q (lo, if lo + m < 255 then lo + m else 255) ⟨l0, by show lo ≤ if lo + m < 255 then lo + m else 255; split <;> omega, by show (if lo + m < 255 then lo + m else 255) ≤ 255; split <;> omega⟩
theorem atI_last {α : Type} (l : List α) (a : α) : atI (l ++ [a]) (-1) = some a := by
  have h1 : ¬ (0 : Int) ≤ -1 := by omega
  have h2 : -((l ++ [a]).length : Int) ≤ -1 := by simp; omega
  have h3 : (-1 + ((l ++ [a]).length : Int)).toNat = l.length := by simp; omega
  have e : ixN (l ++ [a]).length (-1) = some l.length := by
    unfold ixN
    rw [if_neg h1, if_pos h2, h3]
  unfold atI
  rw [e, Option.bind_some]
  simp
theorem cu0a {a b c d e : D} : cut [a, b, c, d, e] none (some 1) = [a] := rfl
theorem cu0b {a b c d e : D} : cut [a, b, c, d, e] (some 2) none = [c, d, e] := rfl
theorem cu1a {a b c d e : D} : cut [a, b, c, d, e] none (some 2) = [a, b] := rfl
theorem cu1b {a b c d e : D} : cut [a, b, c, d, e] (some 3) none = [d, e] := rfl
theorem cu2a {a b c d e : D} : cut [a, b, c, d, e] none (some 3) = [a, b, c] := rfl
theorem cu2b {a b c d e : D} : cut [a, b, c, d, e] (some 4) none = [e] := rfl
theorem cu3a {a b c d e : D} : cut [a, b, c, d, e] none (some 4) = [a, b, c, d] := rfl
theorem cu3b {a b c d e : D} : cut [a, b, c, d, e] (some 5) none = [] := rfl
theorem ac2 {n0 bk0 ct0 : Env → Prop} {r0' : R → Env → Prop} {ex0 : Ex → Env → Prop} {bs : List Bk} {b : Bk} {x2 x3 x4 x5 x6 : Option Ent} (hb : bOk b) (hl : bs.length < 100) (y4 : frO (some x4) = true) (y5 : frO (some x5) = true) (y6 : frO (some x6) = true)
    (h : ∀ (es : List Bk) (x4 x5 x6 : Option Ent), (∀ e ∈ es, bOk e ∧ e.k = b.k) → es.length ≤ 1 → frO (some x4) = true → frO (some x5) = true → frO (some x6) = true → n0 [some (.own true .draw), some (.own false (.lst ((bs ++ [b] ++ es).map bD))), x2, x3, x4, x5, x6, none]) :
    wAc2 ⟨n0, r0', bk0, ct0, ex0⟩ [some (.own true .draw), some (.own false (.lst ((bs ++ [b]).map bD))), x2, x3, x4, x5, x6, none] := by
  have hz := sizeLine_eq
  obtain ⟨k, rs⟩ := b
  obtain ⟨r0, r1, r2, r3, rfl⟩ := four hb.2.1
  have g0 := hb.2.2 r0 (by simp)
  have g1 := hb.2.2 r1 (by simp)
  have g2 := hb.2.2 r2 (by simp)
  have g3 := hb.2.2 r3 (by simp)
  simp only [wAc2, PDS, STD]
  refine ⟨3, rfl, by decide, by decide, fun t t0 t1 => ?_⟩
  have et : t = 0 ∨ t = 1 ∨ t = 2 := by omega
  have no := h [] x4 x5 x6 (fun e he => by cases he) (by simp) y4 y5 y6
  rw [List.append_nil] at no
  have last : atI ((bs ++ [(⟨k, [r0, r1, r2, r3]⟩ : Bk)]).map bD) (-1) = some (bD ⟨k, [r0, r1, r2, r3]⟩) := by
    rw [List.map_append]
    exact atI_last _ _
  have fin : ∀ {r : Rg}, rgOk r → ∀ {w : Int}, 0 ≤ w → rgOk ((if r.2 + 1 < 255 then r.2 + 1 else 255), (if (if r.2 + 1 < 255 then r.2 + 1 else 255) + w < 255 then (if r.2 + 1 < 255 then r.2 + 1 else 255) + w else 255)) := fun {r} hr {w} w0 => by
    unfold rgOk at hr ⊢
    simp only
    refine ⟨?_, ?_, ?_⟩ <;> (repeat' split) <;> omega
  by_cases e0 : t = 0
  · subst e0
    simp only [gEq_int, PDS, STD]
    refine ⟨4, rfl, by decide, by decide, fun m m0 m1 => ?_⟩
    simp only [PDN, PDS, STD, last, y4, y5]
    have em : m = 0 ∨ m = 1 ∨ m = 2 ∨ m = 3 := by omega
    rcases em with rfl | rfl | rfl | rfl
    · simp only [PDN, PDS, STD, bD, rgD, y6, Int.reduceAdd]
      refine ⟨9, rfl, by decide, by decide, fun w w0 w1 => ?_⟩
      simp only [PDN, PDS, STD, Int.reduceAdd, cu0a, cu0b]
      refine ⟨by rw [hz]; decide, by rw [hz]; decide, by rw [hz, List.length_append]; simp; omega, ?_⟩
      have hb2 : bOk (⟨k, [((if r0.2 + 1 < 255 then r0.2 + 1 else 255), (if (if r0.2 + 1 < 255 then r0.2 + 1 else 255) + w < 255 then (if r0.2 + 1 < 255 then r0.2 + 1 else 255) + w else 255)), r1, r2, r3]⟩ : Bk) := ⟨hb.1, rfl, fun r hr => by
        simp only [List.mem_cons, List.not_mem_nil, or_false] at hr
        rcases hr with rfl | rfl | rfl | rfl
        · exact fin g0 w0
        · exact g1
        · exact g2
        · exact g3⟩
      have := h [(⟨k, [((if r0.2 + 1 < 255 then r0.2 + 1 else 255), (if (if r0.2 + 1 < 255 then r0.2 + 1 else 255) + w < 255 then (if r0.2 + 1 < 255 then r0.2 + 1 else 255) + w else 255)), r1, r2, r3]⟩ : Bk)] (some (.val (.int 1))) (some (.val (bD ⟨k, [r0, r1, r2, r3]⟩))) (some (.val (.int (if r0.2 + 1 < 255 then r0.2 + 1 else 255)))) (fun e he => by rw [List.mem_singleton.mp he]; exact ⟨hb2, rfl⟩) (by simp) rfl rfl rfl
      rw [List.map_append, List.map_cons, List.map_nil] at this
      exact this
    · simp only [PDN, PDS, STD, bD, rgD, y6, Int.reduceAdd]
      refine ⟨9, rfl, by decide, by decide, fun w w0 w1 => ?_⟩
      simp only [PDN, PDS, STD, Int.reduceAdd, cu1a, cu1b]
      refine ⟨by rw [hz]; decide, by rw [hz]; decide, by rw [hz, List.length_append]; simp; omega, ?_⟩
      have hb2 : bOk (⟨k, [r0, ((if r1.2 + 1 < 255 then r1.2 + 1 else 255), (if (if r1.2 + 1 < 255 then r1.2 + 1 else 255) + w < 255 then (if r1.2 + 1 < 255 then r1.2 + 1 else 255) + w else 255)), r2, r3]⟩ : Bk) := ⟨hb.1, rfl, fun r hr => by
        simp only [List.mem_cons, List.not_mem_nil, or_false] at hr
        rcases hr with rfl | rfl | rfl | rfl
        · exact g0
        · exact fin g1 w0
        · exact g2
        · exact g3⟩
      have := h [(⟨k, [r0, ((if r1.2 + 1 < 255 then r1.2 + 1 else 255), (if (if r1.2 + 1 < 255 then r1.2 + 1 else 255) + w < 255 then (if r1.2 + 1 < 255 then r1.2 + 1 else 255) + w else 255)), r2, r3]⟩ : Bk)] (some (.val (.int 2))) (some (.val (bD ⟨k, [r0, r1, r2, r3]⟩))) (some (.val (.int (if r1.2 + 1 < 255 then r1.2 + 1 else 255)))) (fun e he => by rw [List.mem_singleton.mp he]; exact ⟨hb2, rfl⟩) (by simp) rfl rfl rfl
      rw [List.map_append, List.map_cons, List.map_nil] at this
      exact this
    · simp only [PDN, PDS, STD, bD, rgD, y6, Int.reduceAdd]
      refine ⟨9, rfl, by decide, by decide, fun w w0 w1 => ?_⟩
      simp only [PDN, PDS, STD, Int.reduceAdd, cu2a, cu2b]
      refine ⟨by rw [hz]; decide, by rw [hz]; decide, by rw [hz, List.length_append]; simp; omega, ?_⟩
      have hb2 : bOk (⟨k, [r0, r1, ((if r2.2 + 1 < 255 then r2.2 + 1 else 255), (if (if r2.2 + 1 < 255 then r2.2 + 1 else 255) + w < 255 then (if r2.2 + 1 < 255 then r2.2 + 1 else 255) + w else 255)), r3]⟩ : Bk) := ⟨hb.1, rfl, fun r hr => by
        simp only [List.mem_cons, List.not_mem_nil, or_false] at hr
        rcases hr with rfl | rfl | rfl | rfl
        · exact g0
        · exact g1
        · exact fin g2 w0
        · exact g3⟩
      have := h [(⟨k, [r0, r1, ((if r2.2 + 1 < 255 then r2.2 + 1 else 255), (if (if r2.2 + 1 < 255 then r2.2 + 1 else 255) + w < 255 then (if r2.2 + 1 < 255 then r2.2 + 1 else 255) + w else 255)), r3]⟩ : Bk)] (some (.val (.int 3))) (some (.val (bD ⟨k, [r0, r1, r2, r3]⟩))) (some (.val (.int (if r2.2 + 1 < 255 then r2.2 + 1 else 255)))) (fun e he => by rw [List.mem_singleton.mp he]; exact ⟨hb2, rfl⟩) (by simp) rfl rfl rfl
      rw [List.map_append, List.map_cons, List.map_nil] at this
      exact this
    · simp only [PDN, PDS, STD, bD, rgD, y6, Int.reduceAdd]
      refine ⟨9, rfl, by decide, by decide, fun w w0 w1 => ?_⟩
      simp only [PDN, PDS, STD, Int.reduceAdd, cu3a, cu3b]
      refine ⟨by rw [hz]; decide, by rw [hz]; decide, by rw [hz, List.length_append]; simp; omega, ?_⟩
      have hb2 : bOk (⟨k, [r0, r1, r2, ((if r3.2 + 1 < 255 then r3.2 + 1 else 255), (if (if r3.2 + 1 < 255 then r3.2 + 1 else 255) + w < 255 then (if r3.2 + 1 < 255 then r3.2 + 1 else 255) + w else 255))]⟩ : Bk) := ⟨hb.1, rfl, fun r hr => by
        simp only [List.mem_cons, List.not_mem_nil, or_false] at hr
        rcases hr with rfl | rfl | rfl | rfl
        · exact g0
        · exact g1
        · exact g2
        · exact fin g3 w0⟩
      have := h [(⟨k, [r0, r1, r2, ((if r3.2 + 1 < 255 then r3.2 + 1 else 255), (if (if r3.2 + 1 < 255 then r3.2 + 1 else 255) + w < 255 then (if r3.2 + 1 < 255 then r3.2 + 1 else 255) + w else 255))]⟩ : Bk)] (some (.val (.int 4))) (some (.val (bD ⟨k, [r0, r1, r2, r3]⟩))) (some (.val (.int (if r3.2 + 1 < 255 then r3.2 + 1 else 255)))) (fun e he => by rw [List.mem_singleton.mp he]; exact ⟨hb2, rfl⟩) (by simp) rfl rfl rfl
      rw [List.map_append, List.map_cons, List.map_nil] at this
      exact this
  · have : decide (t = 0) = false := decide_eq_false e0
    simp only [gEq_int, this, PDS, STD]
    exact no
theorem sp__law_any_cells : Kp w__law_any_cells 1 8 fs__law_any_cells := by
  rintro args Qp Ep ⟨rfl, q⟩
  refine ⟨rfl, ?_⟩
  have hz := sizeLine_eq
  simp only [w__law_any_cells, wAy1, PDS, STD]
  refine ⟨5, rfl, by decide, by decide, fun n n0 n1 => ?_⟩
  simp only [PDS, STD]
  refine ⟨⟨by omega, by omega, by omega⟩, ?_⟩
  refine for_all (fun i : Nat => D.int (0 + (i : Int))) (all := List.range (n - 0).toNat) (fun pre ρ => ∃ (bs : List Bk) (x2 x3 x4 x5 x6 : Option Ent), frO (some x2) = true ∧ frO (some x3) = true ∧ frO (some x4) = true ∧ frO (some x5) = true ∧ frO (some x6) = true ∧
    ρ = [some (.own true .draw), some (.own false (.lst (bs.map bD))), x2, x3, x4, x5, x6, none] ∧ CellsOk bs ∧ bs.length ≤ 2 * pre.length) ⟨[], none, none, none, none, none, rfl, rfl, rfl, rfl, rfl, rfl, (fun b hb => by cases hb), (by simp)⟩ ?_ ?_
  · rintro pre i post ρ hall ⟨bs, x2, x3, x4, x5, x6, y2, y3, y4, y5, y6, rfl, hb, hl⟩ N hN
    have hp : pre.length < 4 := by
      have := congrArg List.length hall
      simp at this; omega
    simp only [wAc0, wAc1, PDS, STD, y2, y3]
    refine ⟨_, rfl, by simp, by simp, fun x hx => ?_⟩
    have hx' : ∃ k, x = .str k ∧ AT k := by
      simp only [List.mem_cons, List.not_mem_nil, or_false] at hx
      rcases hx with rfl | rfl | rfl | rfl
      · exact ⟨_, rfl, .inl rfl⟩
      · exact ⟨_, rfl, .inl rfl⟩
      · exact ⟨_, rfl, .inl rfl⟩
      · exact ⟨_, rfl, .inr rfl⟩
    obtain ⟨k, rfl, hk⟩ := hx'
    simp only [PDS, STD, y2, y3]
    refine ⟨⟨by omega, by omega, by decide⟩, rfl, ?_⟩
    refine lc_pre (fun i : Nat => D.int (0 + (i : Int))) (fun pr acc ρ => ∃ rs : List Rg, acc = rs.map rgD ∧ rs.length = pr.length ∧ (∀ r ∈ rs, rgOk r) ∧ ρ = wipeE [some (.own true .draw), some (.own false (.lst (bs.map bD))), some (.val (.int (0 + (i : Int)))), some (.val (.str k)), x4, x5, x6, none] [7]) (all := List.range (4 - 0 : Int).toNat) (List.range (4 - 0 : Int).toNat) [] rfl ⟨[], rfl, rfl, (fun r hr => by cases hr), rfl⟩ (fun pr a po acc ρ h hI kk k0 hk' hk0 => ?_) (fun acc ρ hI => ?_)
    · obtain ⟨rs, rfl, e1, e2, rfl⟩ := hI
      simp only [wipeE, PDS, STD] at hk' ⊢
      refine ⟨rfl, rfl, fun r hr => ?_⟩
      simp only [PDS, STD] at hk' ⊢
      refine hk' _ _ ⟨rs ++ [r], by simp, by simp [e1], fun z hz => ?_, rfl⟩
      rcases List.mem_append.mp hz with hz | hz
      · exact e2 z hz
      · rw [List.mem_singleton.mp hz]; exact hr
    · obtain ⟨rs, rfl, e1, e2, rfl⟩ := hI
      have e1 : rs.length = 4 := by rw [e1]; rfl
      obtain ⟨r0, r1, r2, r3, rfl⟩ := four e1
      simp only [wipeE, restE, PDS, STD]
      rw [show bs.map bD ++ [D.tup [D.str k, rgD r0, rgD r1, rgD r2, rgD r3]] = (bs ++ [(⟨k, [r0, r1, r2, r3]⟩ : Bk)]).map bD by simp [bD]]
      have hb0 : bOk ⟨k, [r0, r1, r2, r3]⟩ := ⟨by
        rcases hk with rfl | rfl
        · exact nameOk_ask
        · exact nameOk_tell, rfl, e2⟩
      refine ⟨by omega, by omega, ac2 hb0 (by omega) y4 y5 y6 fun es x4 x5 x6 h1 h2 z4 z5 z6 => ?_⟩
      refine hN _ ⟨bs ++ [⟨k, [r0, r1, r2, r3]⟩] ++ es, _, _, x4, x5, x6, rfl, rfl, z4, z5, z6, rfl, fun b hb' => ?_, ?_⟩
      · rcases List.mem_append.mp hb' with hb' | hb'
        · rcases List.mem_append.mp hb' with hb' | hb'
          · exact hb b hb'
          · rw [List.mem_singleton.mp hb']; exact ⟨hb0, hk⟩
        · obtain ⟨q1, q2⟩ := h1 b hb'
          exact ⟨q1, by rw [q2]; exact hk⟩
      · simp only [List.length_append, List.length_cons, List.length_nil]; omega
  · rintro ρ ⟨bs, x2, x3, x4, x5, x6, y2, y3, y4, y5, y6, rfl, hb, hl⟩
    simp only [wAy2, PDS, STD]
    simp only [List.length_range] at hl
    exact q bs hb (by omega)
end PL.K4
namespace PL.K4
open PySem PySem.Spec PyProof.Rows L2 PL
variable [HasT]
def outQ (q : Rg × Int) : Bool := !decide (q.1.1 ≤ q.2 ∧ q.2 ≤ q.1.2)
theorem inR_out : ∀ (rs : List Rg) (ns : List Int), rs.length = ns.length → inR rs ns = decide ((rs.zip ns).filter outQ = [])
  | [], [], _ => rfl
  | [], _ :: _, h => by simp at h
  | _ :: _, [], h => by simp at h
  | r :: rs, n :: ns, h => by
    rw [inR, List.zip_cons_cons, List.filter_cons, inR_out rs ns (by simpa using h)]
    by_cases c : r.1 ≤ n ∧ n ≤ r.2
    · have : outQ (r, n) = false := by simp [outQ, c]
      rw [this, decide_eq_true c]; simp
    · have : outQ (r, n) = true := by simp only [outQ, decide_eq_false c]; rfl
      rw [this, decide_eq_false c]; simp
theorem sp__law_in : Kp w__law_in 2 6 fs__law_in := by
  rintro args Qp Ep ⟨⟨k, rs⟩, p, rfl, ⟨sk, l4⟩, sp, q⟩
  refine ⟨rfl, ?_⟩
  have zz : zipD (rs.map rgD) [.int p.a, .int p.b, .int p.c, .int p.d] = (rs.zip p.ns).map fun q => .tup [rgD q.1, .int q.2] := by
    unfold zipD
    rw [show ([.int p.a, .int p.b, .int p.c, .int p.d] : List D) = p.ns.map D.int from rfl, List.zip_map, List.map_map]
    rfl
  have l4 : rs.length = 4 := l4
  have ein : inR rs p.ns = decide ((rs.zip p.ns).filter outQ = []) := inR_out _ _ l4
  by_cases c : k = p.k
  · subst c
    have e : hasP ⟨p.k, rs⟩ p = inR rs p.ns := by unfold hasP; simp
    rw [e, ein] at q
    simp only [w__law_in, PDN, PDS, STD, bD, pkD, gEq_str sp sp, wZipM, zz]
    refine ⟨by omega, rfl, lc_allF (fun q : Rg × Int => .tup [rgD q.1, .int q.2]) (fun _ => .int 1) outQ (fun x hx k k0 hk hk0 => ?_) ?_⟩
    · simp only [wipeE, PDN, PDS, STD, rgD, gLe] at hk hk0 ⊢
      by_cases c1 : x.1.1 ≤ x.2
      · by_cases c2 : x.2 ≤ x.1.2
        · have eo : outQ x = false := by simp [outQ, c1, c2]
          simp only [c1, c2, PDN, PDS, STD]
          exact hk0 eo _ rfl
        · have eo : outQ x = true := by simp [outQ, c2]
          simp only [c1, c2, PDN, PDS, STD]
          exact hk eo _ rfl
      · have eo : outQ x = true := by simp [outQ, c1]
        simp only [c1, PDN, PDS, STD]
        exact hk eo _ rfl
    · generalize (rs.zip p.ns).filter outQ = fl at q
      have e1 : (fl.map fun _ => D.int 1) = (fl.map fun _ => (1 : Int)).map D.int := by rw [List.map_map]; rfl
      have e2 : decide ((fl.map fun _ => (1 : Int)) = []) = decide (fl = []) := by cases fl <;> simp
      simp only [wipeE, restE, PDN, PDS, STD, e1, gEq_ints0, e2]
      exact q
  · have e : hasP ⟨k, rs⟩ p = false := by unfold hasP; simp [c]
    rw [e] at q
    simp only [w__law_in, PDN, PDS, STD, bD, pkD, gEq_str sk sp, c]
    exact q
def rgAt (b : Bk) (i : Nat) : Rg := (b.rs[i]?).getD (0, 0)
theorem rgAt_get {b : Bk} {i : Nat} {r : Rg} (h : b.rs[i]? = some r) : rgAt b i = r := by unfold rgAt; rw [h]; rfl
theorem rgAt_ok {b : Bk} {i : Nat} (h : bOk b) (hi : i < 4) : rgOk (rgAt b i) := by
  obtain ⟨r, hr⟩ := getR h.2.1 hi
  rw [rgAt_get hr]
  exact h.2.2 r (List.mem_of_getElem? hr)
theorem at_bD {b : Bk} {i : Nat} (h : bOk b) (hi : i < 4) : atI (D.str b.k :: b.rs.map rgD) ((i : Int) + 1) = some (.tup [.int (rgAt b i).1, .int (rgAt b i).2]) := by
  obtain ⟨r, hr⟩ := getR h.2.1 hi
  rw [rgAt_get hr, show (i : Int) + 1 = ((i + 1 : Nat) : Int) by omega, atI_nat]
  simp [hr, rgD]
theorem sp__law_cuts : Kp w__law_cuts 2 4 fs__law_cuts := by
  rintro args Qp Ep ⟨bs, i, rfl, hb, hl, hi, q⟩
  refine ⟨rfl, ?_⟩
  simp only [w__law_cuts, PDN, PDS, STD]
  refine ⟨rfl, lc_allF bD (fun b => .int ((rgAt b i).2 + 1)) (fun b => decide ((rgAt b i).2 < 255)) (fun b hbm k k0 hk hk0 => ?_) ?_⟩
  · have ok := (hb b hbm).1
    by_cases c : (rgAt b i).2 < 255
    · have e : decide ((rgAt b i).2 < 255) = true := decide_eq_true c
      simp only [wipeE, PDN, PDS, STD, bD, at_bD ok hi, e] at hk ⊢
      exact hk trivial _ rfl
    · have e : decide ((rgAt b i).2 < 255) = false := decide_eq_false c
      simp only [wipeE, PDN, PDS, STD, bD, at_bD ok hi, e] at hk0 ⊢
      exact hk0 trivial _ rfl
  · simp only [wipeE, restE, PDN, PDS, STD]
    refine ⟨rfl, lc_all bD (fun b => .int (rgAt b i).1) (fun b hbm k hk => ?_) ?_⟩
    · have ok := (hb b hbm).1
      simp only [wipeE, PDN, PDS, STD, bD, at_bD ok hi] at hk ⊢
      exact hk _ rfl
    · have e : D.int 0 :: ((bs.map fun b => D.int (rgAt b i).1) ++ ((bs.filter fun b => decide ((rgAt b i).2 < 255)).map fun b => D.int ((rgAt b i).2 + 1))) = (0 :: (bs.map fun b => (rgAt b i).1) ++ ((bs.filter fun b => decide ((rgAt b i).2 < 255)).map fun b => (rgAt b i).2 + 1)).map D.int := by
        simp [List.map_map, Function.comp_def]
      have hz := sizeLine_eq
      have fl := List.length_filter_le (fun b => decide ((rgAt b i).2 < 255)) bs
      simp only [wipeE, restE, PDN, PDS, STD]
      refine ⟨by omega, by omega, ?_⟩
      rw [e, gSortSet_i]
      refine ⟨by simp only [List.length_append, List.length_cons, List.length_map]; omega, fun X asc mem => ?_⟩
      have mem' : ∀ k, k ∈ X ↔ k = 0 ∨ (∃ b ∈ bs, (rgAt b i).1 = k) ∨ ∃ b ∈ bs, (rgAt b i).2 < 255 ∧ (rgAt b i).2 + 1 = k := fun k => by
        rw [mem k]
        simp [List.mem_filter, and_assoc]
      simp only [PDN, PDS, STD]
      refine q X ⟨asc, (mem' 0).mpr (.inl rfl), fun k hk => ?_, ?_⟩ fun b hbm r hr => ⟨(mem' r.1).mpr (.inr (.inl ⟨b, hbm, by rw [rgAt_get hr]⟩)), fun h => (mem' (r.2 + 1)).mpr (.inr (.inr ⟨b, hbm, by rw [rgAt_get hr]; exact h, by rw [rgAt_get hr]⟩))⟩
      · rcases (mem' k).mp hk with rfl | ⟨b, hbm, rfl⟩ | ⟨b, hbm, h5, rfl⟩
        · exact ⟨by omega, by omega⟩
        · have := rgAt_ok (hb b hbm).1 hi
          exact ⟨this.1, by have := this.2; omega⟩
        · have := rgAt_ok (hb b hbm).1 hi
          unfold rgOk at this
          exact ⟨by omega, by omega⟩
      · have nd : X.Nodup := asc.imp fun a => by omega
        refine Nat.le_trans (nodup_len (m := (0 :: (bs.map fun b => (rgAt b i).1) ++ ((bs.filter fun b => decide ((rgAt b i).2 < 255)).map fun b => (rgAt b i).2 + 1))) nd fun k hk => (mem k).mp hk) ?_
        simp only [List.length_append, List.length_cons, List.length_map]
        omega
theorem look_row : ∀ {X : List Int} {k : Int}, k ∈ X → lookD (X.map .inl) ((X.tail ++ [256]).map .int) (.inl k) = some (.int (nxt X k))
  | [], _, h => by cases h
  | [x], k, h => by
    rw [List.mem_singleton.mp h]
    simp [lookD, nxt]
  | x :: y :: t, k, h => by
    by_cases e : x = k
    · subst e; simp [lookD, nxt]
    · have hk : k ∈ y :: t := by
        rcases List.mem_cons.mp h with rfl | h
        · exact absurd rfl e
        · exact h
      have ih := look_row hk
      simp only [List.map_cons, List.tail_cons, List.cons_append, lookD, nxt, if_neg e] at ih ⊢
      rw [if_neg (fun z => e (by injection z))]
      exact ih
theorem sp__law_volume : Kp w__law_volume 2 6 fs__law_volume := by
  rintro args Qp Ep ⟨ks, X, c, rfl, hX, hc, q⟩
  refine ⟨rfl, ?_⟩
  obtain ⟨c1, c2, c3, c4, c5⟩ := cards_iff.mp hc
  obtain ⟨h0, h1, h2, h3⟩ := hX
  have l0 := look_row c2
  have l1 := look_row c3
  have l2 := look_row c4
  have l3 := look_row c5
  have cm : ∀ {Y : List Int} {k : Int} (m : Int), Row Y → k ∈ Y → CMul m (nxt Y k - k) := fun {Y k} m hY hk => by
    obtain ⟨a1, a2, _⟩ := hY.nxt hk
    have := (hY.num k hk).1
    exact .inr ⟨by omega, by omega⟩
  have ev : volF (cellB X c) = 1 * (nxt X.x0 c.a - c.a) * (nxt X.x1 c.b - c.b) * (nxt X.x2 c.c - c.c) * (nxt X.x3 c.d - c.d) := by
    show 1 * (nxt X.x0 c.a - 1 - c.a + 1) * (nxt X.x1 c.b - 1 - c.b + 1) * (nxt X.x2 c.c - 1 - c.c + 1) * (nxt X.x3 c.d - 1 - c.d + 1) = _
    rw [show nxt X.x0 c.a - 1 - c.a + 1 = nxt X.x0 c.a - c.a by omega, show nxt X.x1 c.b - 1 - c.b + 1 = nxt X.x1 c.b - c.b by omega, show nxt X.x2 c.c - 1 - c.c + 1 = nxt X.x2 c.c - c.c by omega, show nxt X.x3 c.d - 1 - c.d + 1 = nxt X.x3 c.d - c.d by omega]
  rw [ev] at q
  simp only [w__law_volume, PDN, PDS, STD, Rows.ds, pkD, zipD, List.zip_cons_cons, List.zip_nil_left, wForL, rowD, l0, l1, l2, l3]
  exact ⟨cm _ h0 c2, cm _ h1 c3, cm _ h2 c4, cm _ h3 c5, q⟩
end PL.K4
namespace PL.K4
open PySem PySem.Spec PyProof.Rows L2 PL
open PySem.W (minD)
variable [HasT]
theorem pkP_inj {p q : Pk} (h : pkP p = pkP q) : p = q := by
  obtain ⟨k, a, b, c, d⟩ := p
  obtain ⟨k', a', b', c', d'⟩ := q
  simp only [pkP, PyData.tuple.injEq, List.cons.injEq, PyData.str.injEq, PyData.int.injEq, and_true] at h
  obtain ⟨e1, ⟨e2, e3⟩, e4, e5⟩ := h
  rw [e1, e2, e3, e4, e5]
theorem gMin_least {p : Pk} {ps : List Pk} {Q : R → Prop} (h : ∀ m ∈ p :: ps, (∀ q ∈ p :: ps, ltPk q m = false) → Q (.val (pkD m))) : gMin [.lst ((p :: ps).map pkD)] Q := by
  refine ⟨pkP p, ps.map pkP, ?_, ⟨fun x hx y hy => ?_, fun x hx => ?_⟩, ?_, fun z hz hm => ?_⟩
  · exact toPs_map (f := pkD) (g := pkP) toP_pk (p :: ps)
  · have hx' : x ∈ (p :: ps).map pkP := hx
    have hy' : y ∈ (p :: ps).map pkP := hy
    obtain ⟨a, _, rfl⟩ := List.mem_map.mp hx'
    obtain ⟨b, _, rfl⟩ := List.mem_map.mp hy'
    exact alike_pk a b
  · have hx' : x ∈ (p :: ps).map pkP := hx
    obtain ⟨a, _, rfl⟩ := List.mem_map.mp hx'
    intro e; cases e
  · refine depAll_le fun x hx => ?_
    have hx' : x ∈ (p :: ps).map pkP := hx
    obtain ⟨a, _, rfl⟩ := List.mem_map.mp hx'
    rw [depth_pk]; decide
  · obtain ⟨q, hq, rfl⟩ := List.mem_map.mp hz
    obtain ⟨m, h1, h2, h3⟩ := minD_pk ps p
    rw [h2, toP_pk] at hm
    have e : q = m := pkP_inj (Option.some.inj hm)
    subst e
    exact h q hq h3
theorem low_le {b : Bk} (hb : bOk b) {q : Pk} (h : hasP b q = true) : ltPk q (low b) = false := by
  obtain ⟨k, rs⟩ := b
  obtain ⟨r0, r1, r2, r3, rfl⟩ := four hb.2.1
  unfold hasP Pk.ns at h
  rw [Bool.and_eq_true, inR4] at h
  obtain ⟨e0, e1, e2, e3, e4⟩ := h
  exact ltPk_mono (of_decide_eq_true e0) e1.1 e2.1 e3.1 e4.1
theorem sp_Packets_least : Kp w_Packets_least 1 7 PL.K4.fs_Packets_least := by
  rintro args Qp Ep ⟨G, a, rfl, hG, ha, q0, q⟩
  refine ⟨rfl, ?_⟩
  have so : ∀ c ∈ a, sOk c.k := fun c hc => (ha.well c hc).1
  have hl := ha.line hG
  by_cases he : a = []
  · subst he
    have e : gEq id (.lst []) (.lst []) = fun Q => Q (.val (.bl true)) := by
      funext Q
      exact gEq_bs (bs := []) (fun c hc => by cases hc)
    simp only [w_Packets_least, PDS, STD, setD, e]
    exact q0 rfl
  · have e : a.isEmpty = false := by simpa using he
    simp only [w_Packets_least, PDS, STD, setD, gEq_bs so, e]
    refine for_all bD (fun pre ρ => ∃ x2 x3 x4 x5 x6, frO (some x2) = true ∧ frO (some x3) = true ∧ frO (some x4) = true ∧ frO (some x5) = true ∧ frO (some x6) = true ∧ ρ = [some (.val (setD a)), some (.own false (.lst ((pre.map low).map pkD))), x2, x3, x4, x5, x6]) ⟨none, none, none, none, none, rfl, rfl, rfl, rfl, rfl, rfl⟩ ?_ ?_
    · rintro pr o po ρ hall ⟨x2, x3, x4, x5, x6, y2, y3, y4, y5, y6, rfl⟩ N hN
      have ho := ha.ok o (by rw [hall]; simp)
      obtain ⟨k, rs⟩ := o
      obtain ⟨r0, r1, r2, r3, rfl⟩ := four ho.2.1
      simp only [PDS, STD, y2, y3, y4, y5, y6, bD, rgD]
      refine ⟨?_, ?_⟩
      · rw [hall] at hl
        simp only [List.length_append, List.length_cons] at hl
        omega
      · refine hN _ ⟨some (.val (.str k)), some (.val (rgD r0)), some (.val (rgD r1)), some (.val (rgD r2)), some (.val (rgD r3)), rfl, rfl, rfl, rfl, rfl, ?_⟩
        rw [List.map_append, List.map_append]
        rfl
    · rintro ρ ⟨x2, x3, x4, x5, x6, y2, y3, y4, y5, y6, rfl⟩
      simp only [PDS, STD]
      obtain ⟨b0, bt, rfl⟩ := List.exists_cons_of_ne_nil he
      refine gMin_least (p := low b0) (ps := bt.map low) fun m hm hmin => ?_
      have hp' : m ∈ (b0 :: bt).map low := hm
      obtain ⟨b, hb, rfl⟩ := List.mem_map.mp hp'
      simp only [PDS, STD]
      refine q (low b) ⟨b, hb, has_low (ha.ok b hb)⟩ fun z ⟨c, hc, hz⟩ => ?_
      have h1 := low_le (ha.ok c hc) hz
      have h2 := hmin (low c) (show low c ∈ (b0 :: bt).map low from List.mem_map.mpr ⟨c, hc, rfl⟩)
      exact ltPk_neg h1 h2
theorem gSortSet_strs {ns : List Str} {K : R → Prop} (h : ns.length < 64) (q : ∀ out : List Str, out.Nodup → (∀ k, k ∈ out ↔ k ∈ ns) → K (.tmp (.lst (out.map .str)))) : gSortSet [.lst (ns.map .str)] K := by
  cases ns with
  | nil =>
    show gSortSet [.lst (([] : List Int).map .int)] K
    rw [gSortSet_i]
    refine ⟨by simp, fun out _ ho => ?_⟩
    have e : out = [] := List.eq_nil_iff_forall_not_mem.mpr fun k hk => by have := (ho k).mp hk; cases this
    subst e
    exact q [] List.nodup_nil fun k => Iff.rfl
  | cons a l =>
    rw [gSortSet_s (by simp)]
    exact ⟨h, fun out _ h2 h3 => q out h2 h3⟩
theorem wName_to {i : Nat} {d : D} {ρ : Env} {Q : Env → Prop} {x : Option Ent} (h : ρ[i]? = some x) (hf : frO (some x) = true) (q : Q (ρ.set i (some (.val d)))) : wName i d ρ Q := by
  rw [x_name (by rw [x_frS, h]; exact hf)]
  exact q
def duoI (p : Int × Int) : D := .tup [.int p.1, .int p.2]
theorem pairsZ_ints : ∀ (X Y : List Int), pairsZ (X.map .int) (Y.map .int) = (X.zip Y).map duoI
  | [], _ => by simp [pairsZ]
  | _ :: _, [] => by simp [pairsZ]
  | x :: X, y :: Y => by
    have := pairsZ_ints X Y
    simp only [List.map_cons, pairsZ, List.zip_cons_cons, this]
    rfl
theorem pairs_ints : ∀ l : List (Int × Int), pairsD (l.map duoI) = some (l.map fun p => (Sum.inl p.1, D.int p.2))
  | [] => rfl
  | p :: l => by
    rw [List.map_cons, duoI, pairsD]
    simp only [keyD, pairs_ints l]
    rfl
theorem putKs_new {ks : List Key} {q : Key} (h : q ∉ ks) : putKs ks q = ks ++ [q] := by
  unfold putKs
  rw [if_neg]
  intro hc
  obtain ⟨x, hx, hd⟩ := List.any_eq_true.mp hc
  exact h ((of_decide_eq_true hd) ▸ hx)
theorem putDs_new {ks : List Key} {ds : List D} {q : Key} {d : D} (h : q ∉ ks) : putDs ks ds q d = ds ++ [d] := by
  unfold putDs
  rw [if_neg]
  intro hc
  obtain ⟨x, hx, hd⟩ := List.any_eq_true.mp hc
  exact h ((of_decide_eq_true hd) ▸ hx)
theorem merge_ints : ∀ (l : List (Int × Int)) (ks : List Key) (ds : List D), (ks ++ l.map fun p => (Sum.inl p.1 : Key)).Nodup → ks.length = ds.length → mergeKs (l.map fun p => (Sum.inl p.1, D.int p.2)) ks ds = (ks ++ l.map fun p => Sum.inl p.1, ds ++ l.map fun p => D.int p.2)
  | [], ks, ds, _, _ => by simp [mergeKs]
  | p :: l, ks, ds, nd, hl => by
    have hn : (Sum.inl p.1 : Key) ∉ ks := fun z => by
      have := (List.nodup_append.mp nd).2.2 (Sum.inl p.1) z (Sum.inl p.1) (by simp)
      exact this rfl
    rw [List.map_cons, mergeKs, putKs_new hn, putDs_new hn]
    rw [merge_ints l _ _ (by simpa using nd) (by simp [hl])]
    simp
theorem gDict_row {X : List Int} (h : Row X) {Q : R → Prop} : gDict [.lst (pairsZ (X.map .int) (((X.tail ++ [256]).map .int)))] Q = Q (.tmp (rowD X)) := by
  have hl : (X.tail ++ [256]).length = X.length := by
    have : X.length ≠ 0 := fun e => h.ne (List.eq_nil_of_length_eq_zero e)
    simp; omega
  have e1 : (X.zip (X.tail ++ [256])).map (·.1) = X := List.map_fst_zip (by omega)
  have e2 : (X.zip (X.tail ++ [256])).map (·.2) = X.tail ++ [256] := List.map_snd_zip (by omega)
  unfold gDict
  dsimp only
  rw [pairsZ_ints, pairs_ints]
  dsimp only
  have e3 : ((X.zip (X.tail ++ [256])).map fun p => (Sum.inl p.1 : Key)) = X.map .inl := by
    have := congrArg (List.map (Sum.inl : Int → Key)) e1
    rwa [List.map_map] at this
  have e4 : ((X.zip (X.tail ++ [256])).map fun p => D.int p.2) = (X.tail ++ [256]).map D.int := by
    have := congrArg (List.map D.int) e2
    rwa [List.map_map] at this
  rw [merge_ints _ [] [] (by
    rw [List.nil_append, e3]
    exact List.Pairwise.map _ (fun a b hab z => hab (by injection z)) (asc_ne h)) rfl]
  simp only [List.nil_append, e3, e4]
  rfl
def intsR (X : List Int) : D := .lst (X.map .int)
section
variable {bsD : D} {X0 X1 X2 X3 : List Int} {n0 bk0 ct0 : Env → Prop} {r0 : R → Env → Prop} {ex0 : Ex → Env → Prop}
abbrev envC (bsD : D) (X0 X1 X2 X3 : List Int) (cs : List Pk) (x4 x5 x6 x7 : Option Ent) : Env := [some (.val bsD), some (.own false (.lst (cs.map pkD))), some (.own false (.lst [intsR X0, intsR X1, intsR X2, intsR X3])), none, x4, x5, x6, x7, none, none, none]
theorem cd0 {cs : List Pk} {k : Str} {a b c : Int} (hl : cs.length + X3.length ≤ 30000) (h : n0 (envC bsD X0 X1 X2 X3 (cs ++ X3.map fun d => ⟨k, a, b, c, d⟩) (some (.val (.str k))) (some (.val (.int a))) (some (.val (.int b))) (some (.val (.int c))))) :
    wCd0 ⟨n0, r0, bk0, ct0, ex0⟩ (envC bsD X0 X1 X2 X3 cs (some (.val (.str k))) (some (.val (.int a))) (some (.val (.int b))) (some (.val (.int c)))) := by
  have hz := sizeLine_eq
  simp only [wCd0, PDN, PDS, STD, intsR]
  refine ⟨rfl, lc_all D.int (fun d => pkD ⟨k, a, b, c, d⟩) (fun d hd kk hk => ?_) ?_⟩
  · simp only [wipeE, PDN, PDS, STD] at hk ⊢
    exact hk _ rfl
  · simp only [wipeE, restE, PDN, PDS, STD]
    refine ⟨by omega, ?_⟩
    have e : (cs ++ X3.map fun d => (⟨k, a, b, c, d⟩ : Pk)).map pkD = cs.map pkD ++ X3.map fun d => pkD ⟨k, a, b, c, d⟩ := by rw [List.map_append, List.map_map]; rfl
    unfold envC at h
    rw [e] at h
    exact h
end
theorem g3_len {X3 : List Int} (h3 : X3.length ≤ 9) {k : Str} {a b c : Int} : (X3.map fun d => (⟨k, a, b, c, d⟩ : Pk)).length ≤ 9 := by rw [List.length_map]; exact h3
def G2 (X3 : List Int) (k : Str) (a b : Int) (Y : List Int) : List Pk := Y.flatMap fun c => X3.map fun d => ⟨k, a, b, c, d⟩
theorem g2_len {X3 Y : List Int} (h3 : X3.length ≤ 9) {k : Str} {a b : Int} : (G2 X3 k a b Y).length ≤ 9 * Y.length := flat_le (fun c => g3_len h3) Y
def G1 (X2 X3 : List Int) (k : Str) (a : Int) (Y : List Int) : List Pk := Y.flatMap fun b => G2 X3 k a b X2
theorem g1_len {X2 X3 Y : List Int} (h2 : X2.length ≤ 9) (h3 : X3.length ≤ 9) {k : Str} {a : Int} : (G1 X2 X3 k a Y).length ≤ 81 * Y.length := flat_le (fun b => by have := g2_len (Y := X2) h3 (k := k) (a := a) (b := b); omega) Y
def G0 (X1 X2 X3 : List Int) (k : Str) (Y : List Int) : List Pk := Y.flatMap fun a => G1 X2 X3 k a X1
theorem g0_len {X1 X2 X3 Y : List Int} (h1 : X1.length ≤ 9) (h2 : X2.length ≤ 9) (h3 : X3.length ≤ 9) {k : Str} : (G0 X1 X2 X3 k Y).length ≤ 729 * Y.length := flat_le (fun a => by have := g1_len (Y := X1) h2 h3 (k := k) (a := a); omega) Y
def GK0 (X0 X1 X2 X3 : List Int) (Y : List Str) : List Pk := Y.flatMap fun k => G0 X1 X2 X3 k X0
theorem gk_len {X0 X1 X2 X3 : List Int} {Y : List Str} (h0 : X0.length ≤ 9) (h1 : X1.length ≤ 9) (h2 : X2.length ≤ 9) (h3 : X3.length ≤ 9) : (GK0 X0 X1 X2 X3 Y).length ≤ 6561 * Y.length := flat_le (fun k => by have := g0_len (Y := X0) h1 h2 h3 (k := k); omega) Y
section
variable {bsD : D} {X0 X1 X2 X3 : List Int} {n0 bk0 ct0 : Env → Prop} {r0 : R → Env → Prop} {ex0 : Ex → Env → Prop} (l0 : X0.length ≤ 9) (l1 : X1.length ≤ 9) (l2 : X2.length ≤ 9) (l3 : X3.length ≤ 9)
include l3
theorem cc0 {cs : List Pk} {k : Str} {a b : Int} {x7 : Option Ent} (l2 : X2.length ≤ 9) (hl : cs.length ≤ 29900) (y7 : frO (some x7) = true) (h : ∀ x7, frO (some x7) = true → n0 (envC bsD X0 X1 X2 X3 (cs ++ G2 X3 k a b X2) (some (.val (.str k))) (some (.val (.int a))) (some (.val (.int b))) x7)) :
    wCc0 ⟨n0, r0, bk0, ct0, ex0⟩ (envC bsD X0 X1 X2 X3 cs (some (.val (.str k))) (some (.val (.int a))) (some (.val (.int b))) x7) := by
  simp only [wCc0, PDN, PDS, STD, envC]
  simp only [intsR, PDN, PDS, STD]
  refine for_all D.int (fun pre ρ => ∃ x7, frO (some x7) = true ∧ ρ = envC bsD X0 X1 X2 X3 (cs ++ G2 X3 k a b pre) (some (.val (.str k))) (some (.val (.int a))) (some (.val (.int b))) x7) ⟨x7, y7, by simp [G2, envC, intsR]⟩ ?_ ?_
  · rintro pre c post ρ hall ⟨x7, y7, rfl⟩ N hN
    have e := congrArg List.length hall
    simp only [List.length_append, List.length_cons] at e
    refine wName_to (i := 7) rfl y7 ?_
    refine cd0 (by have := g2_len (Y := pre) l3 (k := k) (a := a) (b := b); simp only [List.length_append]; omega) ?_
    refine hN _ ⟨some (.val (.int c)), rfl, ?_⟩
    rw [show G2 X3 k a b (pre ++ [c]) = G2 X3 k a b pre ++ X3.map fun d => (⟨k, a, b, c, d⟩ : Pk) by simp [G2], List.append_assoc]
  · rintro ρ ⟨x7, y7, rfl⟩
    exact h x7 y7
theorem cb0 {cs : List Pk} {k : Str} {a : Int} {x6 x7 : Option Ent} (l1 : X1.length ≤ 9) (l2 : X2.length ≤ 9) (hl : cs.length ≤ 29000) (y6 : frO (some x6) = true) (y7 : frO (some x7) = true) (h : ∀ x6 x7, frO (some x6) = true → frO (some x7) = true → n0 (envC bsD X0 X1 X2 X3 (cs ++ G1 X2 X3 k a X1) (some (.val (.str k))) (some (.val (.int a))) x6 x7)) :
    wCb0 ⟨n0, r0, bk0, ct0, ex0⟩ (envC bsD X0 X1 X2 X3 cs (some (.val (.str k))) (some (.val (.int a))) x6 x7) := by
  simp only [wCb0, PDN, PDS, STD, envC]
  simp only [intsR, PDN, PDS, STD]
  refine for_all D.int (fun pre ρ => ∃ x6 x7, frO (some x6) = true ∧ frO (some x7) = true ∧ ρ = envC bsD X0 X1 X2 X3 (cs ++ G1 X2 X3 k a pre) (some (.val (.str k))) (some (.val (.int a))) x6 x7) ⟨x6, x7, y6, y7, by simp [G1, envC, intsR]⟩ ?_ ?_
  · rintro pre b post ρ hall ⟨x6, x7, y6, y7, rfl⟩ N hN
    have e := congrArg List.length hall
    simp only [List.length_append, List.length_cons] at e
    refine wName_to (i := 6) rfl y6 ?_
    refine cc0 l3 l2 (by have := g1_len (Y := pre) l2 l3 (k := k) (a := a); simp only [List.length_append]; omega) y7 fun x7 y7 => ?_
    refine hN _ ⟨some (.val (.int b)), x7, rfl, y7, ?_⟩
    rw [show G1 X2 X3 k a (pre ++ [b]) = G1 X2 X3 k a pre ++ G2 X3 k a b X2 by simp [G1], List.append_assoc]
  · rintro ρ ⟨x6, x7, y6, y7, rfl⟩
    exact h x6 x7 y6 y7
theorem ca0 {cs : List Pk} {k : Str} {x5 x6 x7 : Option Ent} (l0 : X0.length ≤ 9) (l1 : X1.length ≤ 9) (l2 : X2.length ≤ 9) (hl : cs.length ≤ 22000) (y5 : frO (some x5) = true) (y6 : frO (some x6) = true) (y7 : frO (some x7) = true) (h : ∀ x5 x6 x7, frO (some x5) = true → frO (some x6) = true → frO (some x7) = true → n0 (envC bsD X0 X1 X2 X3 (cs ++ G0 X1 X2 X3 k X0) (some (.val (.str k))) x5 x6 x7)) :
    wCa0 ⟨n0, r0, bk0, ct0, ex0⟩ (envC bsD X0 X1 X2 X3 cs (some (.val (.str k))) x5 x6 x7) := by
  simp only [wCa0, PDN, PDS, STD, envC]
  simp only [intsR, PDN, PDS, STD]
  refine for_all D.int (fun pre ρ => ∃ x5 x6 x7, frO (some x5) = true ∧ frO (some x6) = true ∧ frO (some x7) = true ∧ ρ = envC bsD X0 X1 X2 X3 (cs ++ G0 X1 X2 X3 k pre) (some (.val (.str k))) x5 x6 x7) ⟨x5, x6, x7, y5, y6, y7, by simp [G0, envC, intsR]⟩ ?_ ?_
  · rintro pre a post ρ hall ⟨x5, x6, x7, y5, y6, y7, rfl⟩ N hN
    have e := congrArg List.length hall
    simp only [List.length_append, List.length_cons] at e
    refine wName_to (i := 5) rfl y5 ?_
    refine cb0 l3 l1 l2 (by have := g0_len (Y := pre) l1 l2 l3 (k := k); simp only [List.length_append]; omega) y6 y7 fun x6 x7 y6 y7 => ?_
    refine hN _ ⟨some (.val (.int a)), x6, x7, rfl, y6, y7, ?_⟩
    rw [show G0 X1 X2 X3 k (pre ++ [a]) = G0 X1 X2 X3 k pre ++ G1 X2 X3 k a X1 by simp [G0], List.append_assoc]
  · rintro ρ ⟨x5, x6, x7, y5, y6, y7, rfl⟩
    exact h x5 x6 x7 y5 y6 y7
end
theorem gk_cards {ks : List Str} {X0 X1 X2 X3 : List Int} : GK0 X0 X1 X2 X3 ks = cards ks ⟨X0, X1, X2, X3⟩ := rfl
theorem sp__law_corners : Kp w__law_corners 1 11 fs__law_corners := by
  rintro args Qp Ep ⟨bs, rfl, hb, hl, q⟩
  refine ⟨rfl, ?_⟩
  simp only [w__law_corners, wCo1, PDN, PDS, STD]
  refine ⟨⟨by omega, by omega, by omega, by omega, by decide⟩, rfl, ?_⟩
  refine lc_pre (fun i : Nat => D.int (1 + (i : Int))) (fun pr acc ρ => ∃ Xs : List (List Int), acc = Xs.map intsR ∧ Xs.length = pr.length ∧ (∀ j X, Xs[j]? = some X → Row X ∧ ∀ b ∈ bs, ∀ r, b.rs[j]? = some r → OnRow X r) ∧ ρ = wipeE [some (.val (.lst (bs.map bD))), none, none, none, none, none, none, none, none, none, none] [3]) (all := List.range (5 - 1 : Int).toNat) (List.range (5 - 1 : Int).toNat) [] rfl ⟨[], rfl, rfl, (fun j X h => by rw [List.getElem?_nil] at h; cases h), rfl⟩ (fun pr a po acc ρ h hI kk k0 hk' hk0 => ?_) (fun acc ρ hI => ?_)
  · obtain ⟨Xs, rfl, e1, e2, rfl⟩ := hI
    have ea : a = pr.length ∧ a < 4 := by
      have h' : List.range 4 = pr ++ a :: po := h
      have g : (List.range 4)[pr.length]? = some a := by rw [h']; simp
      rw [List.getElem?_range (by have := congrArg List.length h'; simp at this; omega)] at g
      have := congrArg List.length h'
      simp at this g; omega
    simp only [wipeE, PDN, PDS, STD] at hk' ⊢
    refine ⟨bs, a, by rw [Int.add_comm]; rfl, hb, hl, ea.2, fun X hX hon => ?_⟩
    simp only [PDN, PDS, STD] at hk' ⊢
    refine hk' _ _ ⟨Xs ++ [X], by simp [intsR], by simp [e1], fun j Y hj => ?_, rfl⟩
    rcases Nat.lt_trichotomy j Xs.length with c | c | c
    · rw [List.getElem?_append_left c] at hj
      exact e2 j Y hj
    · subst c
      have : X = Y := by simpa using hj
      subst this
      rw [e1, ← ea.1]
      exact ⟨hX, hon⟩
    · rw [List.getElem?_eq_none (by simp; omega)] at hj; cases hj
  · obtain ⟨Xs, rfl, e1, e2, rfl⟩ := hI
    have e1 : Xs.length = 4 := by rw [e1]; rfl
    obtain ⟨X0, X1, X2, X3, rfl⟩ := four e1
    simp only [wipeE, restE, PDN, PDS, STD]
    refine ⟨rfl, lc_all bD (fun b => .str b.k) (fun b hbm k hk => ?_) ?_⟩
    · simp only [wipeE, PDN, PDS, STD, bD] at hk ⊢
      exact hk _ rfl
    · have e : bs.map (fun b => D.str b.k) = (bs.map (·.k)).map D.str := by rw [List.map_map]; rfl
      simp only [wipeE, restE, PDN, PDS, STD, e]
      refine gSortSet_strs (by simp; omega) fun ks nd mem => ?_
      simp only [PDN, PDS, STD]
      have r0 := (e2 0 X0 rfl).1
      have r1 := (e2 1 X1 rfl).1
      have r2 := (e2 2 X2 rfl).1
      have r3 := (e2 3 X3 rfl).1
      refine for_all D.str (fun pre ρ => ∃ x4 x5 x6 x7, frO (some x4) = true ∧ frO (some x5) = true ∧ frO (some x6) = true ∧ frO (some x7) = true ∧ ρ = envC (.lst (bs.map bD)) X0 X1 X2 X3 (GK0 X0 X1 X2 X3 pre) x4 x5 x6 x7) ⟨none, none, none, none, rfl, rfl, rfl, rfl, rfl⟩ ?_ ?_
      · rintro pre k post ρ hall ⟨x4, x5, x6, x7, y4, y5, y6, y7, rfl⟩ N hN
        have lk : ks.length ≤ 4 := by
          have := nodup_len (m := bs.map (·.k)) nd fun k hk => (mem k).mp hk
          rw [List.length_map] at this; omega
        have e := congrArg List.length hall
        simp only [List.length_append, List.length_cons] at e
        refine wName_to (i := 4) rfl y4 ?_
        refine ca0 r3.len r0.len r1.len r2.len (by have := gk_len (Y := pre) r0.len r1.len r2.len r3.len; omega) y5 y6 y7 fun x5 x6 x7 y5 y6 y7 => ?_
        refine hN _ ⟨some (.val (.str k)), x5, x6, x7, rfl, y5, y6, y7, ?_⟩
        rw [show GK0 X0 X1 X2 X3 (pre ++ [k]) = GK0 X0 X1 X2 X3 pre ++ G0 X1 X2 X3 k X0 by simp [GK0]]
      · rintro ρ ⟨x4, x5, x6, x7, y4, y5, y6, y7, rfl⟩
        simp only [wCo2, envC, PDN, PDS, STD, gk_cards]
        refine ⟨rfl, lc_all intsR rowD (l := [X0, X1, X2, X3]) (fun X hXm k hk => ?_) ?_⟩
        · have rX : Row X := by
            simp only [List.mem_cons, List.not_mem_nil, or_false] at hXm
            rcases hXm with rfl | rfl | rfl | rfl <;> assumption
          simp only [wipeE, PDN, PDS, STD, intsR] at hk ⊢
          have et : cut (X.map D.int) (some 1) none = X.tail.map D.int := by
            rw [show cut (X.map D.int) (some 1) none = (X.map D.int).drop 1 from cut_from _ 1, List.drop_one, List.map_tail]
          have ea : X.tail.map D.int ++ [D.int 256] = (X.tail ++ [256]).map D.int := by simp
          have hz := sizeLine_eq
          have hl := rX.len
          rw [et, ea]
          refine ⟨by simp only [List.length_map, List.length_tail]; omega, ?_⟩
          rw [gLstZip_l]
          refine ⟨by
            have : X.length ≠ 0 := fun e => rX.ne (List.eq_nil_of_length_eq_zero e)
            simp only [List.length_map, List.length_append, List.length_tail, List.length_cons, List.length_nil]; omega, ?_⟩
          simp only [PDN, PDS, STD]
          rw [gDict_row rX]
          simp only [PDN, PDS, STD]
          exact hk _ rfl
        · simp only [wipeE, restE, PDN, PDS, STD]
          refine q ks ⟨X0, X1, X2, X3⟩ ⟨nd, fun k hk => ?_⟩ (fun b hbm => (mem b.k).mpr (List.mem_map.mpr ⟨b, hbm, rfl⟩)) ⟨r0, r1, r2, r3⟩ fun b hbm q0 q1 q2 q3 hq => ?_
          · obtain ⟨b, hbm, rfl⟩ := List.mem_map.mp ((mem k).mp hk)
            exact (hb b hbm).2
          · exact ⟨(e2 0 X0 rfl).2 b hbm q0 (by rw [hq]; rfl), (e2 1 X1 rfl).2 b hbm q1 (by rw [hq]; rfl), (e2 2 X2 rfl).2 b hbm q2 (by rw [hq]; rfl), (e2 3 X3 rfl).2 b hbm q3 (by rw [hq]; rfl)⟩
end PL.K4
namespace PL.K4
open PySem PySem.Spec PyProof.Rows L2 PL
open PySem.W (dataLe)
variable [HasT]
instance decPk : DecidableEq Pk := fun a b => if h : a.k = b.k ∧ a.a = b.a ∧ a.b = b.b ∧ a.c = b.c ∧ a.d = b.d then isTrue (by
  cases a; cases b; obtain ⟨h1, h2, h3, h4, h5⟩ := h; simp only at h1 h2 h3 h4 h5; subst h1 h2 h3 h4 h5; rfl) else isFalse fun e => h (by subst e; exact ⟨rfl, rfl, rfl, rfl, rfl⟩)
theorem con_size : (["p_blocks"] : List Str).contains "size" = false := by decide
theorem con_blocks : (["p_blocks"] : List Str).contains "blocks" = false := by decide
theorem con_least : (["p_blocks"] : List Str).contains "least" = false := by decide
theorem con_turned : (["p_blocks"] : List Str).contains "turned" = false := by decide
theorem pOk_u {p : Pk} (h : p ∈ univ) : pOk p := by
  obtain ⟨h1, h2, h3, h4, h5⟩ := univ_iff.mp h
  refine ⟨?_, h2, h3, h4, h5⟩
  rcases h1 with e | e <;> rw [e]
  · exact nameOk_ask
  · exact nameOk_tell
theorem sOk_u {p : Pk} (h : p ∈ univ) : sOk p.k := sOk_name (pOk_u h).1
theorem eqi_pk : EqIt pkD pkP (fun p => sOk p.k) := by
  refine ⟨fun _ => rfl, fun p h => ?_, fun p => by rw [depth_pk]; decide, fun p q => ?_⟩
  · show (PyData.canLay0 (.str p.k) && _) = true
    rw [show PyData.canLay0 (.str p.k) = true from h]
    rfl
  · show (decide (p.k = q.k) && ((decide (p.a = q.a) && (decide (p.b = q.b) && true)) && ((decide (p.c = q.c) && (decide (p.d = q.d) && true)) && true))) = decide (p = q)
    rw [Bool.eq_iff_iff]
    simp only [Bool.and_eq_true, decide_eq_true_eq, and_true]
    obtain ⟨k, a, b, c, d⟩ := p
    obtain ⟨k', a', b', c', d'⟩ := q
    simp only [Pk.mk.injEq]
    constructor
    · rintro ⟨h1, ⟨h2, h3⟩, h4, h5⟩; exact ⟨h1, h2, h3, h4, h5⟩
    · rintro ⟨h1, h2, h3, h4, h5⟩; exact ⟨h1, ⟨h2, h3⟩, h4, h5⟩
theorem gEq_pks {f : Bool → Bool} {l m : List Pk} {Q : R → Prop} (hl : ∀ a ∈ l, sOk a.k) (hm : ∀ a ∈ m, sOk a.k) : gEq f (.lst (l.map pkD)) (.lst (m.map pkD)) Q = Q (.val (.bl (f (decide (l = m))))) := gEq_lists eqi_pk hl hm
theorem gEq_non1 {f : Bool → Bool} {Q : R → Prop} : gEq f (.lst [.non]) (.lst [.non]) Q = Q (.val (.bl (f true))) := by
  rw [gEq_of (p := .list [.none]) (q := .list [.none]) rfl rfl rfl rfl]; rfl
theorem gEq_b2 {f : Bool → Bool} {x y : Bool} {Q : R → Prop} : gEq f (.bl x) (.bl y) Q = Q (.val (.bl (f (x == y)))) := by
  cases x <;> cases y <;> (rw [gEq_of (p := .bool _) (q := .bool _) rfl rfl rfl rfl]; rfl)
theorem gSort_pks {l : List Pk} {Q : R → Prop} : gSort [.lst (l.map pkD)] Q = Q (.tmp (.lst ((l.mergeSort (dataLe false pkP)).map pkD))) := by
  refine propext ⟨fun h => ?_, fun h => ⟨l.map pkP, toPs_map (f := pkD) (g := pkP) toP_pk l, fun x hx y hy => ?_, .inl fun x hx => ?_, fun x hx => ?_, ?_⟩⟩
  · obtain ⟨ps, h1, _, _, _, h⟩ := h
    have e : toPs (l.map pkD) = some (l.map pkP) := toPs_map (f := pkD) (g := pkP) toP_pk l
    rw [e] at h1
    cases h1
    rwa [sortBy_map] at h
  · obtain ⟨a, _, rfl⟩ := List.mem_map.mp hx
    obtain ⟨b, _, rfl⟩ := List.mem_map.mp hy
    exact alike_pk a b
  · obtain ⟨a, _, rfl⟩ := List.mem_map.mp hx
    exact ⟨_, _, rfl⟩
  · obtain ⟨a, _, rfl⟩ := List.mem_map.mp hx
    rw [depth_pk]; decide
  · rw [sortBy_map]; exact h
theorem nkD_pk (p : Pk) : nkD (pkD p) = some (pkN p) := rfl
theorem depth_pkN (p : Pk) : (pkN p).depth ≤ 8 := by
  simp [pkN, NestedKey.depth, NestedKey.depthAll]
section
variable {ks : List Str} {X : Rows} {f : Pk → Bool} {ns : List NestedKey} {ds : List D} (hk : KsOk ks) (hX : X.ok) (ht : Tells ns ds (cards ks X) f)
include ht
theorem gX_card {c : Pk} (hc : c ∈ cards ks X) {K : R → Prop} : gXGet (.dix HasT.W ns ds) (pkD c) K = K (.val (.bl (f c))) :=
  gXGet_x (nkD_pk c) (depth_pkN c) (ht.2 c hc)
end
theorem has_univ {b : Bk} (hb : bOk b) (hk : AT b.k) {p : Pk} (h : hasP b p = true) : p ∈ univ := by
  obtain ⟨k, rs⟩ := b
  obtain ⟨r0, r1, r2, r3, rfl⟩ := four hb.2.1
  have g0 := hb.2.2 r0 (by simp)
  have g1 := hb.2.2 r1 (by simp)
  have g2 := hb.2.2 r2 (by simp)
  have g3 := hb.2.2 r3 (by simp)
  unfold hasP Pk.ns at h
  rw [Bool.and_eq_true, inR4] at h
  obtain ⟨e0, e1, e2, e3, e4⟩ := h
  have e0 : k = p.k := of_decide_eq_true e0
  unfold rgOk at g0 g1 g2 g3
  exact univ_iff.mpr ⟨by rw [← e0]; exact hk, ⟨by omega, by omega⟩, ⟨by omega, by omega⟩, ⟨by omega, by omega⟩, ⟨by omega, by omega⟩⟩
theorem memB_univ {G : Grid} (hG : ksAT G) {a : List Bk} (ha : PS G a) {p : Pk} (h : memB a p) : p ∈ univ := by
  obtain ⟨b, hb, hp⟩ := h
  exact has_univ (ha.ok b hb) (hG _ (ha.gr b hb).1) hp
theorem cut_t1 {α : Type} (l : List α) : cut l none (some 1) = l.take 1 := cut_to l 1
open Classical in
theorem sp__law_set_right : Kp w__law_set_right 4 7 fs__law_set_right := by
  rintro args Qp Ep ⟨G, a, ks, X, f, ns, ds, rfl, hG, hGk, ha, hks, hk2, hX, ht, hm, q⟩
  refine ⟨rfl, ?_⟩
  have gx : ∀ c ∈ cards ks X, ∀ {K : R → Prop}, gXGet (.dix HasT.W ns ds) (pkD c) K = K (.val (.bl (f c))) := fun c hc K => gX_card ht hc
  have hu : ∀ c ∈ cards ks X, c ∈ univ := fun c hc => cards_univ hks hX hc
  have hsz := set_size hks hX hGk ha hm
  have ok0 : okW [some (.val (setD a)), some (.val (.lst ((cards ks X).map pkD))), some (.val (.lst X.ds)), some (.val (.dix HasT.W ns ds)), none, none, none] [4] = true := rfl
  simp only [w__law_set_right, wSr1, wSr2, wSr3, wSr4, PDN, PDS, STD, setD, con_size, con_blocks, con_least] at ok0 ⊢
  refine ⟨G, a, rfl, ha, ?_⟩
  simp only [PDN, PDS, STD, setD]
  refine ⟨rfl, lc_allF pkD (fun c => .int (volF (cellB X c))) f (fun c hc k k0 hk hk0 => ?_) ?_⟩
  · simp only [wipeE, PDN, PDS, STD, gx c hc] at hk hk0 ⊢
    cases hf : f c with
    | true =>
      simp only [PDN, PDS, STD]
      exact ⟨ks, X, c, rfl, hX, hc, by simp only [PDN, PDS, STD]; exact hk hf _ rfl⟩
    | false =>
      simp only [PDN, PDS, STD]
      exact hk0 hf _ rfl
  · simp only [wipeE, restE, PDN, PDS, STD]
    have e1 : intsD (((cards ks X).filter f).map fun c => D.int (volF (cellB X c))) = some (((cards ks X).filter f).map fun c => volF (cellB X c)) := by
      rw [← intsD_map, List.map_map]; rfl
    rw [e1, hsz]
    simp only [PDN, PDS, STD, gEq_int, decide_true, con_size, con_blocks, con_least]
    refine ⟨a, rfl, ?_⟩
    simp only [PDN, PDS, STD]
    refine ⟨rfl, lc_all bD (fun b => .int (volF b)) (fun b hb k hk => ?_) ?_⟩
    · simp only [wipeE, PDN, PDS, STD, bD] at hk ⊢
      exact ⟨b, rfl, ha.ok b hb, by simp only [PDN, PDS, STD]; exact hk _ rfl⟩
    · simp only [wipeE, restE, PDN, PDS, STD]
      have e2 : intsD (a.map fun b => D.int (volF b)) = some (a.map volF) := by
        rw [← intsD_map, List.map_map]; rfl
      rw [e2]
      simp only [PDN, PDS, STD, con_size, con_blocks, con_least]
      refine ⟨G, a, rfl, ha, ?_⟩
      simp only [PDN, PDS, STD, gEq_int, decide_true]
      refine ⟨rfl, lc_allF pkD pkD f (fun c hc k k0 hk hk0 => ?_) ?_⟩
      · simp only [wipeE, PDN, PDS, STD, gx c hc] at hk hk0 ⊢
        cases hf : f c with
        | true =>
          simp only [PDN, PDS, STD]
          exact hk hf _ rfl
        | false =>
          simp only [PDN, PDS, STD]
          exact hk0 hf _ rfl
      · have hs := sorted_head (l := (cards ks X).filter f)
        have hp := List.mergeSort_perm ((cards ks X).filter f) (dataLe false pkP)
        simp only [wipeE, restE, PDN, PDS, STD, gSort_pks]
        generalize ((cards ks X).filter f).mergeSort (dataLe false pkP) = L at hs hp
        have hf : ∀ p ∈ univ, memB a p → corner X p ∈ (cards ks X).filter f := fun p hu h => by
          obtain ⟨h1, h2⟩ := (hm p hu).mp h
          exact List.mem_filter.mpr ⟨(corner_mem hX hu).mpr h1, h2⟩
        have fin : ∀ (v5 v6 : Option Ent), (wSr4 ⟨fun ρ => Qp (.val .non) (outA (vals [setD a, .lst ((cards ks X).map pkD), .lst X.ds, .dix HasT.W ns ds]) ρ), fun r ρ => Qp r (outA (vals [setD a, .lst ((cards ks X).map pkD), .lst X.ds, .dix HasT.W ns ds]) ρ), fun _ => False, fun _ => False, fun x ρ => Ep x (outA (vals [setD a, .lst ((cards ks X).map pkD), .lst X.ds, .dix HasT.W ns ds]) ρ)⟩ [some (.val (setD a)), some (.val (.lst ((cards ks X).map pkD))), some (.val (.lst X.ds)), some (.val (.dix HasT.W ns ds)), none, none, v6]) := fun v5 v6 => by
          simp only [wSr4, PDN, PDS, STD, setD, gSort_pks]
          refine ⟨rfl, lc_allF pkD pkD (fun _ => false) (fun c hc k k0 hk hk0 => ?_) ?_⟩
          · have hcu := hu c hc
            simp only [wipeE, PDN, PDS, STD, gx c hc] at hk hk0 ⊢
            refine ⟨G, a, c, rfl, ha, pOk_u hcu, ?_⟩
            have hi := hm c hcu
            rw [corner_self hX hc] at hi
            cases hfc : f c with
            | true =>
              have h1 : memB a c := hi.mpr ⟨(cards_iff.mp hc).1, hfc⟩
              simp only [wipeE, PDN, PDS, STD, gx c hc, decide_eq_true h1, hfc, gEq_b2, beq_self_eq_true]
              exact hk0 trivial _ rfl
            | false =>
              have h1 : ¬memB a c := fun h => by rw [(hi.mp h).2] at hfc; cases hfc
              simp only [wipeE, PDN, PDS, STD, gx c hc, decide_eq_false h1, hfc, gEq_b2, beq_self_eq_true]
              exact hk0 trivial _ rfl
          · have en : (cards ks X).filter (fun _ => false) = [] := by simp
            simp only [wipeE, restE, PDN, PDS, STD, en]
            have := gEq_pks (f := id) (l := []) (m := []) (Q := fun z => kRet (fun r ρ => Qp r (outA (vals [setD a, .lst ((cards ks X).map pkD), .lst X.ds, .dix HasT.W ns ds]) ρ)) z [some (.val (setD a)), some (.val (.lst ((cards ks X).map pkD))), some (.val (.lst X.ds)), some (.val (.dix HasT.W ns ds)), none, none, v6]) (by simp) (by simp)
            refine this.mpr ?_
            exact q
        cases L with
        | nil =>
          have ea : a = [] := List.eq_nil_iff_forall_not_mem.mpr fun b hb => by
            have hl := has_univ (ha.ok b hb) (hGk _ (ha.gr b hb).1) (has_low (ha.ok b hb))
            have := hp.mem_iff.mpr (hf _ hl ⟨b, hb, has_low (ha.ok b hb)⟩)
            cases this
          subst ea
          simp only [PDN, PDS, STD, setD, con_least, cut_t1, List.take_nil]
          refine ⟨G, [], rfl, hG, ha, fun _ => ?_, fun p h => by obtain ⟨b, hb, _⟩ := h; cases hb⟩
          simp only [PDN, PDS, STD, x_orL, kOrL_n, gEq_non1]
          exact fin none _
        | cons m t =>
          obtain ⟨hm1, hm2⟩ := hs m t rfl
          obtain ⟨hmc, hmf⟩ := List.mem_filter.mp hm1
          have hmu := hu m hmc
          have hma : memB a m := (hm m hmu).mpr ⟨(cards_iff.mp hmc).1, by rw [corner_self hX hmc]; exact hmf⟩
          simp only [PDN, PDS, STD, setD, con_least, cut_t1, List.take_succ_cons, List.take_zero, List.map_cons, List.map_nil]
          refine ⟨G, a, rfl, hG, ha, fun e => ?_, fun p hp' hmin => ?_⟩
          · subst e
            obtain ⟨b, hb, _⟩ := hma; cases hb
          · have hpu := memB_univ hGk ha hp'
            have h1 := hm2 _ (hf p hpu hp')
            have le := corner_le hX hpu
            have h2 : ltPk p (corner X p) = false := ltPk_mono rfl le.1 le.2.1 le.2.2.1 le.2.2.2
            have e : p = m := ltPk_tot (ltPk_neg h2 h1) (hmin m hma)
            subst e
            have this : ∀ Q : R → Prop, gEq not (.lst [pkD p]) (.lst [pkD p]) Q = Q (.val (.bl false)) := fun Q => by
              have := gEq_pks (f := not) (l := [p]) (m := [p]) (Q := Q) (by simpa using sOk_u hpu) (by simpa using sOk_u hpu)
              simpa only [List.map_cons, List.map_nil, decide_true, Bool.not_true] using this
            simp only [PDN, PDS, STD, x_orL, kOrL_c, this]
            exact fin none _
end PL.K4
namespace PL.K4
open PySem PySem.Spec PyProof.Rows L2 PL
variable [HasT]
theorem memN {bs : List Bk} {p : Pk} : ((bs.filter fun b => hasP b p).isEmpty = false) ↔ memB bs p := by
  rw [← memT_iff]
  unfold memT
  rw [List.any_eq_true]
  constructor
  · intro h
    cases e : bs.filter fun b => hasP b p with
    | nil => rw [e] at h; cases h
    | cons b l =>
      have : b ∈ bs.filter fun b => hasP b p := by rw [e]; simp
      exact ⟨b, (List.mem_filter.mp this).1, (List.mem_filter.mp this).2⟩
  · rintro ⟨b, hb, hp⟩
    have : b ∈ bs.filter fun b => hasP b p := List.mem_filter.mpr ⟨hb, hp⟩
    cases e : bs.filter fun b => hasP b p with
    | nil => rw [e] at this; cases this
    | cons => rfl
/-- does one of these cells hold the card -/
def hasF (bs : List Bk) (c : Pk) : Bool := !(bs.filter fun b => hasP b c).isEmpty
theorem hasF_iff {bs : List Bk} {p : Pk} : hasF bs p = true ↔ memB bs p := by
  rw [← memN]; unfold hasF
  cases (bs.filter fun b => hasP b p).isEmpty <;> simp
section
variable {ks : List Str} {X : Rows} (hX : X.ok) {bs : List Bk} (hb : CellsOk bs) (hk : ∀ b ∈ bs, b.k ∈ ks) (ho : ∀ b ∈ bs, X.on b)
include hX hb hk ho
theorem mem_corner {p : Pk} (hp : p ∈ univ) : memB bs p ↔ hasF bs (corner X p) = true := by
  rw [hasF_iff]
  constructor
  · rintro ⟨b, h1, h2⟩; exact ⟨b, h1, by rw [← has_corner hX (ho b h1) (hb b h1).1 hp]; exact h2⟩
  · rintro ⟨b, h1, h2⟩; exact ⟨b, h1, by rw [has_corner hX (ho b h1) (hb b h1).1 hp]; exact h2⟩
omit hX ho hb in
theorem mem_ks {p : Pk} (h : memB bs p) : p.k ∈ ks := by
  obtain ⟨b, h1, h2⟩ := h
  unfold hasP at h2
  rw [Bool.and_eq_true] at h2
  have : b.k = p.k := of_decide_eq_true h2.1
  rw [← this]; exact hk b h1
end
theorem pkN_inj {p q : Pk} (h : pkN p = pkN q) : p = q := by
  obtain ⟨k, a, b, c, d⟩ := p
  obtain ⟨k', a', b', c', d'⟩ := q
  simp only [pkN, NestedKey.tup.injEq, List.cons.injEq, NestedKey.text.injEq, NestedKey.num.injEq, and_true] at h
  obtain ⟨e1, ⟨e2, e3⟩, e4, e5⟩ := h
  rw [e1, e2, e3, e4, e5]
theorem tells_nil {f : Pk → Bool} : Tells [] [] [] f := ⟨rfl, fun c h => by cases h⟩
theorem tells_put {ks : List NestedKey} {ds : List D} {cs : List Pk} {f : Pk → Bool} {c : Pk} (h : Tells ks ds cs f) : Tells (putNs ks (pkN c)) (putNd ks ds (pkN c) (.bl (f c))) (cs ++ [c]) f := by
  refine ⟨(putN_len h.1).1, fun e he => ?_⟩
  rw [lookN_put (ds := []) h.1]
  by_cases hc : pkN c = pkN e
  · rw [if_pos hc, pkN_inj hc]
  · rw [if_neg hc]
    rcases List.mem_append.mp he with he | he
    · exact h.2 e he
    · exact absurd (by rw [List.mem_singleton.mp he]) hc
theorem tells_merge {f : Pk → Bool} : ∀ (l : List Pk) {ks : List NestedKey} {ds : List D} {cs : List Pk}, Tells ks ds cs f → Tells (mergeN (l.map fun c => (pkN c, D.bl (f c))) ks ds).1 (mergeN (l.map fun c => (pkN c, D.bl (f c))) ks ds).2 (cs ++ l) f
  | [], _, _, _, h => by simpa [mergeN] using h
  | c :: l, ks, ds, cs, h => by
    rw [List.map_cons, mergeN, show cs ++ c :: l = (cs ++ [c]) ++ l by simp]
    exact tells_merge l (tells_put h)
theorem pairsN_pk {f : Pk → Bool} : ∀ l : List Pk, pairsN (l.map fun c => .tup [pkD c, .bl (f c)]) = some (l.map fun c => (pkN c, D.bl (f c)))
  | [] => rfl
  | c :: l => by
    have hd : (pkN c).depth ≤ 8 := depth_pkN c
    unfold pkN at hd
    rw [List.map_cons, pairsN, nkD_pk, pairsN_pk l]
    unfold pkN
    simp only [hd, if_true]
    rfl
theorem gDictX_pk {f : Pk → Bool} {l : List Pk} {K : R → Prop} (q : ∀ ns ds, Tells ns ds l f → K (.tmp (.dix HasT.W ns ds))) : gDictX [.lst (l.map fun c => .tup [pkD c, .bl (f c)])] K := by
  rw [gDictX_p (pairsN_pk l)]
  exact q _ _ (by simpa using tells_merge l tells_nil)
theorem vol_turnB {b : Bk} (h : b.rs.length = 4) : volF (turnB b) = volF b := by
  obtain ⟨k, rs⟩ := b
  obtain ⟨r0, r1, r2, r3, rfl⟩ := four h
  show 1 * (r2.2 - r2.1 + 1) * (r3.2 - r3.1 + 1) * (r0.2 - r0.1 + 1) * (r1.2 - r1.1 + 1) = 1 * (r0.2 - r0.1 + 1) * (r1.2 - r1.1 + 1) * (r2.2 - r2.1 + 1) * (r3.2 - r3.1 + 1)
  simp only [Int.one_mul]
  ac_rfl
theorem turn_ps {G : Grid} {a : List Bk} (ha : PS G a) : PS G (a.map turnB) := by
  refine ⟨fun b hb => ?_, ?_, fun b hb => ?_⟩
  · obtain ⟨x, hx, rfl⟩ := List.mem_map.mp hb
    exact (turnB_fine (ha.fine x hx)).1
  · rw [List.pairwise_map]
    refine List.Pairwise.imp_of_mem (fun {x y} hx hy h p ⟨h1, h2⟩ => ?_) ha.ap
    rw [turnB_has (ha.len4 x hx)] at h1
    rw [turnB_has (ha.len4 y hy)] at h2
    exact h _ ⟨h1, h2⟩
  · obtain ⟨x, hx, rfl⟩ := List.mem_map.mp hb
    exact (turnB_fine (ha.fine x hx)).2
theorem turn_size {G : Grid} {a c : List Bk} (hG : ksAT G) (ha : PS G a) (hc : PS G c) (h : ∀ p, memB c p ↔ memB a (turnP p)) : (c.map volF).sum = (a.map volF).sum := by
  have e1 := hc.vol hG
  have e2 := (turn_ps ha).vol hG
  have e3 : ((a.map turnB).map volF) = a.map volF := by
    rw [List.map_map]
    exact List.map_congr_left fun b hb => vol_turnB (ha.len4 b hb)
  rw [e3] at e2
  rw [e1, e2]
  congr 1
  funext p
  rw [Bool.eq_iff_iff, memT_iff, memT_iff, h, turnL_mem ha.len4]
end PL.K4
namespace PL.K4
open PySem PySem.Spec PyProof.Rows L2 PL
variable [HasT]
abbrev envH (sc x2 x3 x4 x5 x6 x8 : Option Ent) (cs : List Pk) (ns : List NestedKey) (ds : List D) (ms : List NestedKey) (es : List D) (x11 x12 : Option Ent) : Env :=
  [sc, some (.own false .draw), x2, x3, x4, x5, x6, some (.val (.lst (cs.map pkD))), x8, some (.own false (.dix HasT.W ns ds)), some (.own false (.dix HasT.W ms es)), x11, x12, none]
def isL (x : Option Ent) (bs : List Bk) : Prop := x = some (.own false (.lst (bs.map bD))) ∨ x = some (.val (.lst (bs.map bD)))
def isV (x : Option Ent) : Prop := x = none ∨ ∃ d, x = some (.val d)
theorem isV.fr {x : Option Ent} (h : isV x) : frO (some x) = true := by
  rcases h with rfl | ⟨d, rfl⟩ <;> rfl
section
variable {n0 bk0 ct0 : Env → Prop} {r0 : R → Env → Prop} {ex0 : Ex → Env → Prop}
theorem gEq_has {bs : List Bk} {c : Pk} {Q : R → Prop} (h : CellsOk bs) : gEq not (.lst ((bs.filter fun b => hasP b c).map bD)) (.lst []) Q = Q (.val (.bl (hasF bs c))) :=
  gEq_bs fun b hb => sOk_at (h b (List.mem_filter.mp hb).1).2
theorem put9 {ρ : Env} {i : Nat} {c : Pk} {f : Bool} {n : Env → Prop} {ns : List NestedKey} {ds : List D} {b : Bool} (h : ρ[i]? = some (some (.own b (.dix HasT.W ns ds)))) (hl : ns.length < sizeLine)
    (q : n (ρ.set i (some (.own b (.dix HasT.W (putNs ns (pkN c)) (putNd ns ds (pkN c) (.bl f))))))) : kPX i (.bl f) n (pkD c) ρ := by
  have hd := depth_pkN c
  rw [kPX_t h (nkD_pk c)]
  exact ⟨rfl, hd, hl, q⟩
theorem has_loop {mine yours : List Bk} {cs : List Pk} {sc x2 x3 x4 x5 x6 x8 x11 x12 : Option Ent} (h3 : isL x3 mine) (h4 : isL x4 yours) (hm : CellsOk mine) (hy : CellsOk yours) (hl : cs.length ≤ 30000) (hc : ∀ c ∈ cs, c ∈ univ) (y11 : isV x11)
    (h : ∀ x3 x4 ns ds ms es x11, isL x3 mine → isL x4 yours → Tells ns ds cs (hasF mine) → Tells ms es cs (hasF yours) → isV x11 → n0 (envH sc x2 x3 x4 x5 x6 x8 cs ns ds ms es x11 x12)) :
    wFor (wSrc (wVar 7)) (wName 11) wLi0 ⟨n0, r0, bk0, ct0, ex0⟩ (envH sc x2 x3 x4 x5 x6 x8 cs [] [] [] [] x11 x12) := by
  have hz := sizeLine_eq
  simp only [PDN, PDS, STD]
  refine for_all pkD (fun pre ρ => ∃ x3 x4 ns ds ms es x11, isL x3 mine ∧ isL x4 yours ∧ Tells ns ds pre (hasF mine) ∧ Tells ms es pre (hasF yours) ∧ ns.length ≤ pre.length ∧ ms.length ≤ pre.length ∧ isV x11 ∧
    ρ = envH sc x2 x3 x4 x5 x6 x8 cs ns ds ms es x11 x12) ⟨x3, x4, [], [], [], [], x11, h3, h4, tells_nil, tells_nil, by simp, by simp, y11, rfl⟩ ?_ ?_
  · rintro pre c post ρ hall ⟨x3, x4, ns, ds, ms, es, x11, h3, h4, t1, t2, l1, l2, y11, rfl⟩ N hN
    have e := congrArg List.length hall
    simp only [List.length_append, List.length_cons] at e
    have hcu := hc c (by rw [hall]; simp)
    have sc' := sOk_u hcu
    refine wName_to (i := 11) rfl y11.fr ?_
    have n1 := (putN_len (q := pkN c) (d := .bl (hasF mine c)) t1.1).2
    have n2 := (putN_len (q := pkN c) (d := .bl (hasF yours c)) t2.1).2
    rcases h3 with rfl | rfl <;> rcases h4 with rfl | rfl
    all_goals
      simp only [wLi0, wLi1, PDN, PDS, STD, x_putX, kDix_t]
      refine ⟨rfl, lc_allF bD bD (fun b => hasP b c) (fun b hb k k0 hk hk0 => ?_) ?_⟩
      · simp only [wipeE, PDN, PDS, STD] at hk hk0 ⊢
        refine ⟨b, c, rfl, bOk.well (hm b hb).1, sc', ?_⟩
        simp only [PDN, PDS, STD]
        cases hf : hasP b c with
        | true => simp only [PDN, PDS, STD]; exact hk hf _ rfl
        | false => simp only [PDN, PDS, STD]; exact hk0 hf _ rfl
      · simp only [wipeE, restE, PDN, PDS, STD, gEq_has hm, kDix_t]
        refine put9 rfl (by omega) ?_
        simp only [wipeE, restE, PDN, PDS, STD, kDix_t]
        refine ⟨rfl, lc_allF bD bD (fun b => hasP b c) (fun b hb k k0 hk hk0 => ?_) ?_⟩
        · simp only [wipeE, PDN, PDS, STD] at hk hk0 ⊢
          refine ⟨b, c, rfl, bOk.well (hy b hb).1, sc', ?_⟩
          simp only [PDN, PDS, STD]
          cases hf : hasP b c with
          | true => simp only [PDN, PDS, STD]; exact hk hf _ rfl
          | false => simp only [PDN, PDS, STD]; exact hk0 hf _ rfl
        · simp only [wipeE, restE, PDN, PDS, STD, gEq_has hy, kDix_t]
          refine put9 rfl (by omega) ?_
          simp only [wipeE, restE, PDN, PDS, STD, kDix_t]
          exact hN _ ⟨_, _, _, _, _, _, _, .inr rfl, .inr rfl, tells_put t1, tells_put t2, by simp only [List.length_append, List.length_cons, List.length_nil]; omega, by simp only [List.length_append, List.length_cons, List.length_nil]; omega, .inr ⟨_, rfl⟩, rfl⟩
  · rintro ρ ⟨x3, x4, ns, ds, ms, es, x11, h3, h4, t1, t2, l1, l2, y11, rfl⟩
    exact h x3 x4 ns ds ms es x11 h3 h4 t1 t2 y11
end
end PL.K4
namespace PL.K4
open PySem PySem.Spec PyProof.Rows L2 PL
variable [HasT]
theorem cut_t2 {α : Type} (l : List α) : cut l none (some 2) = l.take 2 := cut_to l 2
theorem CellsOk.take {bs : List Bk} (h : CellsOk bs) (n : Nat) : CellsOk (bs.take n) := fun b hb => h b (List.mem_of_mem_take hb)
theorem backA_v4 {d e f g : D} {as : List Ent} {ρ : Env} : backA [.val d, .val e, .val f, .val g] as ρ = ρ := Eq.trans rfl rfl
theorem gridOf_at (bs : List Bk) : ksAT (gridOf bs) := (gridOf_k bs).1
section
variable {n0 bk0 ct0 : Env → Prop} {r0 : R → Env → Prop} {ex0 : Ex → Env → Prop}
theorem law_turn {sc x2 x3 x4 x5 x6 x7 x8 x9 x10 x11 x12 : Option Ent} (y3 : frO (some x3) = true) (y4 : frO (some x4) = true) (y5 : frO (some x5) = true) (y6 : frO (some x6) = true) (y7 : frO (some x7) = true) (y8 : frO (some x8) = true) (y9 : frO (some x9) = true) (y10 : frO (some x10) = true) (y11 : isV x11) (y12 : frO (some x12) = true)
    (h : ∀ x3 x4 x5 x6 x7 x8 x9 x10 x11 x12, frO (some x3) = true → frO (some x4) = true → frO (some x5) = true → frO (some x6) = true → frO (some x7) = true → frO (some x8) = true → frO (some x9) = true → frO (some x10) = true → isV x11 → frO (some x12) = true → n0 [sc, some (.own false .draw), x2, x3, x4, x5, x6, x7, x8, x9, x10, x11, x12, none]) :
    wLw0 ⟨n0, r0, bk0, ct0, ex0⟩ [sc, some (.own false .draw), x2, x3, x4, x5, x6, x7, x8, x9, x10, x11, x12, none] := by
  have hz := sizeLine_eq
  simp only [wLw0, PDN, PDS, STD]
  refine ⟨rfl, fun mine0 hm0 lm0 => ?_⟩
  simp only [PDN, PDS, STD]
  refine ⟨rfl, fun yours0 hy0 ly0 => ?_⟩
  simp only [PDN, PDS, STD, y3, y4, cut_t2, ← List.map_take]
  have hm := hm0.take 2
  have hy := hy0.take 2
  have lm : (mine0.take 2).length ≤ 2 := by simp; omega
  have ly : (yours0.take 2).length ≤ 2 := by simp; omega
  generalize mine0.take 2 = mine at hm lm ⊢
  generalize yours0.take 2 = yours at hy ly ⊢
  simp only [wLw1, wLw2, wLw3, PDN, PDS, STD, y3, y4, y5, y6, y7, y8, y9, y10]
  have hG : (gridOf (mine ++ yours)).ok := (gridOf_k _).ok (by simp only [List.length_append]; omega)
  have hall : CellsOk (mine ++ yours) := fun b hb => (List.mem_append.mp hb).elim (hm b) (hy b)
  have hin : ∀ b ∈ mine ++ yours, inG (gridOf (mine ++ yours)) b := fun b hb => gridOf_in hb (hall b hb).2 (hall b hb).1.2.1
  have hat : ksAT (gridOf (mine ++ yours)) := gridOf_at _
  generalize gridOf (mine ++ yours) = G at hG hin hat
  refine ⟨G, mine, .lst (mine.map bD), rfl, .inl rfl, hG, fun b hb => (hm b hb).1, fun b hb => hin b (by simp [hb]), fun A hA mA => ?_⟩
  simp only [PDN, PDS, STD, y3, y4, y5, y6, y7, y8, y9, y10, setD]
  refine ⟨G, yours, .lst (yours.map bD), rfl, .inl rfl, hG, fun b hb => (hy b hb).1, fun b hb => hin b (by simp [hb]), fun B hB mB => ?_⟩
  simp only [PDN, PDS, STD, y3, y4, y5, y6, y7, y8, y9, y10, setD, ← List.map_append]
  refine ⟨by omega, mine ++ yours, rfl, hall, by simp only [List.length_append]; omega, fun ks X hks hk hX ho => ?_⟩
  simp only [PDN, PDS, STD, y7, y8, y9, y10, x_dix0]
  have kl : ks.length ≤ 2 := nodup_len (m := (["ask", "tell"] : List Str)) hks.nd fun k hk => by
    rcases hks.at_ k hk with rfl | rfl <;> simp
  have cl : (cards ks X).length ≤ 30000 := by
    have := gk_len (X0 := X.x0) (X1 := X.x1) (X2 := X.x2) (X3 := X.x3) (Y := ks) hX.1.len hX.2.1.len hX.2.2.1.len hX.2.2.2.len
    rw [gk_cards] at this
    have e : (⟨X.x0, X.x1, X.x2, X.x3⟩ : Rows) = X := rfl
    rw [e] at this
    omega
  have cu : ∀ c ∈ cards ks X, c ∈ univ := fun c hc => cards_univ hks hX hc
  show wFor (wSrc (wVar 7)) (wName 11) wLi0 ⟨_, _, _, _, _⟩ (envH sc x2 _ _ _ _ _ (cards ks X) [] [] [] [] x11 x12)
  refine has_loop (.inr rfl) (.inr rfl) hm hy cl cu y11 fun x3 x4 ns ds ms es x11 h3 h4 t1 t2 y11 => ?_
  have b1 : ∀ p ∈ univ, memB A p ↔ hasF mine (corner X p) = true := fun p hp => by
    rw [mA, mem_corner (ks := ks) hX hm (fun b hb => hk b (by simp [hb])) (fun b hb => ho b (by simp [hb])) hp]
  have b2 : ∀ p ∈ univ, memB B p ↔ hasF yours (corner X p) = true := fun p hp => by
    rw [mB, mem_corner (ks := ks) hX hy (fun b hb => hk b (by simp [hb])) (fun b hb => ho b (by simp [hb])) hp]
  have k1 : ∀ p, memB A p → p.k ∈ ks := fun p hp => mem_ks (fun b hb => hk b (by simp [hb])) ((mA p).mp hp)
  have k2 : ∀ p, memB B p → p.k ∈ ks := fun p hp => mem_ks (fun b hb => hk b (by simp [hb])) ((mB p).mp hp)
  simp only [wLw5, PDN, PDS, STD, isObj_val]
  refine ⟨G, A, B, rfl, hG, hA, hB, fun C hC mC => ?_⟩
  simp only [PDN, PDS, STD]
  refine ⟨by rcases y11 with rfl | ⟨d, rfl⟩ <;> rfl, lc_all pkD (fun c => .tup [pkD c, .bl (hasF mine c || hasF yours c)]) (fun c hc k hk => ?_) ?_⟩
  · simp only [wipeE, PDN, PDS, STD, gX_card t1 hc] at hk ⊢
    cases hf : hasF mine c with
    | true =>
      rw [hf] at hk
      simp only [wipeE, PDN, PDS, STD, gX_card t2 hc, Bool.true_or, Bool.false_or, Bool.true_and, Bool.false_and] at hk ⊢
      exact hk _ rfl
    | false =>
      rw [hf] at hk
      simp only [wipeE, PDN, PDS, STD, gX_card t2 hc, Bool.true_or, Bool.false_or, Bool.true_and, Bool.false_and] at hk ⊢
      exact hk _ rfl
  simp only [wipeE, restE, PDN, PDS, STD]
  refine gDictX_pk (f := fun c => hasF mine c || hasF yours c) fun ns' ds' t => ?_
  simp only [PDN, PDS, STD]
  
  refine ⟨G, C, ks, X, _, ns', ds', rfl, hG, hat, hC, hks, kl, hX, t, fun p hp => by
    rw [mC, b1 p hp, b2 p hp, Bool.or_eq_true]
    exact ⟨fun h => ⟨h.elim (fun h => k1 p ((b1 p hp).mpr h)) (fun h => k2 p ((b2 p hp).mpr h)), h⟩, fun h => h.2⟩, ?_⟩
  simp only [PDN, PDS, STD, backA_v4, wLw6, isObj_val]
  refine ⟨G, A, B, rfl, hG, hA, hB, fun C hC mC => ?_⟩
  simp only [PDN, PDS, STD]
  refine ⟨by rcases y11 with rfl | ⟨d, rfl⟩ <;> rfl, lc_all pkD (fun c => .tup [pkD c, .bl (hasF mine c && hasF yours c)]) (fun c hc k hk => ?_) ?_⟩
  · simp only [wipeE, PDN, PDS, STD, gX_card t1 hc] at hk ⊢
    cases hf : hasF mine c with
    | true =>
      rw [hf] at hk
      simp only [wipeE, PDN, PDS, STD, gX_card t2 hc, Bool.true_or, Bool.false_or, Bool.true_and, Bool.false_and] at hk ⊢
      exact hk _ rfl
    | false =>
      rw [hf] at hk
      simp only [wipeE, PDN, PDS, STD, gX_card t2 hc, Bool.true_or, Bool.false_or, Bool.true_and, Bool.false_and] at hk ⊢
      exact hk _ rfl
  simp only [wipeE, restE, PDN, PDS, STD]
  refine gDictX_pk (f := fun c => hasF mine c && hasF yours c) fun ns' ds' t => ?_
  simp only [PDN, PDS, STD]
  
  refine ⟨G, C, ks, X, _, ns', ds', rfl, hG, hat, hC, hks, kl, hX, t, fun p hp => by
    rw [mC, b1 p hp, b2 p hp, Bool.and_eq_true]
    exact ⟨fun h => ⟨k1 p ((b1 p hp).mpr h.1), h⟩, fun h => h.2⟩, ?_⟩
  simp only [PDN, PDS, STD, backA_v4, wLw7, isObj_val]
  refine ⟨by rcases y11 with rfl | ⟨d, rfl⟩ <;> rfl, lc_all pkD (fun c => .tup [pkD c, .bl (hasF mine c && !hasF yours c)]) (fun c hc k hk => ?_) ?_⟩
  · simp only [wipeE, PDN, PDS, STD, gX_card t1 hc] at hk ⊢
    cases hf : hasF mine c with
    | true =>
      rw [hf] at hk
      simp only [wipeE, PDN, PDS, STD, gX_card t2 hc, Bool.true_or, Bool.false_or, Bool.true_and, Bool.false_and] at hk ⊢
      exact hk _ rfl
    | false =>
      rw [hf] at hk
      simp only [wipeE, PDN, PDS, STD, gX_card t2 hc, Bool.true_or, Bool.false_or, Bool.true_and, Bool.false_and] at hk ⊢
      exact hk _ rfl
  simp only [wipeE, restE, PDN, PDS, STD]
  refine gDictX_pk (f := fun c => hasF mine c && !hasF yours c) fun ns' ds' t => ?_
  simp only [PDN, PDS, STD, y12, wLw8, isObj_val]
  refine ⟨G, A, B, rfl, hG, hA, hB, fun C hC mC => ?_⟩
  simp only [PDN, PDS, STD]
  refine ⟨G, C, ks, X, _, ns', ds', rfl, hG, hat, hC, hks, kl, hX, t, fun p hp => by
    rw [mC, b1 p hp, b2 p hp, Bool.and_eq_true, Bool.not_eq_true']
    exact ⟨fun h => ⟨k1 p ((b1 p hp).mpr h.1), h.1, Bool.eq_false_iff.mpr h.2⟩, fun h => ⟨h.2.1, Bool.eq_false_iff.mp h.2.2⟩⟩, ?_⟩
  simp only [PDN, PDS, STD, backA_v4, wLw9, isObj_val]
  refine ⟨G, B, ks, X, _, ms, es, rfl, hG, hat, hB, hks, kl, hX, t2, fun p hp => by
    rw [b2 p hp]
    exact ⟨fun h => ⟨k2 p ((b2 p hp).mpr h), h⟩, fun h => h.2⟩, ?_⟩
  simp only [PDN, PDS, STD, backA_v4, isObj_val, con_turned, con_size]
  refine ⟨G, A, rfl, hG, hA, fun C' hC' mC' => ?_⟩
  simp only [PDN, PDS, STD, setD, con_size]
  refine ⟨G, C', rfl, hC', ?_⟩
  simp only [PDN, PDS, STD, setD, con_size]
  refine ⟨G, A, rfl, hA, ?_⟩
  simp only [PDN, PDS, STD, setD, gEq_int, turn_size hat hA hC' mC', decide_true]
  refine h _ _ _ _ _ _ _ _ _ _ ?_ ?_ rfl rfl rfl rfl rfl rfl y11 rfl
  · rcases h3 with rfl | rfl <;> rfl
  · rcases h4 with rfl | rfl <;> rfl
end
theorem sp_law : Kp w_law 1 14 fs_law := by
  rintro args Qp Ep ⟨ns, rfl, hns, q⟩
  refine ⟨rfl, ?_⟩
  have hz := sizeLine_eq
  have turn := @law_turn _
  simp only [w_law, wLv1, wLv2]
  generalize wLw0 = T at turn ⊢
  simp only [PDN, PDS, STD]
  refine ⟨ns, rfl, hns, ?_⟩
  simp only [PDN, PDS, STD]
  have hm : (if (1 : Int) < (ns.length : Int) then (1 : Int) else (ns.length : Int)) ≤ 1 ∧ 0 ≤ (if (1 : Int) < (ns.length : Int) then (1 : Int) else (ns.length : Int)) := by split <;> omega
  generalize (if (1 : Int) < (ns.length : Int) then (1 : Int) else (ns.length : Int)) = m at hm ⊢
  refine ⟨⟨by omega, by omega, by omega⟩, ?_⟩
  refine for_all (fun i : Nat => D.int (0 + (i : Int))) (all := List.range (1 + m - 0).toNat) (fun pre ρ => ∃ x2 x3 x4 x5 x6 x7 x8 x9 x10 x11 x12 : Option Ent, frO (some x2) = true ∧ frO (some x3) = true ∧ frO (some x4) = true ∧ frO (some x5) = true ∧ frO (some x6) = true ∧ frO (some x7) = true ∧ frO (some x8) = true ∧ frO (some x9) = true ∧ frO (some x10) = true ∧ isV x11 ∧ frO (some x12) = true ∧
    ρ = [some (.val (.kst (ns.map .int))), some (.own false .draw), x2, x3, x4, x5, x6, x7, x8, x9, x10, x11, x12, none]) ⟨none, none, none, none, none, none, none, none, none, none, none, rfl, rfl, rfl, rfl, rfl, rfl, rfl, rfl, rfl, .inl rfl, rfl, rfl⟩ ?_ ?_
  · rintro pre i post ρ hall ⟨x2, x3, x4, x5, x6, x7, x8, x9, x10, x11, x12, y2, y3, y4, y5, y6, y7, y8, y9, y10, y11, y12, rfl⟩ N hN
    refine wName_to (i := 2) rfl y2 ?_
    exact turn y3 y4 y5 y6 y7 y8 y9 y10 y11 y12 fun x3 x4 x5 x6 x7 x8 x9 x10 x11 x12 z3 z4 z5 z6 z7 z8 z9 z10 z11 z12 => hN _ ⟨some (.val (.int (0 + (i : Int)))), x3, x4, x5, x6, x7, x8, x9, x10, x11, x12, rfl, z3, z4, z5, z6, z7, z8, z9, z10, z11, z12, rfl⟩
  · rintro ρ ⟨x2, x3, x4, x5, x6, x7, x8, x9, x10, x11, x12, y2, y3, y4, y5, y6, y7, y8, y9, y10, y11, y12, rfl⟩
    simp only [PDN, PDS, STD]
    exact q
end PL.K4
namespace PL
open PySem PySem.Spec PyProof.Rows L2
variable [HasT]
def drK (l c : Addr) (rest turn mix : Int) : List (Key × V) := [(.inr "large", .ref l), (.inr "cells", .ref c), (.inr "rest", .int rest), (.inr "turn", .int turn), (.inr "mix", .int mix)]
/-- the dict of draws, as it stands in the heap, since H0 -/
structure DA (F H0 H : Hp) (a l c : Addr) (rest turn mix : Int) (ls cs : List Int) : Prop where
  nal : a ≠ l
  nac : a ≠ c
  nlc : l ≠ c
  ha : H a = some (.dK (drK l c rest turn mix))
  hl : H l = some (.lst (lits ls))
  hc : H c = some (.lst (lits cs))
  keep : ∀ b, H0 b ≠ none → b ≠ a → b ≠ l → H b = H0 b
section
variable {F H0 H : Hp} {a l c : Addr} {rest turn mix : Int} {ls cs : List Int}
theorem DA.gRest (h : DA F H0 H a l c rest turn mix ls cs) : DGet H a (.str "rest") (some (.int rest)) := DGet.k (k := .inr "rest") h.ha
theorem DA.gTurn (h : DA F H0 H a l c rest turn mix ls cs) : DGet H a (.str "turn") (some (.int turn)) := DGet.k (k := .inr "turn") h.ha
theorem DA.gMix (h : DA F H0 H a l c rest turn mix ls cs) : DGet H a (.str "mix") (some (.int mix)) := DGet.k (k := .inr "mix") h.ha
theorem DA.gLarge (h : DA F H0 H a l c rest turn mix ls cs) : DGet H a (.str "large") (some (.ref l)) := DGet.k (k := .inr "large") h.ha
theorem DA.gCells (h : DA F H0 H a l c rest turn mix ls cs) : DGet H a (.str "cells") (some (.ref c)) := DGet.k (k := .inr "cells") h.ha
theorem five_lt : (5 : Nat) < sizeLine := by rw [sizeLine_eq]; decide
theorem DA.put {k : Key} {v : V} {r' t' m' : Int} (h : DA F H0 H a l c rest turn mix ls cs) (e : putK (drK l c rest turn mix) k v = drK l c r' t' m') : DPut H a (L2.kV k) v (upd H a (.dK (drK l c r' t' m'))) ∧ DA F H0 (upd H a (.dK (drK l c r' t' m'))) a l c r' t' m' ls cs := by
  refine ⟨by rw [← e]; exact DPut.k h.ha five_lt, h.nal, h.nac, h.nlc, upd_same, by rw [upd_ne h.nal.symm]; exact h.hl, by rw [upd_ne h.nac.symm]; exact h.hc, fun b hb h1 h2 => by rw [upd_ne h1]; exact h.keep b hb h1 h2⟩
theorem DA.putR (h : DA F H0 H a l c rest turn mix ls cs) (n : Int) : DPut H a (.str "rest") (.int n) (upd H a (.dK (drK l c n turn mix))) ∧ DA F H0 (upd H a (.dK (drK l c n turn mix))) a l c n turn mix ls cs := h.put (k := .inr "rest") rfl
theorem DA.putT (h : DA F H0 H a l c rest turn mix ls cs) (n : Int) : DPut H a (.str "turn") (.int n) (upd H a (.dK (drK l c rest n mix))) ∧ DA F H0 (upd H a (.dK (drK l c rest n mix))) a l c rest n mix ls cs := h.put (k := .inr "turn") rfl
theorem DA.putM (h : DA F H0 H a l c rest turn mix ls cs) (n : Int) : DPut H a (.str "mix") (.int n) (upd H a (.dK (drK l c rest turn n))) ∧ DA F H0 (upd H a (.dK (drK l c rest turn n))) a l c rest turn n ls cs := h.put (k := .inr "mix") rfl
theorem DA.new (h : DA F H0 H a l c rest turn mix ls cs) {p : Addr} {o : HO} (hp : H p = none) (h0 : H0 p = none) : DA F H0 (upd H p o) a l c rest turn mix ls cs := by
  have n1 : a ≠ p := fun z => by subst z; rw [h.ha] at hp; cases hp
  have n2 : l ≠ p := fun z => by subst z; rw [h.hl] at hp; cases hp
  have n3 : c ≠ p := fun z => by subst z; rw [h.hc] at hp; cases hp
  refine ⟨h.nal, h.nac, h.nlc, by rw [upd_ne n1]; exact h.ha, by rw [upd_ne n2]; exact h.hl, by rw [upd_ne n3]; exact h.hc, fun b hb h1 h2 => ?_⟩
  have : b ≠ p := fun z => by subst z; exact hb h0
  rw [upd_ne this]; exact h.keep b hb h1 h2
theorem DA.pop (h : DA F H0 H a l c rest turn mix ls cs) (ls' : List Int) : DA F H0 (upd H l (.lst (lits ls'))) a l c rest turn mix ls' cs := by
  refine ⟨h.nal, h.nac, h.nlc, by rw [upd_ne h.nal]; exact h.ha, upd_same, by rw [upd_ne h.nlc.symm]; exact h.hc, fun b hb h1 h2 => by rw [upd_ne h2]; exact h.keep b hb h1 h2⟩
theorem DA.free (h : DA F H0 H a l c rest turn mix ls cs) (h1 : H0 a ≠ none) (h2 : H0 l ≠ none) {p : Addr} (hp : H p = none) : H0 p = none := by
  cases q : H0 p with
  | none => rfl
  | some o =>
    exfalso
    have n1 : p ≠ a := fun z => by subst z; rw [h.ha] at hp; cases hp
    have n2 : p ≠ l := fun z => by subst z; rw [h.hl] at hp; cases hp
    rw [h.keep p (by rw [q]; simp) n1 n2, q] at hp
    cases hp
end
theorem dp_lits {K : PySem.W.Frag} {H : Hp} {l : Addr} {ls : List Int} (h : H l = some (.lst (lits ls))) : Dp K H (.ref l) (.list (ls.map .int)) := by
  have r : RepL K (fun _ => none) H (ls.map D.int) (lits ls) := RepL.map K _ D.int V.int (fun _ => rfl) ls
  exact dp_of (K := K) (mg := fun _ => none) (Mono.refl H) (.lst (ls.map .int)) (.ref l) _ ⟨l, _, rfl, h, r⟩ (by show (toPs (ls.map D.int)).map PyData.list = _; rw [toPs_map (f := D.int) (g := PyData.int) (fun _ => rfl)]; rfl)
theorem shaped_ints (ls : List Int) : SeqAt.shaped (.list (ls.map .int)) = true := by
  have h1 : PyData.canLayAll0 (ls.map PyData.int) = true := canAll (g := PyData.int) fun _ _ => rfl
  have h2 : PyData.depthAll (ls.map PyData.int) ≤ 1 := depAll (g := PyData.int) fun _ _ => by simp [PyData.depth]
  unfold SeqAt.shaped
  have c : PyData.canLay0 (.list (ls.map .int)) = true := by rw [PyData.canLay0]; exact h1
  have d : PyData.depth (.list (ls.map .int)) ≤ 64 := by rw [PyData.depth]; omega
  rw [c, decide_eq_true d]
  rfl
theorem eqv_nil (ls : List Int) : PyData.eqv (.list (ls.map .int)) (.list []) = ls.isEmpty := by
  cases ls <;> rfl
theorem log2_small {n : Nat} (h : n < 1180591620717411303424) : n.log2 < 9000 := by
  by_cases h0 : n = 0
  · rw [h0]; decide +kernel
  · have h70 : n.log2 < 70 := (Nat.log2_lt h0).mpr (by simpa using h)
    omega
def tg (x : Str) : TE := tDGet (tVar 0) (tC (.str x))
def rDM : List V → Hp → VK → Prop := fun xs H Q => ∃ i j, xs = [V.int i, V.int j] ∧ CDivP i j ∧ ∀ p, H p = none → Q (.ref p) (upd H p (.tup [.int (i / j), .int (i % j)]))
def rInt1 : List V → Hp → VK → Prop := fun xs H Q => (∃ i, xs = [V.int i] ∧ Q (V.int i) H) ∨ ∃ k, xs = [V.bl k] ∧ Q (V.int (if k = true then 1 else 0)) H
def rPl : R2 := rI0 fun i j => .int (i + j)
def rMl : R2 := rI CMul fun i j => .int (i * j)
def rMd : R2 := rI (fun _ j => 0 < j) fun i j => .int (i % j)
def rPw : R2 := rI CPow fun i j => .int (i ^ j.toNat)
def t_takeEnd (K : PySem.W.Frag) : TS := tSeq (tAsg (tCB rDM (tCons (tg "rest") (tCons (tVar 1) tNil))) (gTup K 2 (gCons (gSub (tVar 0) (tC (.str "rest")) rSetD) (gCons (gName 3) gNil)))) (tRet (tVar 3))
def t_mix : TS := sDPut (tVar 0) (tC (.str "mix")) (tOp rMd (tCB rInt1 (tCons (tOp rPl (tOp rPl (tOp rMl (tg "mix") (tC (.int 69621))) (tOp rMl (tVar 2) (tC (.int 48271)))) (tC (.int 12345))) tNil)) (tC (.int 2147483629)))
def t_more (K : PySem.W.Frag) : TS := tSeq (sDPut (tVar 0) (tC (.str "turn")) (tOp rPl (tg "turn") (tC (.int 1)))) (tSeq (tFor (iList K (tOp rCat (tLst (tCons (tg "turn") tNil)) (tg "cells"))) (gName 2) t_mix)
  (sDPut (tVar 0) (tC (.str "rest")) (tOp rMd (tCB rInt1 (tCons (tOp rPw (tg "mix") (tC (.int 5))) tNil)) (tC (.int 2305843009213693951)))))
def t_take (K : PySem.W.Frag) : TS := tSeq (tIfS (tAnd (tTest (tOp rEq (tg "rest") (tC (.int 0)))) (tTest (tOp (rNeD K) (tg "large") (tLst tNil))))
  (sDPut (tVar 0) (tC (.str "rest")) (tBM K "list" rPopAt (tg "large") (tCons (tC (.int 0)) tNil)))
  (tIfS (tTest (tOp rEq (tg "rest") (tC (.int 0)))) (t_more K) tNext)) (t_takeEnd K)
section
variable {K : PySem.W.Frag} {F H0 H : Hp} {a l c : Addr} {rest turn mix : Int} {ls cs : List Int}
/-- the state's numbers are as they must be -/
structure DN (rest turn mix : Int) (ls cs : List Int) : Prop where
  r0 : 0 ≤ rest
  t0 : 0 ≤ turn
  m0 : 0 ≤ mix
  m1 : mix < 2147483629
  l0 : ls.length ≤ 63
  l1 : ∀ x ∈ ls, 0 ≤ x
  c0 : cs.length ≤ 63
theorem read_end (D : DA F H0 H a l c rest turn mix ls cs) (N : DN rest turn mix ls cs) (za : H0 a ≠ none) (zl : H0 l ≠ none) {n : Int} (hn : 0 < n) (hn2 : n < 1180591620717411303424) {E : Ends} (hq : ∀ m H' r, 0 ≤ m → m < n → DA F H0 H' a l c r turn mix ls cs → DN r turn mix ls cs → (∀ b, H0 b ≠ none → H' b ≠ none) → E.rt (.int m) H') {x2 x3 : Option V} :
    t_takeEnd K E [some (.ref a), some (.int n), x2, x3] H := by
  refine ⟨_, rfl, a, _, rfl, D.gRest, _, rfl, _, _, rfl, ⟨hn, PyProof.noPylong_of_log2 (log2_small (by omega))⟩, fun p hp => ?_⟩
  have hp0 := D.free za zl hp
  have D1 := D.new (o := .tup [.int (rest / n), .int (rest % n)]) hp hp0
  obtain ⟨u1, D2⟩ := D1.putR (rest / n)
  refine ⟨p, [.int (rest / n), .int (rest % n)], rfl, .inl (.inl upd_same), rfl, ?_⟩
  refine ⟨_, _, rfl, _, rfl, a, _, rfl, u1, _, _, rfl, rfl, _, rfl, ?_⟩
  refine hq _ _ _ (Int.emod_nonneg _ (by omega)) (Int.emod_lt_of_pos _ hn) D2 ⟨Int.ediv_nonneg N.r0 (by omega), N.t0, N.m0, N.m1, N.l0, N.l1, N.c0⟩ fun b hb => ?_
  by_cases e1 : b = a
  · subst e1; rw [D2.ha]; simp
  · by_cases e2 : b = l
    · subst e2; rw [D2.hl]; simp
    · rw [D2.keep b hb e1 e2]; exact hb
theorem read_more (D : DA F H0 H a l c rest turn mix ls cs) (N : DN rest turn mix ls cs) (za : H0 a ≠ none) (zl : H0 l ≠ none) {E : Ends} {x1 x2 x3 : Option V} (hq : ∀ H' r t m y2, DA F H0 H' a l c r t m ls cs → DN r t m ls cs → E.nx [some (.ref a), x1, y2, x3] H') :
    t_more K E [some (.ref a), x1, x2, x3] H := by
  obtain ⟨u1, D1⟩ := D.putT (turn + 1)
  refine ⟨_, rfl, a, _, rfl, D.gTurn, _, _, rfl, rfl, _, rfl, a, _, rfl, u1, ?_⟩
  have hs : (1 : Nat) ≤ sizeLine := by rw [sizeLine_eq]; decide
  refine ⟨_, rfl, a, _, rfl, D1.gTurn, hs, fun p hp => ?_⟩
  have D2 := D1.new (o := .lst [.int (turn + 1)]) hp (D1.free za zl hp)
  refine ⟨_, rfl, a, _, rfl, D2.gCells, p, c, [.int (turn + 1)], lits cs, rfl, rfl, upd_same, D2.hc, by have := N.c0; simp [lits, sizeLine_eq]; omega, fun q hq' => ?_⟩
  have D3 := D2.new (o := .lst ([.int (turn + 1)] ++ lits cs)) hq' (D2.free za zl hq')
  have n1 : q ≠ a := fun z => by subst z; rw [D2.ha] at hq'; cases hq'
  refine ⟨q, rfl, ⟨_, .inl (.inl upd_same)⟩, for_list (K := K) (a := q) (xs := lits ((turn + 1) :: cs)) (fun i σ H' => ∃ m y2, σ = [some (.ref a), x1, y2, x3] ∧ DA F H0 H' a l c rest (turn + 1) m ls cs ∧ 0 ≤ m ∧ m < 2147483629 ∧ H' q = some (.lst (lits ((turn + 1) :: cs)))) ⟨mix, x2, rfl, D3, N.m0, N.m1, upd_same⟩ (fun i σ H' _ ⟨_, _, _, _, _, _, h⟩ => .inl (.inl h)) ?_ ?_⟩
  · rintro i y σ H' hi ⟨m, y2, rfl, Di, m0, m1, hq2⟩
    obtain ⟨z, rfl⟩ : ∃ z, y = V.int z := by
      unfold lits at hi
      rw [List.getElem?_map] at hi
      cases e : ((turn + 1) :: cs)[i]? with
      | none => rw [e] at hi; cases hi
      | some z => rw [e] at hi; exact ⟨z, (Option.some.inj hi).symm⟩
    obtain ⟨u2, Dj⟩ := Di.putM ((m * 69621 + z * 48271 + 12345) % 2147483629)
    refine ⟨_, rfl, a, _, rfl, Di.gMix, _, _, rfl, rfl, .inr ⟨by decide, by decide⟩, _, rfl, _, _, rfl, rfl, .inr ⟨by decide, by decide⟩, _, _, rfl, rfl, _, _, rfl, rfl, .inl ⟨_, rfl, _, _, rfl, rfl, (by show (0 : Int) < _; decide), _, rfl, a, _, rfl, u2, ?_⟩⟩
    exact ⟨_, some (.int z), rfl, Dj, Int.emod_nonneg _ (by decide), Int.emod_lt_of_pos _ (by decide), by rw [upd_ne n1]; exact hq2⟩
  · rintro σ H' ⟨m, y2, rfl, Di, m0, m1, hq2⟩
    obtain ⟨u2, Dj⟩ := Di.putR ((m ^ (5 : Int).toNat) % 2305843009213693951)
    refine ⟨_, rfl, a, _, rfl, Di.gMix, _, _, rfl, rfl, ⟨by decide, by decide, by omega⟩, .inl ⟨_, rfl, _, _, rfl, rfl, (by show (0 : Int) < _; decide), _, rfl, a, _, rfl, u2, ?_⟩⟩
    exact hq _ _ _ _ _ Dj ⟨Int.emod_nonneg _ (by decide), by have := N.t0; omega, m0, m1, N.l0, N.l1, N.c0⟩
theorem read_take (D : DA F H0 H a l c rest turn mix ls cs) (N : DN rest turn mix ls cs) (za : H0 a ≠ none) (zl : H0 l ≠ none) {n : Int} (hn : 0 < n) (hn2 : n < 1180591620717411303424) {E : Ends} (hq : ∀ m H' r t mx ls', 0 ≤ m → m < n → DA F H0 H' a l c r t mx ls' cs → DN r t mx ls' cs → (∀ b, H0 b ≠ none → H' b ≠ none) → E.rt (.int m) H') :
    t_take K E [some (.ref a), some (.int n), none, none] H := by
  have fin : ∀ {H' : Hp} {r t mx : Int} {ls' : List Int} {x2 x3 : Option V}, DA F H0 H' a l c r t mx ls' cs → DN r t mx ls' cs → t_takeEnd K E [some (.ref a), some (.int n), x2, x3] H' := fun D' N' => read_end D' N' za zl hn hn2 fun m H' r h1 h2 h3 h4 h5 => hq m H' r _ _ _ h1 h2 h3 h4 h5
  -- the lower test, from a state whose rest is told
  have low : ∀ {H' : Hp} {r : Int}, DA F H0 H' a l c r turn mix ls cs → DN r turn mix ls cs → tIfS (tTest (tOp rEq (tg "rest") (tC (.int 0)))) (t_more K) tNext { E with nx := t_takeEnd K E } [some (.ref a), some (.int n), none, none] H' := by
    intro H' r D' N'
    refine ⟨_, rfl, a, _, rfl, D'.gRest, rfl, _, rfl, ite2 (fun _ => ?_) fun _ => ?_⟩
    · exact read_more D' N' za zl fun H2 r t m y2 D2 N2 => fin D2 N2
    · exact fin D' N'
  refine ⟨_, rfl, a, _, rfl, D.gRest, rfl, _, rfl, ite2 (fun hr => ?_) fun hr => iteF (low D N)⟩
  refine ⟨_, rfl, a, _, rfl, D.gLarge, (by rw [sizeLine_eq]; decide : (0 : Nat) ≤ sizeLine), fun p hp => ?_⟩
  have D1 := D.new (o := .lst []) hp (D.free za zl hp)
  have d2 : Dp K (upd H p (.lst [])) (.ref p) (.list []) := by
    have := dp_lits (K := K) (H := upd H p (.lst [])) (l := p) (ls := []) upd_same
    exact this
  refine ⟨_, _, dp_lits D1.hl, d2, shaped_ints ls, shaped_ints [], _, rfl, ?_⟩
  rw [eqv_nil]
  cases ls with
  | nil => exact iteF (low D1 N)
  | cons x ls =>
    refine iteT ?_
    have l2 : (lits (x :: ls)).length = ls.length + 1 := by simp [lits]
    refine ⟨_, rfl, a, _, rfl, D1.gLarge, .inl ⟨rfl, _, .inl (.inl D1.hl)⟩, l, lits (x :: ls), 0, 0, .int x, rfl, rfl, D1.hl, by decide, by decide, ?_, rfl, ?_⟩
    · unfold seqIndex?
      rw [l2]
      simp
    · have D3 := D1.pop ls
      obtain ⟨u4, D4⟩ := D3.putR x
      exact ⟨_, rfl, a, _, rfl, u4, fin D4 ⟨N.l1 x List.mem_cons_self, N.t0, N.m0, N.m1, by have := N.l0; simp at this; omega, fun y hy => N.l1 y (List.mem_cons_of_mem _ hy), N.c0⟩⟩
end
section
variable {K : PySem.W.Frag} {mg : Str → Option Value}
theorem sp_len {fs : FS} {n : Nat} {vs : List V} {H : Hp} {Q : VK} {E : XK} (h : spOf K mg fs n vs H Q E) : vs.length = n := by
  obtain ⟨c, args, Qp, Ep, ok, rfl, h1, h2, h3, _⟩ := h
  have := ok.len
  rw [h1, h2] at this
  simp at this
  omega
theorem take_sp {N : List Str} (hN : N.length = 4) {vs : List V} {H : Hp} {Q : VK} {E : XK} (h : spOf K mg fs__law_take 2 vs H Q E) : t_take K { nx := fun _ H' => Q .non H', rt := Q } (L2.start N vs) H := by
  have hl := sp_len h
  obtain ⟨c0, args, Qp, Ep, ok, rfl, h1, h2, h3, h4, ⟨n, rfl, hn, hn2, q⟩, h6, h7⟩ := h
  obtain ⟨v0, hv0, a, l, rfl, hft, dr⟩ := ok.own (i := 0) (b := true) (d := .draw) (by rw [h2]; rfl)
  obtain ⟨v1, hv1, rv1, _⟩ := ok.val (i := 1) (d := .int n) (by rw [h2]; rfl)
  have rv1' : v1 = .int n := rv1
  subst rv1'
  have ev : vs = [.ref a, .int n] := by
    match vs, hl, h1 with
    | [x, y], _, h1 =>
      rw [h1] at hv0 hv1
      simp at hv0 hv1
      rw [hv0, hv1]
  subst ev
  have hst : L2.start N [V.ref a, V.int n] = [some (V.ref a), some (V.int n), none, none] := by
    unfold L2.start
    rw [hN]
    rfl
  rw [hst]
  obtain ⟨nal, ⟨c, rest, turn, mix, ha, k1, k2, k3, k4, cs, hc, hcs⟩, ls, hl, hls, hlp⟩ := dr
  obtain ⟨fa, za⟩ := ok.out 0 a (by rw [hft]; simp)
  obtain ⟨fl, zl⟩ := ok.out 0 l (by rw [hft]; simp)
  have na : a ≠ c := fun z => by subst z; rw [hc] at fa; cases fa
  have nl : l ≠ c := fun z => by subst z; rw [hc] at fl; cases fl
  have D : DA c0.F c0.H c0.H a l c rest turn mix ls cs := ⟨nal, na, nl, ha, hl, ok.sub.lst hc, fun _ _ _ _ => rfl⟩
  refine read_take D ⟨k1, k2, k3, k4, hls, hlp, hcs⟩ za zl hn hn2 fun m H' r t mx ls' m0 m1 D' N' gr => ?_
  have own' : DrawAt c0.F H' a l := ⟨nal, ⟨c, r, t, mx, D'.ha, N'.r0, N'.t0, N'.m0, N'.m1, cs, hc, N'.c0⟩, ls', D'.hl, N'.l0, N'.l1⟩
  have sub' : Mono c0.F H' := fun b o e => by
    have e2 := ok.sub b o e
    have e3 := ok.sub.ne e
    have n1 : b ≠ a := fun z => by subst z; rw [e] at fa; cases fa
    have n2 : b ≠ l := fun z => by subst z; rw [e] at fl; cases fl
    rw [D'.keep b e3 n1 n2]; exact e2
  have tb' : LamX.Tabs HasT.T H' := tabs_keep ok.tabs fun b o e n => by
    rw [D'.keep b (by rw [e]; simp) (fun z => by subst z; rw [ha] at e; cases e; exact n True.intro) (fun z => by subst z; rw [hl] at e; cases e; exact n True.intro)]
    exact e
  have kp' : ∀ b, c0.F b = none → c0.H b ≠ none → tupCl c0.F H' b = none ∨ b = a ∨ b = l := fun b h1 h2 => by
    by_cases n1 : b = a
    · exact .inr (.inl n1)
    · by_cases n2 : b = l
      · exact .inr (.inr n2)
      · refine .inl ?_
        rcases tupCl_cases c0.F H' b with ⟨xs, e1, _⟩ | ⟨_, e2⟩
        · rw [D'.keep b h2 n1 n2] at e1
          rw [ok.tf b xs e1] at h1; cases h1
        · rw [e2]; exact h1
  have mm := tupCl_mono sub'
  have own'' : DrawAt (tupCl c0.F H') H' a l := by
    obtain ⟨z1, ⟨z2, z3, z4, z5, z6, z7, z8, z9, z10, z11, z12, z13⟩, z14⟩ := own'
    exact ⟨z1, ⟨z2, z3, z4, z5, z6, z7, z8, z9, z10, z11, mm.lst z12, z13⟩, z14⟩
  have n0 : ∀ b, (b = a ∨ b = l) → tupCl c0.F H' b = none := fun b hb => by
    obtain ⟨_, ⟨_, _, _, _, e1, _⟩, _, e2, _⟩ := own'
    rcases hb with rfl | rfl
    · rw [tupCl_not (by rw [e1]; intro xs z; cases z)]; exact fa
    · rw [tupCl_not (by rw [e2]; intro xs z; cases z)]; exact fl
  refine h7 (.int m) (tupCl c0.F H') H' (.val (.int m)) [.own true .draw, .val (.int n)] c0.fp ⟨mm, fun b hb1 hb2 hb3 _ => ⟨by
    rcases kp' b hb1 hb2 with q | q | q
    · exact q
    · exact absurd (by rw [hft, q]; simp) (hb3 0)
    · exact absurd (by rw [hft, q]; simp) (hb3 0), D'.keep b hb2 (fun z => hb3 0 (by rw [hft, z]; simp)) (fun z => hb3 0 (by rw [hft, z]; simp))⟩, gr⟩ (tupCl_sub sub') (tupCl_tf _ _) tb' ⟨rfl, fun i d hd => ?_, ok.disj⟩ rfl (q m m0 m1)
  match i, hd with
  | 0, hd =>
    cases hd
    refine ⟨.draw, .ref a, rfl, hv0, ⟨a, l, rfl, hft, own''⟩, fun b hb => ?_, Grw.refl _ _⟩
    rw [hft] at hb
    simp at hb
    rcases hb with rfl | rfl
    · exact ⟨n0 _ (.inl rfl), gr _ za⟩
    · exact ⟨n0 _ (.inr rfl), gr _ zl⟩
  | 1, hd => cases hd
  | i + 2, hd => simp at hd
end
def rAb : List V → Hp → VK → Prop := fun xs H Q => ∃ i, xs = [V.int i] ∧ Q (.int (if i < 0 then -i else i)) H
def rGe : R2 := rI0 fun i j => .bl (decide (i ≥ j))
def rLs (K : PySem.W.Frag) : List V → Hp → VK → Prop := fun xs H Q => ∃ p ys, xs = [.ref p] ∧ (SqL K H p ys ∨ SqT K H p ys) ∧ ∀ l, H l = none → Q (.ref l) (upd H l (.lst ys))
def t_begin (K : PySem.W.Frag) : TS := tSeq (tAsg (tLc (iList K (tVar 0)) (gName 2) (tTest (tOp rGe (tCB rAb (tCons (tVar 2) tNil)) (tOp rPw (tC (.int 10)) (tC (.int 18))))) (tCB rAb (tCons (tVar 2) tNil)) [2]) (gName 1))
  (tRet (tDisp [(tC (.str "large"), tVar 1), (tC (.str "cells"), tCB (rLs K) (tCons (tVar 0) tNil)), (tC (.str "rest"), tC (.int 0)), (tC (.str "turn"), tC (.int 0)), (tC (.str "mix"), tC (.int 7))]))
theorem lits_len (l : List Int) : (lits l).length = l.length := by simp [lits]
theorem lits_get {l : List Int} {i : Nat} {x : V} (h : (lits l)[i]? = some x) : ∃ z, x = .int z ∧ l[i]? = some z := by
  unfold lits at h
  rw [List.getElem?_map] at h
  cases e : l[i]? with
  | none => rw [e] at h; cases h
  | some z => rw [e] at h; exact ⟨z, (Option.some.inj h).symm, rfl⟩
section
variable {K : PySem.W.Frag}
theorem read_begin {H0 : Hp} {a : Addr} {ns : List Int} (ha : SqL K H0 a (lits ns)) (hn : ns.length ≤ 63) {E : Ends}
    (hq : ∀ A D q H' ls, A ≠ D → H0 A = none → H0 D = none → H0 q = none → q ≠ A → q ≠ D → H' A = some (.dK (drK D q 0 0 7)) → H' D = some (.lst (lits ls)) → H' q = some (.lst (lits ns)) → ls.length ≤ 63 → (∀ x ∈ ls, 0 ≤ x) → (∀ b, H0 b ≠ none → H' b = H0 b) → E.rt (.ref A) H') :
    t_begin K E [some (.ref a), none, none] H0 := by
  have hz : (63 : Nat) < sizeLine := by rw [sizeLine_eq]; decide
  refine ⟨_, rfl, a, rfl, ⟨_, ha⟩, fun D hD => ?_⟩
  refine lc_list (K := K) (a := a) (xs := lits ns) (fun i H' => ∃ acc : List Int, H' D = some (.lst (lits acc)) ∧ acc.length ≤ i ∧ (∀ x ∈ acc, 0 ≤ x) ∧ ∀ b, H0 b ≠ none → H' b = H0 b) ⟨[], upd_same, Nat.le_refl _, (fun x hx => absurd hx (by simp)), fun b hb => upd_ne (fun z => by subst z; exact hb hD)⟩ (fun i H' _ ⟨_, _, _, _, k⟩ => Mono.sqL K (.of fun b o e => by rw [k b (by rw [e]; simp)]; exact e) ha) ?_ ?_
  · rintro i x H' hi ⟨acc, h1, h2, h3, h4⟩
    obtain ⟨z, rfl, hz1⟩ := lits_get hi
    have hil : i < ns.length := (List.getElem?_eq_some_iff.mp hz1).1
    refine ⟨rfl, _, rfl, _, rfl, _, _, rfl, rfl, ⟨by decide, by decide, by decide⟩, _, _, rfl, rfl, _, rfl, ite2 (fun _ => ?_) fun _ => ⟨acc, h1, by omega, h3, h4⟩⟩
    refine ⟨_, rfl, _, rfl, lits acc, h1, by rw [lits_len]; omega, acc ++ [if z < 0 then -z else z], ?_, by simp; omega, fun y hy => ?_, fun b hb => ?_⟩
    · rw [upd_same]; simp [lits]
    · rcases List.mem_append.mp hy with hy | hy
      · exact h3 y hy
      · rw [List.mem_singleton.mp hy]; split <;> omega
    · rw [upd_ne (fun w => by subst w; exact hb hD)]; exact h4 b hb
  · rintro H' ⟨ls, h1, h2, h3, h4⟩
    rw [lits_len] at h2
    intro A hA
    have eDA : D ≠ A := fun z => by subst z; rw [h1] at hA; cases hA
    have k0 : ∀ {b}, H' b = none → H0 b = none := fun {b} hb => by
      cases q : H0 b with
      | none => rfl
      | some o => rw [h4 b (by rw [q]; simp), q] at hb; cases hb
    have hs : SqL K (upd H' A (.dK [])) a (lits ns) := Mono.sqL K (.of fun b o e => by
      have hb : H0 b ≠ none := by rw [e]; simp
      rw [upd_ne (fun z => by subst z; exact hb (k0 hA)), h4 b hb]; exact e) ha
    refine ⟨_, rfl, _, rfl, a, lits ns, rfl, .inl hs, fun q hq' => ?_⟩
    have eqA : q ≠ A := fun z => by subst z; rw [upd_same] at hq'; cases hq'
    have hq2 : H' q = none := by rw [upd_ne eqA] at hq'; exact hq'
    have eqD : q ≠ D := fun z => by subst z; rw [h1] at hq2; cases hq2
    refine ⟨by rw [upd_ne eqA.symm, upd_same], [(.inr "large", .ref D), (.inr "cells", .ref q), (.inr "rest", .int 0), (.inr "turn", .int 0), (.inr "mix", .int 7)], rfl, ?_, ?_⟩
    · show (5 : Nat) ≤ _
      decide
    · refine hq A D q _ ls eDA.symm (k0 hA) hD (k0 hq2) eqA eqD upd_same ?_ ?_ (by omega) h3 fun b hb => ?_
      · rw [upd_ne eDA, upd_ne eqD.symm, upd_ne eDA]; exact h1
      · rw [upd_ne eqA, upd_same]
      · have n1 : b ≠ A := fun z => by subst z; exact hb (k0 hA)
        have n2 : b ≠ q := fun z => by subst z; exact hb (k0 hq2)
        rw [upd_ne n1, upd_ne n2, upd_ne n1]; exact h4 b hb
end
section
variable {K : PySem.W.Frag} {mg : Str → Option Value}
theorem lits_of {F : Hp} : ∀ {ns : List Int} {xs : List V}, RepL K mg F (ns.map .int) xs → xs = lits ns
  | [], xs, h => h
  | n :: ns, xs, h => by
    obtain ⟨x, r, rfl, h1, h2⟩ := h
    have h1' : x = .int n := h1
    rw [lits_of h2, h1']
    rfl
theorem begin_sp {N : List Str} (hN : N.length = 3) {vs : List V} {H : Hp} {Q : VK} {E : XK} (h : spOf K mg fs__law_begin 1 vs H Q E) : t_begin K { nx := fun _ H' => Q .non H', rt := Q } (L2.start N vs) H := by
  have hl := sp_len h
  obtain ⟨c0, args, Qp, Ep, ok, rfl, h1, h2, h3, h4, ⟨ns, rfl, hn, q⟩, h6, h7⟩ := h
  obtain ⟨v0, hv0, ⟨a, xs, rfl, hs, hr⟩, _⟩ := ok.val (i := 0) (d := .kst (ns.map .int)) (by rw [h2]; rfl)
  have exs := lits_of hr
  subst exs
  have ev : vs = [.ref a] := by
    match vs, hl, h1 with
    | [x], _, h1 =>
      rw [h1] at hv0
      simp at hv0
      rw [hv0]
  subst ev
  have hst : L2.start N [V.ref a] = [some (V.ref a), none, none] := by
    unfold L2.start
    rw [hN]
    rfl
  rw [hst]
  refine read_begin (Mono.sqL K ok.sub hs) hn fun A D p H' ls nAD zA zD zp npA npD hA hD hp l0 l1 kp => ?_
  have fA := fresh_F ok.sub zA
  have fD := fresh_F ok.sub zD
  have fp := fresh_F ok.sub zp
  have m := mono_upd (o := .lst (lits ns)) fp
  have own' : DrawAt (upd c0.F p (.lst (lits ns))) H' A D := ⟨nAD, ⟨p, 0, 0, 7, hA, by decide, by decide, by decide, by decide, ns, upd_same, hn⟩, ls, hD, l0, l1⟩
  have s1 : Mono (upd c0.F p (.lst (lits ns))) H' := fun b o e => by
    by_cases hb : b = p
    · subst hb; rw [upd_same] at e; cases e; exact ⟨_, hp, .refl _⟩
    · rw [upd_ne hb] at e
      rw [kp b (ok.sub.ne e)]; exact ok.sub b o e
  have mm := tupCl_mono s1
  have own'' : DrawAt (tupCl (upd c0.F p (.lst (lits ns))) H') H' A D := by
    obtain ⟨z1, ⟨z2, z3, z4, z5, z6, z7, z8, z9, z10, z11, z12, z13⟩, z14⟩ := own'
    exact ⟨z1, ⟨z2, z3, z4, z5, z6, z7, z8, z9, z10, z11, mm.lst z12, z13⟩, z14⟩
  refine h7 (.ref A) (tupCl (upd c0.F p (.lst (lits ns))) H') H' (.tmp .draw) (vals [.kst (ns.map .int)]) (fun _ => []) ⟨m.trans mm, fun b hb1 hb2 _ _ => ⟨?_, kp b hb2⟩, fun b hb => by rw [kp b hb]; exact hb⟩ (tupCl_sub s1) (tupCl_tf _ _) (ok.tabs.ext fun b o e => by rw [kp b (by rw [e]; simp)]; exact e) ⟨rfl, fun i d hd => ?_, fun i j b hb => by cases hb⟩ ⟨[A, D], ⟨A, D, rfl, rfl, own''⟩, fun b hb => ?_⟩ q
  · have n1 : b ≠ p := fun z => by subst z; exact hb2 zp
    rcases tupCl_cases (upd c0.F p (.lst (lits ns))) H' b with ⟨xs, e1, _⟩ | ⟨_, e2⟩
    · rw [kp b hb2] at e1
      rw [ok.tf b xs e1] at hb1; cases hb1
    · rw [e2, upd_ne n1]; exact hb1
  · match i, hd with
    | 0, hd => cases hd
    | i + 1, hd => simp at hd
  · simp at hb
    rcases hb with rfl | rfl
    · exact ⟨by rw [tupCl_not (by rw [hA]; intro xs z; cases z), upd_ne npA.symm]; exact fA, by rw [hA]; simp, zA, fun _ z => by cases z⟩
    · exact ⟨by rw [tupCl_not (by rw [hD]; intro xs z; cases z), upd_ne npD.symm]; exact fD, by rw [hD]; simp, zD, fun _ z => by cases z⟩
end
end PL
namespace PL.K4
open PySem PySem.Spec PyProof.Rows L2
variable [HasT]
structure Tx (K : PySem.W.Frag) (mg : Str → Option Value) : Prop where
  n_all : mg "all" = none
  n_any : mg "any" = none
  n_bool : mg "bool" = none
  n_dict : mg "dict" = none
  n_enumerate : mg "enumerate" = none
  n_int : mg "int" = none
  n_isinstance : mg "isinstance" = none
  n_len : mg "len" = none
  n_list : mg "list" = none
  n_max : mg "max" = none
  n_min : mg "min" = none
  n_range : mg "range" = none
  n_set : mg "set" = none
  n_sorted : mg "sorted" = none
  n_str : mg "str" = none
  n_sum : mg "sum" = none
  n_tuple : mg "tuple" = none
  n_zip : mg "zip" = none
  c_ALPHABET : ∃ u, mg "ALPHABET" = some u ∧ RelV (.str "abcdefghijklmnopqrstuvwxyz") u
  c_MOST_NUMBER : ∃ u, mg "MOST_NUMBER" = some u ∧ RelV (.int 255) u
  c_MOST_SIGNS : ∃ u, mg "MOST_SIGNS" = some u ∧ RelV (.int 6) u
section
variable {P : Program} {w : World} {K : PySem.W.Frag} {mg : Str → Option Value} {base : Heap}
abbrev N__law_take : List Str := ["_law_draw", "_law_size", "_law_cell", "_law_found"]
theorem sc__law_take : FnScope N__law_take ["_law_draw", "_law_size"] (defScope s__law_take) := ⟨rfl, rfl, rfl, by decide +kernel, rfl, by decide +kernel, by decide +kernel⟩
theorem ok__law_take {dvs0 : List V} {kws0 : List (Str × V)} {f : Addr} {fd : FuncData} (n_int : mg "int" = none) (n_divmod : mg "divmod" = none) (D0 : FunD K "_law_take" "_law_take" (defArgs s__law_take) (defBody s__law_take) (defScope s__law_take) dvs0 kws0 f fd) :
    FnOk P w K mg base (L2N.CX P w) 1 f fd ["_law_draw", "_law_size"] (spOf K mg fs__law_take 2) := by
  refine FunD.ok (CX := L2N.CX P w) D0 sc__law_take (fun vs H Q E h => sp_len h) (fun cdv A outer s H vs Q E hr h => ?_)
  have hu := hr.units
  have hu1 : (A.deeper (envOfC "_law_take" (defScope s__law_take) s.heap.objs.size f cdv)).units + 1 < cLine := Nat.lt_of_le_of_lt (by omega) hu
  refine ⟨t_take K, pss_cons (ps_if (PW.pt (pw_and (pt_cmpR op_eq (pe_dget hu1 (pv 0) pe_str (fun _ _ => rfl)) pe_int (nomark _)) (pw_and1 (pt_cmpR (op_neD hu) (pe_dget hu1 (pv 0) pe_str (fun _ _ => rfl)) (pe_lst pa_nil) (nomark _)))))
        (pss_one (ps_dput hu1 (pv 0) pe_str (pe_bm PySem.F.plainAttrs_list PySem.F.slot_list_pop PySem.F.type_list_pop mt_popAt (pe_dget hu1 (pv 0) pe_str (fun _ _ => rfl)) (pa_cons pe_int pa_nil)) rfl))
        (pss_one (ps_if (pt_cmpR op_eq (pe_dget hu1 (pv 0) pe_str (fun _ _ => rfl)) pe_int (nomark _))
          (pss_cons (ps_dput hu1 (pv 0) pe_str (pe_op op_add (pe_dget hu1 (pv 0) pe_str (fun _ _ => rfl)) pe_int) rfl)
            (pss_cons (ps_for (passes_of rfl) rfl (pi_list (pe_op op_cat (pe_lst (pa_cons (pe_dget hu1 (pv 0) pe_str (fun _ _ => rfl)) pa_nil)) (pe_dget hu1 (pv 0) pe_str (fun _ _ => rfl)))) (pg_name (i := 2) sc__law_take.nd rfl (.inl rfl))
              (pss_one (ps_dput hu1 (pv 0) pe_str (pe_op op_mod (pe_callTy call_int1 (by rfl) n_int boot_int (pa_cons (pe_op op_add (pe_op op_add (pe_op op_mul (pe_dget hu1 (pv 0) pe_str (fun _ _ => rfl)) pe_int) (pe_op op_mul (pv 2) pe_int)) pe_int) pa_nil)) pe_int) rfl)))
            (pss_one (ps_dput hu1 (pv 0) pe_str (pe_op op_mod (pe_callTy call_int1 (by rfl) n_int boot_int (pa_cons (pe_op op_pow (pe_dget hu1 (pv 0) pe_str (fun _ _ => rfl)) pe_int) pa_nil)) pe_int) rfl))))
          pss_nil)))
      (pss_cons (ps_asg (pe_callB call_divmodW (by rfl) n_divmod boot_divmod (pa_cons (pe_dget hu1 (pv 0) pe_str (fun _ _ => rfl)) (pa_cons (pv 1) pa_nil))) (pg_tup rfl (pgs_cons (pg_sub (pv 0) pe_str (set_dict hu1)) (pgs_cons (pg_name (i := 3) sc__law_take.nd rfl (.inl rfl)) pgs_nil))))
        (pss_one (ps_ret (pv 3)))), take_sp rfl h⟩
abbrev N__law_begin : List Str := ["_law_script", "_law_large", "_law_cell"]
theorem sc__law_begin : FnScope N__law_begin ["_law_script"] (defScope s__law_begin) := ⟨rfl, rfl, rfl, by decide +kernel, rfl, by decide +kernel, by decide +kernel⟩
theorem ok__law_begin {dvs0 : List V} {kws0 : List (Str × V)} {f : Addr} {fd : FuncData} (n_abs : mg "abs" = none) (n_list : mg "list" = none) (D0 : FunD K "_law_begin" "_law_begin" (defArgs s__law_begin) (defBody s__law_begin) (defScope s__law_begin) dvs0 kws0 f fd) :
    FnOk P w K mg base (L2N.CX P w) 1 f fd ["_law_script"] (spOf K mg fs__law_begin 1) := by
  refine FunD.ok (CX := L2N.CX P w) D0 sc__law_begin (fun vs H Q E h => sp_len h) (fun cdv A outer s H vs Q E hr h => ?_)
  refine ⟨t_begin K, pss_cons (ps_setLc (i := 1) (own := [("_law_cell", 2)]) (g := gName 2) rfl sc__law_begin.nd rfl rfl (sw_true rfl rfl rfl (by decide +kernel)) (pi_list (pv 0)) (blkOk_by (N := N__law_begin) (sc := defScope s__law_begin) (own := [("_law_cell", 2)]) (by decide +kernel))
      (fun _ _ _ _ _ => pg_name (i := 2) sc__law_begin.nd rfl (.inl rfl))
      (fun _ _ _ _ _ => pts_one (pt_cmpR op_ge (pe_callB call_abs (by rfl) n_abs boot_abs (pa_cons (pv 2) pa_nil)) (pe_op op_pow pe_int pe_int) (nomark _)))
      (fun _ _ _ _ _ => pe_callB call_abs (by rfl) n_abs boot_abs (pa_cons (pv 2) pa_nil)))
    (pss_one (ps_ret (pe_disp (pps_cons pe_str (pv 1) (pps_cons pe_str (pe_callTy call_list_of (by rfl) n_list boot_list (pa_cons (pv 0) pa_nil)) (pps_cons pe_str pe_int (pps_cons pe_str pe_int (pps_cons pe_str pe_int pps_nil))))) rfl rfl (by simp) (by decide)))), begin_sp rfl h⟩
abbrev N_is_number : List Str := ["value"]
theorem sc_is_number : FnScope N_is_number ["value"] (defScope s_is_number) := ⟨rfl, rfl, rfl, by decide +kernel, rfl, by decide +kernel, by decide +kernel⟩
theorem ok_is_number {dvs0 : List V} {kws0 : List (Str × V)} {f : Addr} {fd : FuncData} (T : Tx K mg)  (D0 : FunD K "is_number" "is_number" (defArgs s_is_number) (defBody s_is_number) (defScope s_is_number) dvs0 kws0 f fd) :
    FnOk P w K mg base (L2N.CX P w) 1 f fd ["value"] (spOf K mg fs_is_number 1) := by
  exact fn_pd (k := 0) (ws := w_is_number) (N := N_is_number) D0 sc_is_number (fun cdv A outer s H E C =>
    pss_1 (pst_ret (pd_and (go_isT .int T.n_isinstance T.n_int (by decide +kernel) (pd_var (pv 0))) (pd_and (pd_not (go_isT .bl T.n_isinstance T.n_bool (by decide +kernel) (pd_var (pv 0)))) (pd_one (go_lele (pd_int) (pd_var (pv 0)) (go_gc T.c_MOST_NUMBER (fun _ => rfl)))))))) sp_is_number
abbrev N_is_name : List Str := ["value", "sign"]
theorem sc_is_name : FnScope N_is_name ["value"] (defScope s_is_name) := ⟨rfl, rfl, rfl, by decide +kernel, rfl, by decide +kernel, by decide +kernel⟩
theorem ok_is_name {dvs0 : List V} {kws0 : List (Str × V)} {f : Addr} {fd : FuncData} (T : Tx K mg)  (D0 : FunD K "is_name" "is_name" (defArgs s_is_name) (defBody s_is_name) (defScope s_is_name) dvs0 kws0 f fd) :
    FnOk P w K mg base (L2N.CX P w) 1 f fd ["value"] (spOf K mg fs_is_name 1) := by
  exact fn_pd (k := 0) (ws := w_is_name) (N := N_is_name) D0 sc_is_name (fun cdv A outer s H E C =>
    pss_c (pst_if (pt_w (pw_o (pt_n (pt_b (go_isT .str T.n_isinstance T.n_str (by decide +kernel) (pd_var (pv 0))))) (pw_o1 (pt_n (to_lele (pd_int) (go_len T.n_len (pv_cons (pd_var (pv 0)) (pv_nil))) (go_gc T.c_MOST_SIGNS (fun _ => rfl))))))) (pss_1 (pst_ret (pd_bl))) (pss_0))
    (pss_1 (pst_ret (go_all C T.n_all (pv_cons (pd_lc (own := [("sign", 1)]) C sc_is_name.nd (pi_src (pd_var (pv 0))) (blkOk_by (N := N_is_name) (sc := defScope s_is_name) (own := [("sign", 1)]) (by decide +kernel)) (fun i1 => pg_n (i := 1) sc_is_name.nd) (fun i1 => pts_0) (fun i1 => go_inS (pd_var (pv 1)) (go_gc T.c_ALPHABET (fun _ => rfl)))) (pv_nil)))))) sp_is_name
abbrev N_is_range : List Str := ["value", "one"]
theorem sc_is_range : FnScope N_is_range ["value"] (defScope s_is_range) := ⟨rfl, rfl, rfl, by decide +kernel, rfl, by decide +kernel, by decide +kernel⟩
theorem ok_is_range {dvs0 : List V} {kws0 : List (Str × V)} {f : Addr} {fd : FuncData} (T : Tx K mg) {f_is_number : Addr} {d_is_number : FuncData} (G_is_number : DfAt P w K mg base "is_number" f_is_number d_is_number ["value"] 1 fs_is_number) (D0 : FunD K "is_range" "is_range" (defArgs s_is_range) (defBody s_is_range) (defScope s_is_range) dvs0 kws0 f fd) :
    FnOk P w K mg base (L2N.CX P w) 2 f fd ["value"] (spOf K mg fs_is_range 1) := by
  exact fn_pd (k := 1) (ws := w_is_range) (N := N_is_range) D0 sc_is_range (fun cdv A outer s H E C =>
    pss_c (pst_if (pt_w (pw_o (pt_n (pt_b (go_isT .tup T.n_isinstance T.n_tuple (by decide +kernel) (pd_var (pv 0))))) (pw_o (to_ne C (go_len T.n_len (pv_cons (pd_var (pv 0)) (pv_nil))) (pd_int)) (pw_o1 (pt_n (pt_b (go_all C T.n_all (pv_cons (pd_lc (own := [("one", 1)]) C sc_is_range.nd (pi_src (pd_var (pv 0))) (blkOk_by (N := N_is_range) (sc := defScope s_is_range) (own := [("one", 1)]) (by decide +kernel)) (fun i2 => pg_n (i := 1) sc_is_range.nd) (fun i2 => pts_0) (fun i2 => pd_call (C.blk i2) G_is_number.fn (by decide) G_is_number.mx G_is_number.kp G_is_number.bd .nil (fun _ => rfl) (pv_consK (pd_var (pv 1)) (pv_nil)))) (pv_nil))))))))) (pss_1 (pst_ret (pd_bl))) (pss_0))
    (pss_1 (pst_ret (go_le (go_ix (pd_var (pv 0)) (pd_int)) (go_ix (pd_var (pv 0)) (pd_int)))))) sp_is_range
abbrev N_is_end : List Str := ["value", "one"]
theorem sc_is_end : FnScope N_is_end ["value"] (defScope s_is_end) := ⟨rfl, rfl, rfl, by decide +kernel, rfl, by decide +kernel, by decide +kernel⟩
theorem ok_is_end {dvs0 : List V} {kws0 : List (Str × V)} {f : Addr} {fd : FuncData} (T : Tx K mg) {f_is_number : Addr} {d_is_number : FuncData} (G_is_number : DfAt P w K mg base "is_number" f_is_number d_is_number ["value"] 1 fs_is_number) (D0 : FunD K "is_end" "is_end" (defArgs s_is_end) (defBody s_is_end) (defScope s_is_end) dvs0 kws0 f fd) :
    FnOk P w K mg base (L2N.CX P w) 2 f fd ["value"] (spOf K mg fs_is_end 1) := by
  exact fn_pd (k := 1) (ws := w_is_end) (N := N_is_end) D0 sc_is_end (fun cdv A outer s H E C =>
    pss_1 (pst_ret (pd_and (go_isT .tup T.n_isinstance T.n_tuple (by decide +kernel) (pd_var (pv 0))) (pd_and (go_eq C (go_len T.n_len (pv_cons (pd_var (pv 0)) (pv_nil))) (pd_int)) (pd_one (go_all C T.n_all (pv_cons (pd_lc (own := [("one", 1)]) C sc_is_end.nd (pi_src (pd_var (pv 0))) (blkOk_by (N := N_is_end) (sc := defScope s_is_end) (own := [("one", 1)]) (by decide +kernel)) (fun i3 => pg_n (i := 1) sc_is_end.nd) (fun i3 => pts_0) (fun i3 => pd_call (C.blk i3) G_is_number.fn (by decide) G_is_number.mx G_is_number.kp G_is_number.bd .nil (fun _ => rfl) (pv_consK (pd_var (pv 1)) (pv_nil)))) (pv_nil)))))))) sp_is_end
abbrev N_is_packet : List Str := ["value"]
theorem sc_is_packet : FnScope N_is_packet ["value"] (defScope s_is_packet) := ⟨rfl, rfl, rfl, by decide +kernel, rfl, by decide +kernel, by decide +kernel⟩
theorem ok_is_packet {dvs0 : List V} {kws0 : List (Str × V)} {f : Addr} {fd : FuncData} (T : Tx K mg) {f_is_end : Addr} {d_is_end : FuncData} (G_is_end : DfAt P w K mg base "is_end" f_is_end d_is_end ["value"] 2 fs_is_end) {f_is_name : Addr} {d_is_name : FuncData} (G_is_name : DfAt P w K mg base "is_name" f_is_name d_is_name ["value"] 1 fs_is_name) (D0 : FunD K "is_packet" "is_packet" (defArgs s_is_packet) (defBody s_is_packet) (defScope s_is_packet) dvs0 kws0 f fd) :
    FnOk P w K mg base (L2N.CX P w) 3 f fd ["value"] (spOf K mg fs_is_packet 1) := by
  exact fn_pd (k := 2) (ws := w_is_packet) (N := N_is_packet) D0 sc_is_packet (fun cdv A outer s H E C =>
    pss_1 (pst_ret (pd_and (go_isT .tup T.n_isinstance T.n_tuple (by decide +kernel) (pd_var (pv 0))) (pd_and (go_eq C (go_len T.n_len (pv_cons (pd_var (pv 0)) (pv_nil))) (pd_int)) (pd_and (pd_call C G_is_name.fn (by decide) G_is_name.mx G_is_name.kp G_is_name.bd .nil (fun _ => rfl) (pv_consK (go_ix (pd_var (pv 0)) (pd_int)) (pv_nil))) (pd_and (pd_call C G_is_end.fn (by decide) G_is_end.mx G_is_end.kp G_is_end.bd .nil (fun _ => rfl) (pv_consK (go_ix (pd_var (pv 0)) (pd_int)) (pv_nil))) (pd_one (pd_call C G_is_end.fn (by decide) G_is_end.mx G_is_end.kp G_is_end.bd .nil (fun _ => rfl) (pv_consK (go_ix (pd_var (pv 0)) (pd_int)) (pv_nil)))))))))) sp_is_packet
abbrev N_are_ranges : List Str := ["value", "one"]
theorem sc_are_ranges : FnScope N_are_ranges ["value"] (defScope s_are_ranges) := ⟨rfl, rfl, rfl, by decide +kernel, rfl, by decide +kernel, by decide +kernel⟩
theorem ok_are_ranges {dvs0 : List V} {kws0 : List (Str × V)} {f : Addr} {fd : FuncData} (T : Tx K mg) {f_is_range : Addr} {d_is_range : FuncData} (G_is_range : DfAt P w K mg base "is_range" f_is_range d_is_range ["value"] 2 fs_is_range) (D0 : FunD K "are_ranges" "are_ranges" (defArgs s_are_ranges) (defBody s_are_ranges) (defScope s_are_ranges) dvs0 kws0 f fd) :
    FnOk P w K mg base (L2N.CX P w) 3 f fd ["value"] (spOf K mg fs_are_ranges 1) := by
  exact fn_pd (k := 2) (ws := w_are_ranges) (N := N_are_ranges) D0 sc_are_ranges (fun cdv A outer s H E C =>
    pss_1 (pst_ret (pd_and (go_eq C (go_len T.n_len (pv_cons (pd_var (pv 0)) (pv_nil))) (pd_int)) (pd_one (go_all C T.n_all (pv_cons (pd_lc (own := [("one", 1)]) C sc_are_ranges.nd (pi_src (pd_var (pv 0))) (blkOk_by (N := N_are_ranges) (sc := defScope s_are_ranges) (own := [("one", 1)]) (by decide +kernel)) (fun i4 => pg_n (i := 1) sc_are_ranges.nd) (fun i4 => pts_0) (fun i4 => pd_call (C.blk i4) G_is_range.fn (by decide) G_is_range.mx G_is_range.kp G_is_range.bd .nil (fun _ => rfl) (pv_consK (pd_var (pv 1)) (pv_nil)))) (pv_nil))))))) sp_are_ranges
abbrev N_is_block : List Str := ["value"]
theorem sc_is_block : FnScope N_is_block ["value"] (defScope s_is_block) := ⟨rfl, rfl, rfl, by decide +kernel, rfl, by decide +kernel, by decide +kernel⟩
theorem ok_is_block {dvs0 : List V} {kws0 : List (Str × V)} {f : Addr} {fd : FuncData} (T : Tx K mg) {f_are_ranges : Addr} {d_are_ranges : FuncData} (G_are_ranges : DfAt P w K mg base "are_ranges" f_are_ranges d_are_ranges ["value"] 3 fs_are_ranges) {f_is_name : Addr} {d_is_name : FuncData} (G_is_name : DfAt P w K mg base "is_name" f_is_name d_is_name ["value"] 1 fs_is_name) (D0 : FunD K "is_block" "is_block" (defArgs s_is_block) (defBody s_is_block) (defScope s_is_block) dvs0 kws0 f fd) :
    FnOk P w K mg base (L2N.CX P w) 4 f fd ["value"] (spOf K mg fs_is_block 1) := by
  exact fn_pd (k := 3) (ws := w_is_block) (N := N_is_block) D0 sc_is_block (fun cdv A outer s H E C =>
    pss_1 (pst_ret (pd_and (go_isT .tup T.n_isinstance T.n_tuple (by decide +kernel) (pd_var (pv 0))) (pd_and (go_eq C (go_len T.n_len (pv_cons (pd_var (pv 0)) (pv_nil))) (pd_int)) (pd_and (pd_call C G_is_name.fn (by decide) G_is_name.mx G_is_name.kp G_is_name.bd .nil (fun _ => rfl) (pv_consK (go_ix (pd_var (pv 0)) (pd_int)) (pv_nil))) (pd_one (pd_call C G_are_ranges.fn (by decide) G_are_ranges.mx G_are_ranges.kp G_are_ranges.bd .nil (fun _ => rfl) (pv_consK (pd_slice (pd_var (pv 0)) (pso_some (pd_int)) (pso_none)) (pv_nil))))))))) sp_is_block
abbrev N_turned_block : List Str := ["block"]
theorem sc_turned_block : FnScope N_turned_block ["block"] (defScope s_turned_block) := ⟨rfl, rfl, rfl, by decide +kernel, rfl, by decide +kernel, by decide +kernel⟩
theorem ok_turned_block {dvs0 : List V} {kws0 : List (Str × V)} {f : Addr} {fd : FuncData} (_T : Tx K mg)  (D0 : FunD K "turned_block" "turned_block" (defArgs s_turned_block) (defBody s_turned_block) (defScope s_turned_block) dvs0 kws0 f fd) :
    FnOk P w K mg base (L2N.CX P w) 1 f fd ["block"] (spOf K mg fs_turned_block 1) := by
  exact fn_pd (k := 0) (ws := w_turned_block) (N := N_turned_block) D0 sc_turned_block (fun cdv A outer s H E C =>
    pss_1 (pst_ret (pd_tup (pk_cons (go_ix (pd_var (pv 0)) (pd_int)) (pk_cons (go_ix (pd_var (pv 0)) (pd_int)) (pk_cons (go_ix (pd_var (pv 0)) (pd_int)) (pk_cons (go_ix (pd_var (pv 0)) (pd_int)) (pk_cons (go_ix (pd_var (pv 0)) (pd_int)) (pk_nil))))))))) sp_turned_block
abbrev N_has_packet : List Str := ["block", "packet", "kind", "source", "source_port", "target", "target_port", "numbers", "low", "high", "number"]
theorem sc_has_packet : FnScope N_has_packet ["block", "packet"] (defScope s_has_packet) := ⟨rfl, rfl, rfl, by decide +kernel, rfl, by decide +kernel, by decide +kernel⟩
theorem ok_has_packet {dvs0 : List V} {kws0 : List (Str × V)} {f : Addr} {fd : FuncData} (T : Tx K mg)  (D0 : FunD K "has_packet" "has_packet" (defArgs s_has_packet) (defBody s_has_packet) (defScope s_has_packet) dvs0 kws0 f fd) :
    FnOk P w K mg base (L2N.CX P w) 1 f fd ["block", "packet"] (spOf K mg fs_has_packet 2) := by
  exact fn_pd (k := 0) (ws := w_has_packet) (N := N_has_packet) D0 sc_has_packet (fun cdv A outer s H E C =>
    pss_c (pst_asg (pd_var (pv 1)) (pg_u (by rfl) (pgs_c (pg_n (i := 2) sc_has_packet.nd) (pgs_c (pg_u (by rfl) (pgs_c (pg_n (i := 3) sc_has_packet.nd) (pgs_c (pg_n (i := 4) sc_has_packet.nd) (pgs_0)))) (pgs_c (pg_u (by rfl) (pgs_c (pg_n (i := 5) sc_has_packet.nd) (pgs_c (pg_n (i := 6) sc_has_packet.nd) (pgs_0)))) (pgs_0))))))
    (pss_c (pst_if (to_ne C (go_ix (pd_var (pv 0)) (pd_int)) (pd_var (pv 2))) (pss_1 (pst_ret (pd_bl))) (pss_0))
    (pss_c (pst_set (i := 7) sc_has_packet.nd (pd_tup (pk_cons (pd_var (pv 3)) (pk_cons (pd_var (pv 4)) (pk_cons (pd_var (pv 5)) (pk_cons (pd_var (pv 6)) (pk_nil)))))))
    (pss_1 (pst_ret (go_all C T.n_all (pv_cons (pd_lc (own := [("low", 8), ("high", 9), ("number", 10)]) C sc_has_packet.nd (pi_zip2 (by rfl) T.n_zip (pd_slice (pd_var (pv 0)) (pso_some (pd_int)) (pso_none)) (pd_var (pv 7))) (blkOk_by (N := N_has_packet) (sc := defScope s_has_packet) (own := [("low", 8), ("high", 9), ("number", 10)]) (by decide +kernel)) (fun i5 => pg_u (by rfl) (pgs_c (pg_u (by rfl) (pgs_c (pg_n (i := 8) sc_has_packet.nd) (pgs_c (pg_n (i := 9) sc_has_packet.nd) (pgs_0)))) (pgs_c (pg_n (i := 10) sc_has_packet.nd) (pgs_0)))) (fun i5 => pts_0) (fun i5 => go_lele (pd_var (pv 8)) (pd_var (pv 10)) (pd_var (pv 9)))) (pv_nil)))))))) sp_has_packet
abbrev N_met : List Str := ["block", "other", "ranges", "one", "two", "low", "high"]
theorem sc_met : FnScope N_met ["block", "other"] (defScope s_met) := ⟨rfl, rfl, rfl, by decide +kernel, rfl, by decide +kernel, by decide +kernel⟩
theorem ok_met {dvs0 : List V} {kws0 : List (Str × V)} {f : Addr} {fd : FuncData} (T : Tx K mg)  (D0 : FunD K "met" "met" (defArgs s_met) (defBody s_met) (defScope s_met) dvs0 kws0 f fd) :
    FnOk P w K mg base (L2N.CX P w) 1 f fd ["block", "other"] (spOf K mg fs_met 2) := by
  exact fn_pd (k := 0) (ws := w_met) (N := N_met) D0 sc_met (fun cdv A outer s H E C =>
    pss_c (pst_if (to_ne C (go_ix (pd_var (pv 0)) (pd_int)) (go_ix (pd_var (pv 1)) (pd_int))) (pss_1 (pst_ret (pd_lst (pk_nil)))) (pss_0))
    (pss_c (pst_setLc (i := 2) (own := [("one", 3), ("two", 4)]) C sc_met.nd (pi_zip2 (by rfl) T.n_zip (pd_slice (pd_var (pv 0)) (pso_some (pd_int)) (pso_none)) (pd_slice (pd_var (pv 1)) (pso_some (pd_int)) (pso_none))) (blkOk_by (N := N_met) (sc := defScope s_met) (own := [("one", 3), ("two", 4)]) (by decide +kernel)) (fun i7 => pg_u (by rfl) (pgs_c (pg_n (i := 3) sc_met.nd) (pgs_c (pg_n (i := 4) sc_met.nd) (pgs_0)))) (fun i7 => pts_0) (fun i7 => pd_tup (pk_cons (go_max2 (C.blk i7) T.n_max (pv_cons (go_ix (pd_var (pv 3)) (pd_int)) (pv_cons (go_ix (pd_var (pv 4)) (pd_int)) (pv_nil)))) (pk_cons (go_min2 (C.blk i7) T.n_min (pv_cons (go_ix (pd_var (pv 3)) (pd_int)) (pv_cons (go_ix (pd_var (pv 4)) (pd_int)) (pv_nil)))) (pk_nil)))) (sw_true rfl rfl rfl (by decide +kernel)))
    (pss_1 (pst_ret (pd_ife (pt_b (go_all C T.n_all (pv_cons (pd_lc (own := [("low", 5), ("high", 6)]) C sc_met.nd (pi_src (pd_var (pv 2))) (blkOk_by (N := N_met) (sc := defScope s_met) (own := [("low", 5), ("high", 6)]) (by decide +kernel)) (fun i6 => pg_u (by rfl) (pgs_c (pg_n (i := 5) sc_met.nd) (pgs_c (pg_n (i := 6) sc_met.nd) (pgs_0)))) (fun i6 => pts_0) (fun i6 => go_le (pd_var (pv 5)) (pd_var (pv 6)))) (pv_nil)))) (pd_lst (pk_cons (go_add (pd_tup (pk_cons (go_ix (pd_var (pv 0)) (pd_int)) (pk_nil))) (go_tuple T.n_tuple (pv_cons (pd_var (pv 2)) (pv_nil)))) (pk_nil))) (pd_lst (pk_nil))))))) sp_met
abbrev N_split : List Str := ["block", "other", "found", "left", "at", "low", "high", "first", "last"]
theorem sc_split : FnScope N_split ["block", "other"] (defScope s_split) := ⟨rfl, rfl, rfl, by decide +kernel, rfl, by decide +kernel, by decide +kernel⟩
theorem ok_split {dvs0 : List V} {kws0 : List (Str × V)} {f : Addr} {fd : FuncData} (T : Tx K mg) {f_met : Addr} {d_met : FuncData} (G_met : DfAt P w K mg base "met" f_met d_met ["block", "other"] 1 fs_met) (D0 : FunD K "split" "split" (defArgs s_split) (defBody s_split) (defScope s_split) dvs0 kws0 f fd) :
    FnOk P w K mg base (L2N.CX P w) 2 f fd ["block", "other"] (spOf K mg fs_split 2) := by
  exact fn_pd (k := 1) (ws := w_split) (N := N_split) D0 sc_split (fun cdv A outer s H E C =>
    pss_c (pst_if (to_eq C (pd_call C G_met.fn (by decide) G_met.mx G_met.kp G_met.bd .nil (fun _ => rfl) (pv_consK (pd_var (pv 0)) (pv_consK (pd_var (pv 1)) (pv_nil)))) (pd_lst (pk_nil))) (pss_1 (pst_ret (pd_lst (pk_cons (pd_var (pv 0)) (pk_nil))))) (pss_0))
    (pss_c (pst_set (i := 2) sc_split.nd (pd_lst (pk_nil)))
    (pss_c (pst_set (i := 3) sc_split.nd (pd_var (pv 0)))
    (pss_c (pst_for C (pi_rng2 (by rfl) T.n_range (pd_int) (pd_int)) (pg_n (i := 4) sc_split.nd) (pss_c (pst_asg (go_ix (pd_var (pv 3)) (pd_var (pv 4))) (pg_u (by rfl) (pgs_c (pg_n (i := 5) sc_split.nd) (pgs_c (pg_n (i := 6) sc_split.nd) (pgs_0)))))
    (pss_c (pst_asg (go_ix (pd_var (pv 1)) (pd_var (pv 4))) (pg_u (by rfl) (pgs_c (pg_n (i := 7) sc_split.nd) (pgs_c (pg_n (i := 8) sc_split.nd) (pgs_0)))))
    (pss_c (pst_if (to_lt (pd_var (pv 5)) (pd_var (pv 7))) (pss_1 (pst_set (i := 2) sc_split.nd (go_add (pd_var (pv 2)) (pd_lst (pk_cons (go_add (go_add (pd_slice (pd_var (pv 3)) (pso_none) (pso_some (pd_var (pv 4)))) (pd_tup (pk_cons (pd_tup (pk_cons (pd_var (pv 5)) (pk_cons (go_sub (pd_var (pv 7)) (pd_int)) (pk_nil)))) (pk_nil)))) (pd_slice (pd_var (pv 3)) (pso_some (go_add (pd_var (pv 4)) (pd_int))) (pso_none))) (pk_nil)))))) (pss_0))
    (pss_c (pst_if (to_lt (pd_var (pv 8)) (pd_var (pv 6))) (pss_1 (pst_set (i := 2) sc_split.nd (go_add (pd_var (pv 2)) (pd_lst (pk_cons (go_add (go_add (pd_slice (pd_var (pv 3)) (pso_none) (pso_some (pd_var (pv 4)))) (pd_tup (pk_cons (pd_tup (pk_cons (go_add (pd_var (pv 8)) (pd_int)) (pk_cons (pd_var (pv 6)) (pk_nil)))) (pk_nil)))) (pd_slice (pd_var (pv 3)) (pso_some (go_add (pd_var (pv 4)) (pd_int))) (pso_none))) (pk_nil)))))) (pss_0))
    (pss_1 (pst_set (i := 3) sc_split.nd (go_add (go_add (pd_slice (pd_var (pv 3)) (pso_none) (pso_some (pd_var (pv 4)))) (pd_tup (pk_cons (pd_tup (pk_cons (go_max2 C T.n_max (pv_cons (pd_var (pv 5)) (pv_cons (pd_var (pv 7)) (pv_nil)))) (pk_cons (go_min2 C T.n_min (pv_cons (pd_var (pv 6)) (pv_cons (pd_var (pv 8)) (pv_nil)))) (pk_nil)))) (pk_nil)))) (pd_slice (pd_var (pv 3)) (pso_some (go_add (pd_var (pv 4)) (pd_int))) (pso_none))))))))))
    (pss_1 (pst_ret (pd_var (pv 2)))))))) sp_split
abbrev N_without_block : List Str := ["blocks", "other", "found", "block"]
theorem sc_without_block : FnScope N_without_block ["blocks", "other"] (defScope s_without_block) := ⟨rfl, rfl, rfl, by decide +kernel, rfl, by decide +kernel, by decide +kernel⟩
theorem ok_without_block {dvs0 : List V} {kws0 : List (Str × V)} {f : Addr} {fd : FuncData} (_T : Tx K mg) {f_split : Addr} {d_split : FuncData} (G_split : DfAt P w K mg base "split" f_split d_split ["block", "other"] 2 fs_split) (D0 : FunD K "without_block" "without_block" (defArgs s_without_block) (defBody s_without_block) (defScope s_without_block) dvs0 kws0 f fd) :
    FnOk P w K mg base (L2N.CX P w) 3 f fd ["blocks", "other"] (spOf K mg fs_without_block 2) := by
  exact fn_pd (k := 2) (ws := w_without_block) (N := N_without_block) D0 sc_without_block (fun cdv A outer s H E C =>
    pss_c (pst_set (i := 2) sc_without_block.nd (pd_lst (pk_nil)))
    (pss_c (pst_for C (pi_src (pd_var (pv 0))) (pg_n (i := 3) sc_without_block.nd) (pss_1 (pst_expr (pd_extend (i := 2) (pv 2) (pd_call C G_split.fn (by decide) G_split.mx G_split.kp G_split.bd .nil (fun _ => rfl) (pv_consK (pd_var (pv 3)) (pv_consK (pd_var (pv 1)) (pv_nil))))))))
    (pss_1 (pst_ret (pd_var (pv 2)))))) sp_without_block
abbrev N_side_by_side : List Str := ["block", "other", "unlike", "at", "first", "second"]
theorem sc_side_by_side : FnScope N_side_by_side ["block", "other"] (defScope s_side_by_side) := ⟨rfl, rfl, rfl, by decide +kernel, rfl, by decide +kernel, by decide +kernel⟩
theorem ok_side_by_side {dvs0 : List V} {kws0 : List (Str × V)} {f : Addr} {fd : FuncData} (T : Tx K mg)  (D0 : FunD K "side_by_side" "side_by_side" (defArgs s_side_by_side) (defBody s_side_by_side) (defScope s_side_by_side) dvs0 kws0 f fd) :
    FnOk P w K mg base (L2N.CX P w) 1 f fd ["block", "other"] (spOf K mg fs_side_by_side 2) := by
  exact fn_pd (k := 0) (ws := w_side_by_side) (N := N_side_by_side) D0 sc_side_by_side (fun cdv A outer s H E C =>
    pss_c (pst_if (to_ne C (go_ix (pd_var (pv 0)) (pd_int)) (go_ix (pd_var (pv 1)) (pd_int))) (pss_1 (pst_ret (pd_lst (pk_nil)))) (pss_0))
    (pss_c (pst_setLc (i := 2) (own := [("at", 3)]) C sc_side_by_side.nd (pi_rng2 (by rfl) T.n_range (pd_int) (pd_int)) (blkOk_by (N := N_side_by_side) (sc := defScope s_side_by_side) (own := [("at", 3)]) (by decide +kernel)) (fun i8 => pg_n (i := 3) sc_side_by_side.nd) (fun i8 => pts_1 (to_ne (C.blk i8) (go_ix (pd_var (pv 0)) (pd_var (pv 3))) (go_ix (pd_var (pv 1)) (pd_var (pv 3))))) (fun i8 => pd_var (pv 3)) (sw_true rfl rfl rfl (by decide +kernel)))
    (pss_c (pst_if (to_ne C (go_len T.n_len (pv_cons (pd_var (pv 2)) (pv_nil))) (pd_int)) (pss_1 (pst_ret (pd_lst (pk_nil)))) (pss_0))
    (pss_c (pst_set (i := 3) sc_side_by_side.nd (go_ix (pd_var (pv 2)) (pd_int)))
    (pss_c (pst_asg (go_sorted C T.n_sorted (pv_cons (pd_lst (pk_cons (go_ix (pd_var (pv 0)) (pd_var (pv 3))) (pk_cons (go_ix (pd_var (pv 1)) (pd_var (pv 3))) (pk_nil)))) (pv_nil))) (pg_u (by rfl) (pgs_c (pg_n (i := 4) sc_side_by_side.nd) (pgs_c (pg_n (i := 5) sc_side_by_side.nd) (pgs_0)))))
    (pss_c (pst_if (to_ne C (go_add (go_ix (pd_var (pv 4)) (pd_int)) (pd_int)) (go_ix (pd_var (pv 5)) (pd_int))) (pss_1 (pst_ret (pd_lst (pk_nil)))) (pss_0))
    (pss_1 (pst_ret (pd_lst (pk_cons (go_add (go_add (pd_slice (pd_var (pv 0)) (pso_none) (pso_some (pd_var (pv 3)))) (pd_tup (pk_cons (pd_tup (pk_cons (go_ix (pd_var (pv 4)) (pd_int)) (pk_cons (go_ix (pd_var (pv 5)) (pd_int)) (pk_nil)))) (pk_nil)))) (pd_slice (pd_var (pv 0)) (pso_some (go_add (pd_var (pv 3)) (pd_int))) (pso_none))) (pk_nil))))))))))) sp_side_by_side
abbrev N_pushed_together : List Str := ["blocks", "found", "block", "one", "at", "joined"]
theorem sc_pushed_together : FnScope N_pushed_together ["blocks"] (defScope s_pushed_together) := ⟨rfl, rfl, rfl, by decide +kernel, rfl, by decide +kernel, by decide +kernel⟩
theorem ok_pushed_together {dvs0 : List V} {kws0 : List (Str × V)} {f : Addr} {fd : FuncData} (T : Tx K mg) {f_side_by_side : Addr} {d_side_by_side : FuncData} (G_side_by_side : DfAt P w K mg base "side_by_side" f_side_by_side d_side_by_side ["block", "other"] 1 fs_side_by_side) (D0 : FunD K "pushed_together" "pushed_together" (defArgs s_pushed_together) (defBody s_pushed_together) (defScope s_pushed_together) dvs0 kws0 f fd) :
    FnOk P w K mg base (L2N.CX P w) 2 f fd ["blocks"] (spOf K mg fs_pushed_together 1) := by
  exact fn_pd (k := 1) (ws := w_pushed_together) (N := N_pushed_together) D0 sc_pushed_together (fun cdv A outer s H E C =>
    pss_c (pst_set (i := 1) sc_pushed_together.nd (pd_lst (pk_nil)))
    (pss_c (pst_for C (pi_src (pd_var (pv 0))) (pg_n (i := 2) sc_pushed_together.nd) (pss_c (pst_set (i := 3) sc_pushed_together.nd (pd_var (pv 2)))
    (pss_c (pst_set (i := 4) sc_pushed_together.nd (pd_int))
    (pss_c (pst_while C (to_lt (pd_var (pv 4)) (go_len T.n_len (pv_cons (pd_var (pv 1)) (pv_nil)))) (pss_c (pst_set (i := 5) sc_pushed_together.nd (pd_call C G_side_by_side.fn (by decide) G_side_by_side.mx G_side_by_side.kp G_side_by_side.bd .nil (fun _ => rfl) (pv_consK (go_ix (pd_var (pv 1)) (pd_var (pv 4))) (pv_consK (pd_var (pv 3)) (pv_nil)))))
    (pss_1 (pst_if (to_eq C (pd_var (pv 5)) (pd_lst (pk_nil))) (pss_1 (pst_set (i := 4) sc_pushed_together.nd (go_add (pd_var (pv 4)) (pd_int)))) (pss_c (pst_set (i := 3) sc_pushed_together.nd (go_ix (pd_var (pv 5)) (pd_int)))
    (pss_c (pst_set (i := 1) sc_pushed_together.nd (go_add (pd_slice (pd_var (pv 1)) (pso_none) (pso_some (pd_var (pv 4)))) (pd_slice (pd_var (pv 1)) (pso_some (go_add (pd_var (pv 4)) (pd_int))) (pso_none))))
    (pss_1 (pst_set (i := 4) sc_pushed_together.nd (pd_int)))))))))
    (pss_1 (pst_set (i := 1) sc_pushed_together.nd (go_add (pd_var (pv 1)) (pd_lst (pk_cons (pd_var (pv 3)) (pk_nil))))))))))
    (pss_1 (pst_ret (pd_var (pv 1)))))) sp_pushed_together
abbrev N_disjoint : List Str := ["blocks", "found", "block", "pieces", "other"]
theorem sc_disjoint : FnScope N_disjoint ["blocks"] (defScope s_disjoint) := ⟨rfl, rfl, rfl, by decide +kernel, rfl, by decide +kernel, by decide +kernel⟩
theorem ok_disjoint {dvs0 : List V} {kws0 : List (Str × V)} {f : Addr} {fd : FuncData} (_T : Tx K mg) {f_pushed_together : Addr} {d_pushed_together : FuncData} (G_pushed_together : DfAt P w K mg base "pushed_together" f_pushed_together d_pushed_together ["blocks"] 2 fs_pushed_together) {f_without_block : Addr} {d_without_block : FuncData} (G_without_block : DfAt P w K mg base "without_block" f_without_block d_without_block ["blocks", "other"] 3 fs_without_block) (D0 : FunD K "disjoint" "disjoint" (defArgs s_disjoint) (defBody s_disjoint) (defScope s_disjoint) dvs0 kws0 f fd) :
    FnOk P w K mg base (L2N.CX P w) 4 f fd ["blocks"] (spOf K mg fs_disjoint 1) := by
  exact fn_pd (k := 3) (ws := w_disjoint) (N := N_disjoint) D0 sc_disjoint (fun cdv A outer s H E C =>
    pss_c (pst_set (i := 1) sc_disjoint.nd (pd_lst (pk_nil)))
    (pss_c (pst_for C (pi_src (pd_var (pv 0))) (pg_n (i := 2) sc_disjoint.nd) (pss_c (pst_set (i := 3) sc_disjoint.nd (pd_lst (pk_cons (pd_var (pv 2)) (pk_nil))))
    (pss_c (pst_for C (pi_src (pd_var (pv 1))) (pg_n (i := 4) sc_disjoint.nd) (pss_1 (pst_set (i := 3) sc_disjoint.nd (pd_call C G_without_block.fn (by decide) G_without_block.mx G_without_block.kp G_without_block.bd .nil (fun _ => rfl) (pv_consK (pd_var (pv 3)) (pv_consK (pd_var (pv 4)) (pv_nil)))))))
    (pss_1 (pst_set (i := 1) sc_disjoint.nd (go_add (pd_var (pv 1)) (pd_var (pv 3))))))))
    (pss_1 (pst_ret (pd_call C G_pushed_together.fn (by decide) G_pushed_together.mx G_pushed_together.kp G_pushed_together.bd .nil (fun _ => rfl) (pv_consK (pd_var (pv 1)) (pv_nil))))))) sp_disjoint
abbrev N_size_of : List Str := ["block", "found", "low", "high"]
theorem sc_size_of : FnScope N_size_of ["block"] (defScope s_size_of) := ⟨rfl, rfl, rfl, by decide +kernel, rfl, by decide +kernel, by decide +kernel⟩
theorem ok_size_of {dvs0 : List V} {kws0 : List (Str × V)} {f : Addr} {fd : FuncData} (_T : Tx K mg)  (D0 : FunD K "size_of" "size_of" (defArgs s_size_of) (defBody s_size_of) (defScope s_size_of) dvs0 kws0 f fd) :
    FnOk P w K mg base (L2N.CX P w) 1 f fd ["block"] (spOf K mg fs_size_of 1) := by
  exact fn_pd (k := 0) (ws := w_size_of) (N := N_size_of) D0 sc_size_of (fun cdv A outer s H E C =>
    pss_c (pst_set (i := 1) sc_size_of.nd (pd_int))
    (pss_c (pst_for C (pi_src (pd_slice (pd_var (pv 0)) (pso_some (pd_int)) (pso_none))) (pg_u (by rfl) (pgs_c (pg_n (i := 2) sc_size_of.nd) (pgs_c (pg_n (i := 3) sc_size_of.nd) (pgs_0)))) (pss_1 (pst_mul (i := 1) sc_size_of.nd (go_add (go_sub (pd_var (pv 3)) (pd_var (pv 2))) (pd_int)))))
    (pss_1 (pst_ret (pd_var (pv 1)))))) sp_size_of
abbrev N_check_blocks : List Str := ["blocks", "index", "block"]
theorem sc_check_blocks : FnScope N_check_blocks ["blocks"] (defScope s_check_blocks) := ⟨rfl, rfl, rfl, by decide +kernel, rfl, by decide +kernel, by decide +kernel⟩
theorem ok_check_blocks {dvs0 : List V} {kws0 : List (Str × V)} {f : Addr} {fd : FuncData} (T : Tx K mg) {f_is_block : Addr} {d_is_block : FuncData} (G_is_block : DfAt P w K mg base "is_block" f_is_block d_is_block ["value"] 4 fs_is_block) (D0 : FunD K "check_blocks" "check_blocks" (defArgs s_check_blocks) (defBody s_check_blocks) (defScope s_check_blocks) dvs0 kws0 f fd) :
    FnOk P w K mg base (L2N.CX P w) 5 f fd ["blocks"] (spOf K mg fs_check_blocks 1) := by
  exact fn_pd (k := 4) (ws := w_check_blocks) (N := N_check_blocks) D0 sc_check_blocks (fun cdv A outer s H E C =>
    pss_c (pst_if (pt_n (pt_b (go_isT2 .lst .tup T.n_isinstance T.n_list T.n_tuple (by decide +kernel) (by decide +kernel) (pd_var (pv 0))))) (pss_1 (pst_never)) (pss_0))
    (pss_1 (pst_for C (pi_enu (by rfl) T.n_enumerate (pd_var (pv 0))) (pg_u (by rfl) (pgs_c (pg_n (i := 1) sc_check_blocks.nd) (pgs_c (pg_n (i := 2) sc_check_blocks.nd) (pgs_0)))) (pss_1 (pst_if (pt_n (pt_b (pd_call C G_is_block.fn (by decide) G_is_block.mx G_is_block.kp G_is_block.bd .nil (fun _ => rfl) (pv_consK (pd_var (pv 2)) (pv_nil))))) (pss_1 (pst_never)) (pss_0)))))) sp_check_blocks
abbrev N_Packets_init : List Str := ["self", "blocks"]
theorem sc_Packets_init : FnScope N_Packets_init ["self", "blocks"] (defScope s_Packets_init) := ⟨rfl, rfl, rfl, by decide +kernel, rfl, by decide +kernel, by decide +kernel⟩
theorem ok_Packets_init {dvs0 : List V} {kws0 : List (Str × V)} {f : Addr} {fd : FuncData} (_T : Tx K mg) {a_Packets : Addr} (A_Packets : ClAt K mg "Packets" a_Packets ["p_blocks"]) {f_check_blocks : Addr} {d_check_blocks : FuncData} (G_check_blocks : DfAt P w K mg base "check_blocks" f_check_blocks d_check_blocks ["blocks"] 5 fs_check_blocks) {f_disjoint : Addr} {d_disjoint : FuncData} (G_disjoint : DfAt P w K mg base "disjoint" f_disjoint d_disjoint ["blocks"] 4 fs_disjoint) (D0 : FunD K "__init__" "Packets.__init__" (defArgs s_Packets_init) (defBody s_Packets_init) (defScope s_Packets_init) dvs0 kws0 f fd) :
    FnOk P w K mg base (L2N.CX P w) 6 f fd ["self", "blocks"] (spOf K mg fs_Packets_init 2) := by
  exact fn_pd (k := 5) (ws := w_Packets_init) (N := N_Packets_init) D0 sc_Packets_init (fun cdv A outer s H E C =>
    pss_c (pst_expr (pd_call C G_check_blocks.fn (by decide) G_check_blocks.mx G_check_blocks.kp G_check_blocks.bd .nil (fun _ => rfl) (pv_consK (pd_var (pv 1)) (pv_nil))))
    (pss_1 (pst_fld A_Packets.mc A_Packets.cl (A_Packets.no _ (by simp)) (pv 0) (pd_call C G_disjoint.fn (by decide) G_disjoint.mx G_disjoint.kp G_disjoint.bd .nil (fun _ => rfl) (pv_consK (pd_var (pv 1)) (pv_nil)))))) sp_Packets_init
abbrev N_Packets_contains : List Str := ["self", "packet", "block"]
theorem sc_Packets_contains : FnScope N_Packets_contains ["self", "packet"] (defScope s_Packets_contains) := ⟨rfl, rfl, rfl, by decide +kernel, rfl, by decide +kernel, by decide +kernel⟩
theorem ok_Packets_contains {dvs0 : List V} {kws0 : List (Str × V)} {f : Addr} {fd : FuncData} (T : Tx K mg) {a_Packets : Addr} (A_Packets : ClAt K mg "Packets" a_Packets ["p_blocks"]) {f_has_packet : Addr} {d_has_packet : FuncData} (G_has_packet : DfAt P w K mg base "has_packet" f_has_packet d_has_packet ["block", "packet"] 1 fs_has_packet) {f_is_packet : Addr} {d_is_packet : FuncData} (G_is_packet : DfAt P w K mg base "is_packet" f_is_packet d_is_packet ["value"] 3 fs_is_packet) (D0 : FunD K "__contains__" "Packets.__contains__" (defArgs s_Packets_contains) (defBody s_Packets_contains) (defScope s_Packets_contains) dvs0 kws0 f fd) :
    FnOk P w K mg base (L2N.CX P w) 4 f fd ["self", "packet"] (spOf K mg fs_Packets_contains 2) := by
  exact fn_pd (k := 3) (ws := w_Packets_contains) (N := N_Packets_contains) D0 sc_Packets_contains (fun cdv A outer s H E C =>
    pss_1 (pst_ret (pd_and (pd_call C G_is_packet.fn (by decide) G_is_packet.mx G_is_packet.kp G_is_packet.bd .nil (fun _ => rfl) (pv_consK (pd_var (pv 1)) (pv_nil))) (pd_one (go_any C T.n_any (pv_cons (pd_lc (own := [("block", 2)]) C sc_Packets_contains.nd (pi_src (pd_fld A_Packets.mc A_Packets.cl (A_Packets.no _ (by simp)) (pd_var (pv 0)))) (blkOk_by (N := N_Packets_contains) (sc := defScope s_Packets_contains) (own := [("block", 2)]) (by decide +kernel)) (fun i9 => pg_n (i := 2) sc_Packets_contains.nd) (fun i9 => pts_0) (fun i9 => pd_call (C.blk i9) G_has_packet.fn (by decide) G_has_packet.mx G_has_packet.kp G_has_packet.bd .nil (fun _ => rfl) (pv_consK (pd_var (pv 2)) (pv_consK (pd_var (pv 1)) (pv_nil))))) (pv_nil))))))) sp_Packets_contains
abbrev N_Packets_or : List Str := ["self", "other"]
theorem sc_Packets_or : FnScope N_Packets_or ["self", "other"] (defScope s_Packets_or) := ⟨rfl, rfl, rfl, by decide +kernel, rfl, by decide +kernel, by decide +kernel⟩
theorem ok_Packets_or {dvs0 : List V} {kws0 : List (Str × V)} {f : Addr} {fd : FuncData} (T : Tx K mg) {a_Packets : Addr} (A_Packets : ClAt K mg "Packets" a_Packets ["p_blocks"]) {f_Packets_init : Addr} {d_Packets_init : FuncData} (M_Packets_init : MtAt P w K mg base a_Packets "__init__" f_Packets_init d_Packets_init ["self", "blocks"] 6 fs_Packets_init) (D0 : FunD K "__or__" "Packets.__or__" (defArgs s_Packets_or) (defBody s_Packets_or) (defScope s_Packets_or) dvs0 kws0 f fd) :
    FnOk P w K mg base (L2N.CX P w) 8 f fd ["self", "other"] (spOf K mg fs_Packets_or 2) := by
  exact fn_pd (k := 7) (ws := w_Packets_or) (N := N_Packets_or) D0 sc_Packets_or (fun cdv A outer s H E C =>
    pss_c (pst_if (pt_n (pt_b (go_isO A_Packets T.n_isinstance (pd_var (pv 1))))) (pss_1 (pst_never)) (pss_0))
    (pss_1 (pst_ret (pd_make C ⟨A_Packets.mkI, M_Packets_init.at_, M_Packets_init.isf, A_Packets.kp⟩ M_Packets_init.fn (by decide) A_Packets.mc M_Packets_init.bd .nil (fun _ => rfl) (pv_consK (go_add (pd_fld A_Packets.mc A_Packets.cl (A_Packets.no _ (by simp)) (pd_var (pv 0))) (pd_fld A_Packets.mc A_Packets.cl (A_Packets.no _ (by simp)) (pd_var (pv 1)))) (pv_nil)))))) sp_Packets_or
abbrev N_Packets_and : List Str := ["self", "other", "found", "block", "one"]
theorem sc_Packets_and : FnScope N_Packets_and ["self", "other"] (defScope s_Packets_and) := ⟨rfl, rfl, rfl, by decide +kernel, rfl, by decide +kernel, by decide +kernel⟩
theorem ok_Packets_and {dvs0 : List V} {kws0 : List (Str × V)} {f : Addr} {fd : FuncData} (T : Tx K mg) {a_Packets : Addr} (A_Packets : ClAt K mg "Packets" a_Packets ["p_blocks"]) {f_met : Addr} {d_met : FuncData} (G_met : DfAt P w K mg base "met" f_met d_met ["block", "other"] 1 fs_met) {f_Packets_init : Addr} {d_Packets_init : FuncData} (M_Packets_init : MtAt P w K mg base a_Packets "__init__" f_Packets_init d_Packets_init ["self", "blocks"] 6 fs_Packets_init) (D0 : FunD K "__and__" "Packets.__and__" (defArgs s_Packets_and) (defBody s_Packets_and) (defScope s_Packets_and) dvs0 kws0 f fd) :
    FnOk P w K mg base (L2N.CX P w) 8 f fd ["self", "other"] (spOf K mg fs_Packets_and 2) := by
  exact fn_pd (k := 7) (ws := w_Packets_and) (N := N_Packets_and) D0 sc_Packets_and (fun cdv A outer s H E C =>
    pss_c (pst_if (pt_n (pt_b (go_isO A_Packets T.n_isinstance (pd_var (pv 1))))) (pss_1 (pst_never)) (pss_0))
    (pss_c (pst_set (i := 2) sc_Packets_and.nd (pd_lst (pk_nil)))
    (pss_c (pst_for C (pi_src (pd_fld A_Packets.mc A_Packets.cl (A_Packets.no _ (by simp)) (pd_var (pv 0)))) (pg_n (i := 3) sc_Packets_and.nd) (pss_1 (pst_for C (pi_src (pd_fld A_Packets.mc A_Packets.cl (A_Packets.no _ (by simp)) (pd_var (pv 1)))) (pg_n (i := 4) sc_Packets_and.nd) (pss_1 (pst_expr (pd_extend (i := 2) (pv 2) (pd_call C G_met.fn (by decide) G_met.mx G_met.kp G_met.bd .nil (fun _ => rfl) (pv_consK (pd_var (pv 3)) (pv_consK (pd_var (pv 4)) (pv_nil))))))))))
    (pss_1 (pst_ret (pd_make C ⟨A_Packets.mkI, M_Packets_init.at_, M_Packets_init.isf, A_Packets.kp⟩ M_Packets_init.fn (by decide) A_Packets.mc M_Packets_init.bd .nil (fun _ => rfl) (pv_consK (pd_var (pv 2)) (pv_nil)))))))) sp_Packets_and
abbrev N_Packets_sub : List Str := ["self", "other", "found", "block"]
theorem sc_Packets_sub : FnScope N_Packets_sub ["self", "other"] (defScope s_Packets_sub) := ⟨rfl, rfl, rfl, by decide +kernel, rfl, by decide +kernel, by decide +kernel⟩
theorem ok_Packets_sub {dvs0 : List V} {kws0 : List (Str × V)} {f : Addr} {fd : FuncData} (T : Tx K mg) {a_Packets : Addr} (A_Packets : ClAt K mg "Packets" a_Packets ["p_blocks"]) {f_without_block : Addr} {d_without_block : FuncData} (G_without_block : DfAt P w K mg base "without_block" f_without_block d_without_block ["blocks", "other"] 3 fs_without_block) {f_Packets_init : Addr} {d_Packets_init : FuncData} (M_Packets_init : MtAt P w K mg base a_Packets "__init__" f_Packets_init d_Packets_init ["self", "blocks"] 6 fs_Packets_init) (D0 : FunD K "__sub__" "Packets.__sub__" (defArgs s_Packets_sub) (defBody s_Packets_sub) (defScope s_Packets_sub) dvs0 kws0 f fd) :
    FnOk P w K mg base (L2N.CX P w) 8 f fd ["self", "other"] (spOf K mg fs_Packets_sub 2) := by
  exact fn_pd (k := 7) (ws := w_Packets_sub) (N := N_Packets_sub) D0 sc_Packets_sub (fun cdv A outer s H E C =>
    pss_c (pst_if (pt_n (pt_b (go_isO A_Packets T.n_isinstance (pd_var (pv 1))))) (pss_1 (pst_never)) (pss_0))
    (pss_c (pst_set (i := 2) sc_Packets_sub.nd (pd_fld A_Packets.mc A_Packets.cl (A_Packets.no _ (by simp)) (pd_var (pv 0))))
    (pss_c (pst_for C (pi_src (pd_fld A_Packets.mc A_Packets.cl (A_Packets.no _ (by simp)) (pd_var (pv 1)))) (pg_n (i := 3) sc_Packets_sub.nd) (pss_1 (pst_set (i := 2) sc_Packets_sub.nd (pd_call C G_without_block.fn (by decide) G_without_block.mx G_without_block.kp G_without_block.bd .nil (fun _ => rfl) (pv_consK (pd_var (pv 2)) (pv_consK (pd_var (pv 3)) (pv_nil)))))))
    (pss_1 (pst_ret (pd_make C ⟨A_Packets.mkI, M_Packets_init.at_, M_Packets_init.isf, A_Packets.kp⟩ M_Packets_init.fn (by decide) A_Packets.mc M_Packets_init.bd .nil (fun _ => rfl) (pv_consK (pd_var (pv 2)) (pv_nil)))))))) sp_Packets_sub
abbrev N_Packets_blocks : List Str := ["self"]
theorem sc_Packets_blocks : FnScope N_Packets_blocks ["self"] (defScope s_Packets_blocks) := ⟨rfl, rfl, rfl, by decide +kernel, rfl, by decide +kernel, by decide +kernel⟩
theorem ok_Packets_blocks {dvs0 : List V} {kws0 : List (Str × V)} {f : Addr} {fd : FuncData} (T : Tx K mg) {a_Packets : Addr} (A_Packets : ClAt K mg "Packets" a_Packets ["p_blocks"]) (D0 : FunD K "blocks" "Packets.blocks" (defArgs s_Packets_blocks) (defBody s_Packets_blocks) (defScope s_Packets_blocks) dvs0 kws0 f fd) :
    FnOk P w K mg base (L2N.CX P w) 1 f fd ["self"] (spOf K mg fs_Packets_blocks 1) := by
  exact fn_pd (k := 0) (ws := w_Packets_blocks) (N := N_Packets_blocks) D0 sc_Packets_blocks (fun cdv A outer s H E C =>
    pss_1 (pst_ret (go_list T.n_list (pv_cons (pd_fld A_Packets.mc A_Packets.cl (A_Packets.no _ (by simp)) (pd_var (pv 0))) (pv_nil))))) sp_Packets_blocks
abbrev N_Packets_size : List Str := ["self", "block"]
theorem sc_Packets_size : FnScope N_Packets_size ["self"] (defScope s_Packets_size) := ⟨rfl, rfl, rfl, by decide +kernel, rfl, by decide +kernel, by decide +kernel⟩
theorem ok_Packets_size {dvs0 : List V} {kws0 : List (Str × V)} {f : Addr} {fd : FuncData} (T : Tx K mg) {a_Packets : Addr} (A_Packets : ClAt K mg "Packets" a_Packets ["p_blocks"]) {f_size_of : Addr} {d_size_of : FuncData} (G_size_of : DfAt P w K mg base "size_of" f_size_of d_size_of ["block"] 1 fs_size_of) (D0 : FunD K "size" "Packets.size" (defArgs s_Packets_size) (defBody s_Packets_size) (defScope s_Packets_size) dvs0 kws0 f fd) :
    FnOk P w K mg base (L2N.CX P w) 2 f fd ["self"] (spOf K mg fs_Packets_size 1) := by
  exact fn_pd (k := 1) (ws := w_Packets_size) (N := N_Packets_size) D0 sc_Packets_size (fun cdv A outer s H E C =>
    pss_1 (pst_ret (go_sum C T.n_sum (pv_cons (pd_lc (own := [("block", 1)]) C sc_Packets_size.nd (pi_src (pd_fld A_Packets.mc A_Packets.cl (A_Packets.no _ (by simp)) (pd_var (pv 0)))) (blkOk_by (N := N_Packets_size) (sc := defScope s_Packets_size) (own := [("block", 1)]) (by decide +kernel)) (fun i10 => pg_n (i := 1) sc_Packets_size.nd) (fun i10 => pts_0) (fun i10 => pd_call (C.blk i10) G_size_of.fn (by decide) G_size_of.mx G_size_of.kp G_size_of.bd .nil (fun _ => rfl) (pv_consK (pd_var (pv 1)) (pv_nil)))) (pv_nil))))) sp_Packets_size
abbrev N_Packets_least : List Str := ["self", "ends", "kind", "sources", "source_ports", "targets", "target_ports"]
theorem sc_Packets_least : FnScope N_Packets_least ["self"] (defScope s_Packets_least) := ⟨rfl, rfl, rfl, by decide +kernel, rfl, by decide +kernel, by decide +kernel⟩
theorem ok_Packets_least {dvs0 : List V} {kws0 : List (Str × V)} {f : Addr} {fd : FuncData} (T : Tx K mg) {a_Packets : Addr} (A_Packets : ClAt K mg "Packets" a_Packets ["p_blocks"]) (D0 : FunD K "least" "Packets.least" (defArgs s_Packets_least) (defBody s_Packets_least) (defScope s_Packets_least) dvs0 kws0 f fd) :
    FnOk P w K mg base (L2N.CX P w) 1 f fd ["self"] (spOf K mg fs_Packets_least 1) := by
  exact fn_pd (k := 0) (ws := w_Packets_least) (N := N_Packets_least) D0 sc_Packets_least (fun cdv A outer s H E C =>
    pss_c (pst_if (to_eq C (pd_fld A_Packets.mc A_Packets.cl (A_Packets.no _ (by simp)) (pd_var (pv 0))) (pd_lst (pk_nil))) (pss_1 (pst_ret (pd_non))) (pss_0))
    (pss_c (pst_set (i := 1) sc_Packets_least.nd (pd_lst (pk_nil)))
    (pss_c (pst_for C (pi_src (pd_fld A_Packets.mc A_Packets.cl (A_Packets.no _ (by simp)) (pd_var (pv 0)))) (pg_u (by rfl) (pgs_c (pg_n (i := 2) sc_Packets_least.nd) (pgs_c (pg_n (i := 3) sc_Packets_least.nd) (pgs_c (pg_n (i := 4) sc_Packets_least.nd) (pgs_c (pg_n (i := 5) sc_Packets_least.nd) (pgs_c (pg_n (i := 6) sc_Packets_least.nd) (pgs_0))))))) (pss_1 (pst_expr (pd_append (i := 1) (pv 1) (pd_tup (pk_cons (pd_var (pv 2)) (pk_cons (pd_tup (pk_cons (go_ix (pd_var (pv 3)) (pd_int)) (pk_cons (go_ix (pd_var (pv 4)) (pd_int)) (pk_nil)))) (pk_cons (pd_tup (pk_cons (go_ix (pd_var (pv 5)) (pd_int)) (pk_cons (go_ix (pd_var (pv 6)) (pd_int)) (pk_nil)))) (pk_nil)))))))))
    (pss_1 (pst_ret (go_minL C T.n_min (pv_cons (pd_var (pv 1)) (pv_nil)))))))) sp_Packets_least
abbrev N_Packets_turned : List Str := ["self", "block"]
theorem sc_Packets_turned : FnScope N_Packets_turned ["self"] (defScope s_Packets_turned) := ⟨rfl, rfl, rfl, by decide +kernel, rfl, by decide +kernel, by decide +kernel⟩
theorem ok_Packets_turned {dvs0 : List V} {kws0 : List (Str × V)} {f : Addr} {fd : FuncData} (_T : Tx K mg) {a_Packets : Addr} (A_Packets : ClAt K mg "Packets" a_Packets ["p_blocks"]) {f_turned_block : Addr} {d_turned_block : FuncData} (G_turned_block : DfAt P w K mg base "turned_block" f_turned_block d_turned_block ["block"] 1 fs_turned_block) {f_Packets_init : Addr} {d_Packets_init : FuncData} (M_Packets_init : MtAt P w K mg base a_Packets "__init__" f_Packets_init d_Packets_init ["self", "blocks"] 6 fs_Packets_init) (D0 : FunD K "turned" "Packets.turned" (defArgs s_Packets_turned) (defBody s_Packets_turned) (defScope s_Packets_turned) dvs0 kws0 f fd) :
    FnOk P w K mg base (L2N.CX P w) 8 f fd ["self"] (spOf K mg fs_Packets_turned 1) := by
  exact fn_pd (k := 7) (ws := w_Packets_turned) (N := N_Packets_turned) D0 sc_Packets_turned (fun cdv A outer s H E C =>
    pss_1 (pst_ret (pd_make C ⟨A_Packets.mkI, M_Packets_init.at_, M_Packets_init.isf, A_Packets.kp⟩ M_Packets_init.fn (by decide) A_Packets.mc M_Packets_init.bd .nil (fun _ => rfl) (pv_consK (pd_lc (own := [("block", 1)]) C sc_Packets_turned.nd (pi_src (pd_fld A_Packets.mc A_Packets.cl (A_Packets.no _ (by simp)) (pd_var (pv 0)))) (blkOk_by (N := N_Packets_turned) (sc := defScope s_Packets_turned) (own := [("block", 1)]) (by decide +kernel)) (fun i11 => pg_n (i := 1) sc_Packets_turned.nd) (fun i11 => pts_0) (fun i11 => pd_call (C.blk i11) G_turned_block.fn (by decide) G_turned_block.mx G_turned_block.kp G_turned_block.bd .nil (fun _ => rfl) (pv_consK (pd_var (pv 1)) (pv_nil)))) (pv_nil))))) sp_Packets_turned
abbrev N__law_pick : List Str := ["_law_draw", "_law_some"]
theorem sc__law_pick : FnScope N__law_pick ["_law_draw", "_law_some"] (defScope s__law_pick) := ⟨rfl, rfl, rfl, by decide +kernel, rfl, by decide +kernel, by decide +kernel⟩
theorem ok__law_pick {dvs0 : List V} {kws0 : List (Str × V)} {f : Addr} {fd : FuncData} (T : Tx K mg) {f__law_take : Addr} {d__law_take : FuncData} (G__law_take : DfAt P w K mg base "_law_take" f__law_take d__law_take ["_law_draw", "_law_size"] 1 fs__law_take) (D0 : FunD K "_law_pick" "_law_pick" (defArgs s__law_pick) (defBody s__law_pick) (defScope s__law_pick) dvs0 kws0 f fd) :
    FnOk P w K mg base (L2N.CX P w) 2 f fd ["_law_draw", "_law_some"] (spOf K mg fs__law_pick 2) := by
  exact fn_pd (k := 1) (ws := w__law_pick) (N := N__law_pick) D0 sc__law_pick (fun cdv A outer s H E C =>
    pss_1 (pst_ret (go_ix (pd_var (pv 1)) (pd_call C G__law_take.fn (by decide) G__law_take.mx G__law_take.kp G__law_take.bd .nil (fun _ => rfl) (pv_cons (pd_var (pv 0)) (pv_consK (go_len T.n_len (pv_cons (pd_var (pv 1)) (pv_nil))) (pv_nil))))))) sp__law_pick
abbrev N__law_in : List Str := ["_law_cell", "_law_card", "_law_numbers", "_law_low", "_law_high", "_law_number"]
theorem sc__law_in : FnScope N__law_in ["_law_cell", "_law_card"] (defScope s__law_in) := ⟨rfl, rfl, rfl, by decide +kernel, rfl, by decide +kernel, by decide +kernel⟩
theorem ok__law_in {dvs0 : List V} {kws0 : List (Str × V)} {f : Addr} {fd : FuncData} (T : Tx K mg)  (D0 : FunD K "_law_in" "_law_in" (defArgs s__law_in) (defBody s__law_in) (defScope s__law_in) dvs0 kws0 f fd) :
    FnOk P w K mg base (L2N.CX P w) 1 f fd ["_law_cell", "_law_card"] (spOf K mg fs__law_in 2) := by
  exact fn_pd (k := 0) (ws := w__law_in) (N := N__law_in) D0 sc__law_in (fun cdv A outer s H E C =>
    pss_c (pst_set (i := 2) sc__law_in.nd (pd_lst (pk_cons (go_ix (go_ix (pd_var (pv 1)) (pd_int)) (pd_int)) (pk_cons (go_ix (go_ix (pd_var (pv 1)) (pd_int)) (pd_int)) (pk_cons (go_ix (go_ix (pd_var (pv 1)) (pd_int)) (pd_int)) (pk_cons (go_ix (go_ix (pd_var (pv 1)) (pd_int)) (pd_int)) (pk_nil)))))))
    (pss_c (pst_if (pt_w (pw_a (to_isnot (go_ix (pd_var (pv 0)) (pd_int)) (pd_non)) (pw_a1 (to_ne C (go_ix (pd_var (pv 0)) (pd_int)) (go_ix (pd_var (pv 1)) (pd_int)))))) (pss_1 (pst_ret (pd_bl))) (pss_0))
    (pss_1 (pst_ret (go_eq C (pd_lc (own := [("_law_low", 3), ("_law_high", 4), ("_law_number", 5)]) C sc__law_in.nd (pi_zip2M (by rfl) T.n_zip (pd_slice (pd_var (pv 0)) (pso_some (pd_int)) (pso_none)) (pd_var (pv 2))) (blkOk_by (N := N__law_in) (sc := defScope s__law_in) (own := [("_law_low", 3), ("_law_high", 4), ("_law_number", 5)]) (by decide +kernel)) (fun i12 => pg_u (by rfl) (pgs_c (pg_u (by rfl) (pgs_c (pg_n (i := 3) sc__law_in.nd) (pgs_c (pg_n (i := 4) sc__law_in.nd) (pgs_0)))) (pgs_c (pg_n (i := 5) sc__law_in.nd) (pgs_0)))) (fun i12 => pts_1 (pt_n (to_lele (pd_var (pv 3)) (pd_var (pv 5)) (pd_var (pv 4))))) (fun i12 => pd_int)) (pd_lst (pk_nil))))))) sp__law_in
abbrev N__law_any_range : List Str := ["_law_draw", "_law_low"]
theorem sc__law_any_range : FnScope N__law_any_range ["_law_draw"] (defScope s__law_any_range) := ⟨rfl, rfl, rfl, by decide +kernel, rfl, by decide +kernel, by decide +kernel⟩
theorem ok__law_any_range {dvs0 : List V} {kws0 : List (Str × V)} {f : Addr} {fd : FuncData} (T : Tx K mg) {f__law_pick : Addr} {d__law_pick : FuncData} (G__law_pick : DfAt P w K mg base "_law_pick" f__law_pick d__law_pick ["_law_draw", "_law_some"] 2 fs__law_pick) {f__law_take : Addr} {d__law_take : FuncData} (G__law_take : DfAt P w K mg base "_law_take" f__law_take d__law_take ["_law_draw", "_law_size"] 1 fs__law_take) (D0 : FunD K "_law_any_range" "_law_any_range" (defArgs s__law_any_range) (defBody s__law_any_range) (defScope s__law_any_range) dvs0 kws0 f fd) :
    FnOk P w K mg base (L2N.CX P w) 3 f fd ["_law_draw"] (spOf K mg fs__law_any_range 1) := by
  exact fn_pd (k := 2) (ws := w__law_any_range) (N := N__law_any_range) D0 sc__law_any_range (fun cdv A outer s H E C =>
    pss_c (pst_set (i := 1) sc__law_any_range.nd (pd_call C G__law_pick.fn (by decide) G__law_pick.mx G__law_pick.kp G__law_pick.bd .nil (fun _ => rfl) (pv_cons (pd_var (pv 0)) (pv_consK (pd_lst (pk_cons (pd_int) (pk_cons (pd_int) (pk_cons (pd_call C G__law_take.fn (by decide) G__law_take.mx G__law_take.kp G__law_take.bd .nil (fun _ => rfl) (pv_cons (pd_var (pv 0)) (pv_consK (pd_int) (pv_nil)))) (pk_cons (pd_call C G__law_take.fn (by decide) G__law_take.mx G__law_take.kp G__law_take.bd .nil (fun _ => rfl) (pv_cons (pd_var (pv 0)) (pv_consK (pd_int) (pv_nil)))) (pk_nil)))))) (pv_nil)))))
    (pss_1 (pst_ret (pd_tup (pk_cons (pd_var (pv 1)) (pk_cons (go_min2 C T.n_min (pv_cons (pd_int) (pv_cons (go_add (pd_var (pv 1)) (pd_call C G__law_pick.fn (by decide) G__law_pick.mx G__law_pick.kp G__law_pick.bd .nil (fun _ => rfl) (pv_cons (pd_var (pv 0)) (pv_consK (pd_lst (pk_cons (pd_int) (pk_cons (pd_int) (pk_cons (pd_int) (pk_cons (pd_call C G__law_take.fn (by decide) G__law_take.mx G__law_take.kp G__law_take.bd .nil (fun _ => rfl) (pv_cons (pd_var (pv 0)) (pv_consK (pd_int) (pv_nil)))) (pk_nil)))))) (pv_nil))))) (pv_nil)))) (pk_nil))))))) sp__law_any_range
abbrev N__law_any_cells : List Str := ["_law_draw", "_law_found", "_law_k", "_law_sort", "_law_at", "_law_last", "_law_low", "_law_field"]
theorem sc__law_any_cells : FnScope N__law_any_cells ["_law_draw"] (defScope s__law_any_cells) := ⟨rfl, rfl, rfl, by decide +kernel, rfl, by decide +kernel, by decide +kernel⟩
theorem ok__law_any_cells {dvs0 : List V} {kws0 : List (Str × V)} {f : Addr} {fd : FuncData} (T : Tx K mg) {f__law_any_range : Addr} {d__law_any_range : FuncData} (G__law_any_range : DfAt P w K mg base "_law_any_range" f__law_any_range d__law_any_range ["_law_draw"] 3 fs__law_any_range) {f__law_pick : Addr} {d__law_pick : FuncData} (G__law_pick : DfAt P w K mg base "_law_pick" f__law_pick d__law_pick ["_law_draw", "_law_some"] 2 fs__law_pick) {f__law_take : Addr} {d__law_take : FuncData} (G__law_take : DfAt P w K mg base "_law_take" f__law_take d__law_take ["_law_draw", "_law_size"] 1 fs__law_take) (D0 : FunD K "_law_any_cells" "_law_any_cells" (defArgs s__law_any_cells) (defBody s__law_any_cells) (defScope s__law_any_cells) dvs0 kws0 f fd) :
    FnOk P w K mg base (L2N.CX P w) 4 f fd ["_law_draw"] (spOf K mg fs__law_any_cells 1) := by
  exact fn_pd (k := 3) (ws := w__law_any_cells) (N := N__law_any_cells) D0 sc__law_any_cells (fun cdv A outer s H E C =>
    pss_c (pst_set (i := 1) sc__law_any_cells.nd (pd_lst (pk_nil)))
    (pss_c (pst_for C (pi_rng1 (by rfl) T.n_range (pd_call C G__law_take.fn (by decide) G__law_take.mx G__law_take.kp G__law_take.bd .nil (fun _ => rfl) (pv_cons (pd_var (pv 0)) (pv_consK (pd_int) (pv_nil))))) (pg_n (i := 2) sc__law_any_cells.nd) (pss_c (pst_set (i := 3) sc__law_any_cells.nd (pd_call C G__law_pick.fn (by decide) G__law_pick.mx G__law_pick.kp G__law_pick.bd .nil (fun _ => rfl) (pv_cons (pd_var (pv 0)) (pv_consK (pd_lst (pk_cons (pd_str) (pk_cons (pd_str) (pk_cons (pd_str) (pk_cons (pd_str) (pk_nil)))))) (pv_nil)))))
    (pss_c (pst_expr (pd_append (i := 1) (pv 1) (go_add (pd_tup (pk_cons (pd_var (pv 3)) (pk_nil))) (go_tuple T.n_tuple (pv_cons (pd_lc (own := [("_law_field", 7)]) C sc__law_any_cells.nd (pi_rng1 (by rfl) T.n_range (pd_int)) (blkOk_by (N := N__law_any_cells) (sc := defScope s__law_any_cells) (own := [("_law_field", 7)]) (by decide +kernel)) (fun i13 => pg_n (i := 7) sc__law_any_cells.nd) (fun i13 => pts_0) (fun i13 => pd_call (C.blk i13) G__law_any_range.fn (by decide) G__law_any_range.mx G__law_any_range.kp G__law_any_range.bd .nil (fun _ => rfl) (pv_cons (pd_var (pv 0)) (pv_nil)))) (pv_nil))))))
    (pss_1 (pst_if (to_eq C (pd_call C G__law_take.fn (by decide) G__law_take.mx G__law_take.kp G__law_take.bd .nil (fun _ => rfl) (pv_cons (pd_var (pv 0)) (pv_consK (pd_int) (pv_nil)))) (pd_int)) (pss_c (pst_par (i := 4) (j := 5) (by rfl) sc__law_any_cells.nd (go_add (pd_int) (pd_call C G__law_take.fn (by decide) G__law_take.mx G__law_take.kp G__law_take.bd .nil (fun _ => rfl) (pv_cons (pd_var (pv 0)) (pv_consK (pd_int) (pv_nil))))) (go_ix (pd_var (pv 1)) (go_neg (pd_int))) (by first | rfl | kernel_rfl))
    (pss_c (pst_set (i := 6) sc__law_any_cells.nd (go_min2 C T.n_min (pv_cons (pd_int) (pv_cons (go_add (go_ix (go_ix (pd_var (pv 5)) (pd_var (pv 4))) (pd_int)) (pd_int)) (pv_nil)))))
    (pss_1 (pst_expr (pd_append (i := 1) (pv 1) (go_add (go_add (pd_slice (pd_var (pv 5)) (pso_none) (pso_some (pd_var (pv 4)))) (pd_tup (pk_cons (pd_tup (pk_cons (pd_var (pv 6)) (pk_cons (go_min2 C T.n_min (pv_cons (pd_int) (pv_cons (go_add (pd_var (pv 6)) (pd_call C G__law_take.fn (by decide) G__law_take.mx G__law_take.kp G__law_take.bd .nil (fun _ => rfl) (pv_cons (pd_var (pv 0)) (pv_consK (pd_int) (pv_nil))))) (pv_nil)))) (pk_nil)))) (pk_nil)))) (pd_slice (pd_var (pv 5)) (pso_some (go_add (pd_var (pv 4)) (pd_int))) (pso_none)))))))) (pss_0))))))
    (pss_1 (pst_ret (pd_var (pv 1)))))) sp__law_any_cells
abbrev N__law_cuts : List Str := ["_law_cells", "_law_at", "_law_ends", "_law_cell"]
theorem sc__law_cuts : FnScope N__law_cuts ["_law_cells", "_law_at"] (defScope s__law_cuts) := ⟨rfl, rfl, rfl, by decide +kernel, rfl, by decide +kernel, by decide +kernel⟩
theorem ok__law_cuts {dvs0 : List V} {kws0 : List (Str × V)} {f : Addr} {fd : FuncData} (T : Tx K mg)  (D0 : FunD K "_law_cuts" "_law_cuts" (defArgs s__law_cuts) (defBody s__law_cuts) (defScope s__law_cuts) dvs0 kws0 f fd) :
    FnOk P w K mg base (L2N.CX P w) 1 f fd ["_law_cells", "_law_at"] (spOf K mg fs__law_cuts 2) := by
  exact fn_pd (k := 0) (ws := w__law_cuts) (N := N__law_cuts) D0 sc__law_cuts (fun cdv A outer s H E C =>
    pss_c (pst_setLc (i := 2) (own := [("_law_cell", 3)]) C sc__law_cuts.nd (pi_src (pd_var (pv 0))) (blkOk_by (N := N__law_cuts) (sc := defScope s__law_cuts) (own := [("_law_cell", 3)]) (by decide +kernel)) (fun i15 => pg_n (i := 3) sc__law_cuts.nd) (fun i15 => pts_1 (to_lt (go_ix (go_ix (pd_var (pv 3)) (pd_var (pv 1))) (pd_int)) (pd_int))) (fun i15 => go_add (go_ix (go_ix (pd_var (pv 3)) (pd_var (pv 1))) (pd_int)) (pd_int)) (sw_true rfl rfl rfl (by decide +kernel)))
    (pss_1 (pst_ret (go_sortSet C T.n_sorted T.n_set (pv_cons (go_add (go_add (pd_lst (pk_cons (pd_int) (pk_nil))) (pd_lc (own := [("_law_cell", 3)]) C sc__law_cuts.nd (pi_src (pd_var (pv 0))) (blkOk_by (N := N__law_cuts) (sc := defScope s__law_cuts) (own := [("_law_cell", 3)]) (by decide +kernel)) (fun i14 => pg_n (i := 3) sc__law_cuts.nd) (fun i14 => pts_0) (fun i14 => go_ix (go_ix (pd_var (pv 3)) (pd_var (pv 1))) (pd_int)))) (pd_var (pv 2))) (pv_nil)))))) sp__law_cuts
abbrev N__law_corners : List Str := ["_law_cells", "_law_found", "_law_rows", "_law_at", "_law_sort", "_law_address", "_law_door", "_law_goal", "_law_cell", "_law_last", "_law_row"]
theorem sc__law_corners : FnScope N__law_corners ["_law_cells"] (defScope s__law_corners) := ⟨rfl, rfl, rfl, by decide +kernel, rfl, by decide +kernel, by decide +kernel⟩
theorem ok__law_corners {dvs0 : List V} {kws0 : List (Str × V)} {f : Addr} {fd : FuncData} (T : Tx K mg) {f__law_cuts : Addr} {d__law_cuts : FuncData} (G__law_cuts : DfAt P w K mg base "_law_cuts" f__law_cuts d__law_cuts ["_law_cells", "_law_at"] 1 fs__law_cuts) (D0 : FunD K "_law_corners" "_law_corners" (defArgs s__law_corners) (defBody s__law_corners) (defScope s__law_corners) dvs0 kws0 f fd) :
    FnOk P w K mg base (L2N.CX P w) 2 f fd ["_law_cells"] (spOf K mg fs__law_corners 1) := by
  exact fn_pd (k := 1) (ws := w__law_corners) (N := N__law_corners) D0 sc__law_corners (fun cdv A outer s H E C =>
    pss_c (pst_par (i := 1) (j := 2) (by rfl) sc__law_corners.nd (pd_lst (pk_nil)) (pd_lc (own := [("_law_at", 3)]) C sc__law_corners.nd (pi_rng2 (by rfl) T.n_range (pd_int) (pd_int)) (blkOk_by (N := N__law_corners) (sc := defScope s__law_corners) (own := [("_law_at", 3)]) (by decide +kernel)) (fun i19 => pg_n (i := 3) sc__law_corners.nd) (fun i19 => pts_0) (fun i19 => pd_call (C.blk i19) G__law_cuts.fn (by decide) G__law_cuts.mx G__law_cuts.kp G__law_cuts.bd .nil (fun _ => rfl) (pv_consK (pd_var (pv 0)) (pv_consK (pd_var (pv 3)) (pv_nil))))) (by first | rfl | kernel_rfl))
    (pss_c (pst_for C (pi_src (go_sortSet C T.n_sorted T.n_set (pv_cons (pd_lc (own := [("_law_cell", 8)]) C sc__law_corners.nd (pi_src (pd_var (pv 0))) (blkOk_by (N := N__law_corners) (sc := defScope s__law_corners) (own := [("_law_cell", 8)]) (by decide +kernel)) (fun i17 => pg_n (i := 8) sc__law_corners.nd) (fun i17 => pts_0) (fun i17 => go_ix (pd_var (pv 8)) (pd_int))) (pv_nil)))) (pg_n (i := 4) sc__law_corners.nd) (pss_1 (pst_for C (pi_src (go_ix (pd_var (pv 2)) (pd_int))) (pg_n (i := 5) sc__law_corners.nd) (pss_1 (pst_for C (pi_src (go_ix (pd_var (pv 2)) (pd_int))) (pg_n (i := 6) sc__law_corners.nd) (pss_1 (pst_for C (pi_src (go_ix (pd_var (pv 2)) (pd_int))) (pg_n (i := 7) sc__law_corners.nd) (pss_1 (pst_expr (pd_extend (i := 1) (pv 1) (pd_lc (own := [("_law_last", 9)]) C sc__law_corners.nd (pi_src (go_ix (pd_var (pv 2)) (pd_int))) (blkOk_by (N := N__law_corners) (sc := defScope s__law_corners) (own := [("_law_last", 9)]) (by decide +kernel)) (fun i18 => pg_n (i := 9) sc__law_corners.nd) (fun i18 => pts_0) (fun i18 => pd_tup (pk_cons (pd_var (pv 4)) (pk_cons (pd_tup (pk_cons (pd_var (pv 5)) (pk_cons (pd_var (pv 6)) (pk_nil)))) (pk_cons (pd_tup (pk_cons (pd_var (pv 7)) (pk_cons (pd_var (pv 9)) (pk_nil)))) (pk_nil))))))))))))))))
    (pss_1 (pst_ret (pd_tup (pk_cons (pd_var (pv 1)) (pk_cons (pd_lc (own := [("_law_row", 10)]) C sc__law_corners.nd (pi_src (pd_var (pv 2))) (blkOk_by (N := N__law_corners) (sc := defScope s__law_corners) (own := [("_law_row", 10)]) (by decide +kernel)) (fun i16 => pg_n (i := 10) sc__law_corners.nd) (fun i16 => pts_0) (fun i16 => go_dict (C.blk i16) T.n_dict (pv_cons (go_lstZip (C.blk i16) T.n_list T.n_zip (pv_cons (pd_var (pv 10)) (pv_cons (go_add (pd_slice (pd_var (pv 10)) (pso_some (pd_int)) (pso_none)) (pd_lst (pk_cons (pd_int) (pk_nil)))) (pv_nil)))) (pv_nil)))) (pk_nil)))))))) sp__law_corners
abbrev N__law_volume : List Str := ["_law_ends", "_law_card", "_law_numbers", "_law_found", "_law_row", "_law_number"]
theorem sc__law_volume : FnScope N__law_volume ["_law_ends", "_law_card"] (defScope s__law_volume) := ⟨rfl, rfl, rfl, by decide +kernel, rfl, by decide +kernel, by decide +kernel⟩
theorem ok__law_volume {dvs0 : List V} {kws0 : List (Str × V)} {f : Addr} {fd : FuncData} (T : Tx K mg)  (D0 : FunD K "_law_volume" "_law_volume" (defArgs s__law_volume) (defBody s__law_volume) (defScope s__law_volume) dvs0 kws0 f fd) :
    FnOk P w K mg base (L2N.CX P w) 1 f fd ["_law_ends", "_law_card"] (spOf K mg fs__law_volume 2) := by
  exact fn_pd (k := 0) (ws := w__law_volume) (N := N__law_volume) D0 sc__law_volume (fun cdv A outer s H E C =>
    pss_c (pst_set (i := 2) sc__law_volume.nd (pd_lst (pk_cons (go_ix (go_ix (pd_var (pv 1)) (pd_int)) (pd_int)) (pk_cons (go_ix (go_ix (pd_var (pv 1)) (pd_int)) (pd_int)) (pk_cons (go_ix (go_ix (pd_var (pv 1)) (pd_int)) (pd_int)) (pk_cons (go_ix (go_ix (pd_var (pv 1)) (pd_int)) (pd_int)) (pk_nil)))))))
    (pss_c (pst_set (i := 3) sc__law_volume.nd (pd_int))
    (pss_c (pst_for C (pi_zip2 (by rfl) T.n_zip (pd_var (pv 0)) (pd_var (pv 2))) (pg_u (by rfl) (pgs_c (pg_n (i := 4) sc__law_volume.nd) (pgs_c (pg_n (i := 5) sc__law_volume.nd) (pgs_0)))) (pss_1 (pst_set (i := 3) sc__law_volume.nd (go_mul (pd_var (pv 3)) (go_sub (go_dget C (pd_var (pv 4)) (pd_var (pv 5))) (pd_var (pv 5)))))))
    (pss_1 (pst_ret (pd_var (pv 3))))))) sp__law_volume
abbrev N__law_block_size : List Str := ["_law_cell", "_law_found", "_law_low", "_law_high"]
theorem sc__law_block_size : FnScope N__law_block_size ["_law_cell"] (defScope s__law_block_size) := ⟨rfl, rfl, rfl, by decide +kernel, rfl, by decide +kernel, by decide +kernel⟩
theorem ok__law_block_size {dvs0 : List V} {kws0 : List (Str × V)} {f : Addr} {fd : FuncData} (_T : Tx K mg)  (D0 : FunD K "_law_block_size" "_law_block_size" (defArgs s__law_block_size) (defBody s__law_block_size) (defScope s__law_block_size) dvs0 kws0 f fd) :
    FnOk P w K mg base (L2N.CX P w) 1 f fd ["_law_cell"] (spOf K mg fs__law_block_size 1) := by
  exact fn_pd (k := 0) (ws := w__law_block_size) (N := N__law_block_size) D0 sc__law_block_size (fun cdv A outer s H E C =>
    pss_c (pst_set (i := 1) sc__law_block_size.nd (pd_int))
    (pss_c (pst_for C (pi_src (pd_slice (pd_var (pv 0)) (pso_some (pd_int)) (pso_none))) (pg_u (by rfl) (pgs_c (pg_n (i := 2) sc__law_block_size.nd) (pgs_c (pg_n (i := 3) sc__law_block_size.nd) (pgs_0)))) (pss_1 (pst_set (i := 1) sc__law_block_size.nd (go_mul (pd_var (pv 1)) (go_add (go_sub (pd_var (pv 3)) (pd_var (pv 2))) (pd_int))))))
    (pss_1 (pst_ret (pd_var (pv 1)))))) sp__law_block_size
abbrev N__law_set_right : List Str := ["_law_some", "_law_cards", "_law_ends", "_law_due", "_law_card", "_law_cell", "_law_least"]
theorem sc__law_set_right : FnScope N__law_set_right ["_law_some", "_law_cards", "_law_ends", "_law_due"] (defScope s__law_set_right) := ⟨rfl, rfl, rfl, by decide +kernel, rfl, by decide +kernel, by decide +kernel⟩
theorem ok__law_set_right {dvs0 : List V} {kws0 : List (Str × V)} {f : Addr} {fd : FuncData} (T : Tx K mg) {a_Packets : Addr} (A_Packets : ClAt K mg "Packets" a_Packets ["p_blocks"]) {f__law_block_size : Addr} {d__law_block_size : FuncData} (G__law_block_size : DfAt P w K mg base "_law_block_size" f__law_block_size d__law_block_size ["_law_cell"] 1 fs__law_block_size) {f__law_volume : Addr} {d__law_volume : FuncData} (G__law_volume : DfAt P w K mg base "_law_volume" f__law_volume d__law_volume ["_law_ends", "_law_card"] 1 fs__law_volume) {f_Packets_contains : Addr} {d_Packets_contains : FuncData} (M_Packets_contains : MtAt P w K mg base a_Packets "__contains__" f_Packets_contains d_Packets_contains ["self", "packet"] 4 fs_Packets_contains) {f_Packets_blocks : Addr} {d_Packets_blocks : FuncData} (M_Packets_blocks : MtAt P w K mg base a_Packets "blocks" f_Packets_blocks d_Packets_blocks ["self"] 1 fs_Packets_blocks) {f_Packets_least : Addr} {d_Packets_least : FuncData} (M_Packets_least : MtAt P w K mg base a_Packets "least" f_Packets_least d_Packets_least ["self"] 1 fs_Packets_least) {f_Packets_size : Addr} {d_Packets_size : FuncData} (M_Packets_size : MtAt P w K mg base a_Packets "size" f_Packets_size d_Packets_size ["self"] 2 fs_Packets_size) (HW : HasT.W = w) (D0 : FunD K "_law_set_right" "_law_set_right" (defArgs s__law_set_right) (defBody s__law_set_right) (defScope s__law_set_right) dvs0 kws0 f fd) :
    FnOk P w K mg base (L2N.CX P w) 5 f fd ["_law_some", "_law_cards", "_law_ends", "_law_due"] (spOf K mg fs__law_set_right 4) := by
  exact fn_pd (k := 4) (ws := w__law_set_right) (N := N__law_set_right) D0 sc__law_set_right (fun cdv A outer s H E C =>
    pss_c (pst_if (to_ne C (pd_meth0 C A_Packets.mc A_Packets.cl ⟨M_Packets_size.at_, M_Packets_size.isf, M_Packets_size.kp⟩ M_Packets_size.fn (by decide) M_Packets_size.bd .nil (fun _ => rfl) (pd_var (pv 0))) (go_sum C T.n_sum (pv_cons (pd_lc (own := [("_law_card", 4)]) C sc__law_set_right.nd (pi_src (pd_var (pv 1))) (blkOk_by (N := N__law_set_right) (sc := defScope s__law_set_right) (own := [("_law_card", 4)]) (by decide +kernel)) (fun i23 => pg_n (i := 4) sc__law_set_right.nd) (fun i23 => pts_1 (pt_b (go_xget HW (C.blk i23) (pd_var (pv 3)) (pd_var (pv 4))))) (fun i23 => pd_call (C.blk i23) G__law_volume.fn (by decide) G__law_volume.mx G__law_volume.kp G__law_volume.bd .nil (fun _ => rfl) (pv_consK (pd_var (pv 2)) (pv_consK (pd_var (pv 4)) (pv_nil))))) (pv_nil)))) (pss_1 (pst_ret (pd_bl))) (pss_0))
    (pss_c (pst_if (to_ne C (go_sum C T.n_sum (pv_cons (pd_lc (own := [("_law_cell", 5)]) C sc__law_set_right.nd (pi_src (pd_meth0 C A_Packets.mc A_Packets.cl ⟨M_Packets_blocks.at_, M_Packets_blocks.isf, M_Packets_blocks.kp⟩ M_Packets_blocks.fn (by decide) M_Packets_blocks.bd .nil (fun _ => rfl) (pd_var (pv 0)))) (blkOk_by (N := N__law_set_right) (sc := defScope s__law_set_right) (own := [("_law_cell", 5)]) (by decide +kernel)) (fun i22 => pg_n (i := 5) sc__law_set_right.nd) (fun i22 => pts_0) (fun i22 => pd_call (C.blk i22) G__law_block_size.fn (by decide) G__law_block_size.mx G__law_block_size.kp G__law_block_size.bd .nil (fun _ => rfl) (pv_consK (pd_var (pv 5)) (pv_nil)))) (pv_nil))) (pd_meth0 C A_Packets.mc A_Packets.cl ⟨M_Packets_size.at_, M_Packets_size.isf, M_Packets_size.kp⟩ M_Packets_size.fn (by decide) M_Packets_size.bd .nil (fun _ => rfl) (pd_var (pv 0)))) (pss_1 (pst_ret (pd_bl))) (pss_0))
    (pss_c (pst_set (i := 6) sc__law_set_right.nd (pd_slice (go_sorted C T.n_sorted (pv_cons (pd_lc (own := [("_law_card", 4)]) C sc__law_set_right.nd (pi_src (pd_var (pv 1))) (blkOk_by (N := N__law_set_right) (sc := defScope s__law_set_right) (own := [("_law_card", 4)]) (by decide +kernel)) (fun i21 => pg_n (i := 4) sc__law_set_right.nd) (fun i21 => pts_1 (pt_b (go_xget HW (C.blk i21) (pd_var (pv 3)) (pd_var (pv 4))))) (fun i21 => pd_var (pv 4))) (pv_nil))) (pso_none) (pso_some (pd_int))))
    (pss_c (pst_if (to_ne C (pd_lst (pk_cons (pd_meth0 C A_Packets.mc A_Packets.cl ⟨M_Packets_least.at_, M_Packets_least.isf, M_Packets_least.kp⟩ M_Packets_least.fn (by decide) M_Packets_least.bd .nil (fun _ => rfl) (pd_var (pv 0))) (pk_nil))) (pd_orL (pd_var (pv 6)) (pd_one (pd_lst (pk_cons (pd_non) (pk_nil)))))) (pss_1 (pst_ret (pd_bl))) (pss_0))
    (pss_1 (pst_ret (go_eq C (pd_lc (own := [("_law_card", 4)]) C sc__law_set_right.nd (pi_src (pd_var (pv 1))) (blkOk_by (N := N__law_set_right) (sc := defScope s__law_set_right) (own := [("_law_card", 4)]) (by decide +kernel)) (fun i20 => pg_n (i := 4) sc__law_set_right.nd) (fun i20 => pts_1 (to_ne (C.blk i20) (pd_ownIn (C.blk i20) A_Packets.mc M_Packets_contains.at_ M_Packets_contains.isf M_Packets_contains.fn (by decide) M_Packets_contains.bd (pd_var (pv 4)) (pd_var (pv 0))) (go_xget HW (C.blk i20) (pd_var (pv 3)) (pd_var (pv 4))))) (fun i20 => pd_var (pv 4))) (pd_lst (pk_nil))))))))) sp__law_set_right
abbrev N_law : List Str := ["_law_script", "_law_draw", "_law_turn", "_law_mine", "_law_yours", "_law_first", "_law_second", "_law_cards", "_law_ends", "_law_has", "_law_had", "_law_card", "_law_less", "_law_cell"]
theorem sc_law : FnScope N_law ["_law_script"] (defScope s_law) := ⟨rfl, rfl, rfl, by decide +kernel, rfl, by decide +kernel, by decide +kernel⟩
theorem ok_law {dvs0 : List V} {kws0 : List (Str × V)} {f : Addr} {fd : FuncData} (T : Tx K mg) {a_Packets : Addr} (A_Packets : ClAt K mg "Packets" a_Packets ["p_blocks"]) {f__law_any_cells : Addr} {d__law_any_cells : FuncData} (G__law_any_cells : DfAt P w K mg base "_law_any_cells" f__law_any_cells d__law_any_cells ["_law_draw"] 4 fs__law_any_cells) {f__law_begin : Addr} {d__law_begin : FuncData} (G__law_begin : DfAt P w K mg base "_law_begin" f__law_begin d__law_begin ["_law_script"] 1 fs__law_begin) {f__law_corners : Addr} {d__law_corners : FuncData} (G__law_corners : DfAt P w K mg base "_law_corners" f__law_corners d__law_corners ["_law_cells"] 2 fs__law_corners) {f__law_in : Addr} {d__law_in : FuncData} (G__law_in : DfAt P w K mg base "_law_in" f__law_in d__law_in ["_law_cell", "_law_card"] 1 fs__law_in) {f__law_set_right : Addr} {d__law_set_right : FuncData} (G__law_set_right : DfAt P w K mg base "_law_set_right" f__law_set_right d__law_set_right ["_law_some", "_law_cards", "_law_ends", "_law_due"] 5 fs__law_set_right) {f_Packets_and : Addr} {d_Packets_and : FuncData} (M_Packets_and : MtAt P w K mg base a_Packets "__and__" f_Packets_and d_Packets_and ["self", "other"] 8 fs_Packets_and) {f_Packets_init : Addr} {d_Packets_init : FuncData} (M_Packets_init : MtAt P w K mg base a_Packets "__init__" f_Packets_init d_Packets_init ["self", "blocks"] 6 fs_Packets_init) {f_Packets_or : Addr} {d_Packets_or : FuncData} (M_Packets_or : MtAt P w K mg base a_Packets "__or__" f_Packets_or d_Packets_or ["self", "other"] 8 fs_Packets_or) {f_Packets_sub : Addr} {d_Packets_sub : FuncData} (M_Packets_sub : MtAt P w K mg base a_Packets "__sub__" f_Packets_sub d_Packets_sub ["self", "other"] 8 fs_Packets_sub) {f_Packets_size : Addr} {d_Packets_size : FuncData} (M_Packets_size : MtAt P w K mg base a_Packets "size" f_Packets_size d_Packets_size ["self"] 2 fs_Packets_size) {f_Packets_turned : Addr} {d_Packets_turned : FuncData} (M_Packets_turned : MtAt P w K mg base a_Packets "turned" f_Packets_turned d_Packets_turned ["self"] 8 fs_Packets_turned) (HW : HasT.W = w) (D0 : FunD K "law" "law" (defArgs s_law) (defBody s_law) (defScope s_law) dvs0 kws0 f fd) :
    FnOk P w K mg base (L2N.CX P w) 9 f fd ["_law_script"] (spOf K mg fs_law 1) := by
  exact fn_pd (k := 8) (ws := w_law) (N := N_law) D0 sc_law (fun cdv A outer s H E C =>
    pss_c (pst_set (i := 1) sc_law.nd (pd_call C G__law_begin.fn (by decide) G__law_begin.mx G__law_begin.kp G__law_begin.bd .nil (fun _ => rfl) (pv_consK (pd_var (pv 0)) (pv_nil))))
    (pss_c (pst_for C (pi_rng1 (by rfl) T.n_range (go_add (pd_int) (go_min2 C T.n_min (pv_cons (go_len T.n_len (pv_cons (pd_var (pv 0)) (pv_nil))) (pv_cons (pd_int) (pv_nil)))))) (pg_n (i := 2) sc_law.nd) (pss_c (pst_par (i := 3) (j := 4) (by rfl) sc_law.nd (pd_slice (pd_call C G__law_any_cells.fn (by decide) G__law_any_cells.mx G__law_any_cells.kp G__law_any_cells.bd .nil (fun _ => rfl) (pv_cons (pd_var (pv 1)) (pv_nil))) (pso_none) (pso_some (pd_int))) (pd_slice (pd_call C G__law_any_cells.fn (by decide) G__law_any_cells.mx G__law_any_cells.kp G__law_any_cells.bd .nil (fun _ => rfl) (pv_cons (pd_var (pv 1)) (pv_nil))) (pso_none) (pso_some (pd_int))) (by first | rfl | kernel_rfl))
    (pss_c (pst_par (i := 5) (j := 6) (by rfl) sc_law.nd (pd_make C ⟨A_Packets.mkI, M_Packets_init.at_, M_Packets_init.isf, A_Packets.kp⟩ M_Packets_init.fn (by decide) A_Packets.mc M_Packets_init.bd .nil (fun _ => rfl) (pv_consK (pd_var (pv 3)) (pv_nil))) (pd_make C ⟨A_Packets.mkI, M_Packets_init.at_, M_Packets_init.isf, A_Packets.kp⟩ M_Packets_init.fn (by decide) A_Packets.mc M_Packets_init.bd .nil (fun _ => rfl) (pv_consK (pd_var (pv 4)) (pv_nil))) (by first | rfl | kernel_rfl))
    (pss_c (pst_asg (pd_call C G__law_corners.fn (by decide) G__law_corners.mx G__law_corners.kp G__law_corners.bd .nil (fun _ => rfl) (pv_consK (go_add (pd_var (pv 3)) (pd_var (pv 4))) (pv_nil))) (pg_u (by rfl) (pgs_c (pg_n (i := 7) sc_law.nd) (pgs_c (pg_n (i := 8) sc_law.nd) (pgs_0)))))
    (pss_c (pst_parc (i := 9) (j := 10) (by rfl) sc_law.nd (pd_dix0 HW) (pd_dix0 HW) (by first | rfl | kernel_rfl))
    (pss_c (pst_for C (pi_src (pd_var (pv 7))) (pg_n (i := 11) sc_law.nd) (pss_c (pst_putX HW (i := 9) C (pv 9) (go_ne C (pd_lc (own := [("_law_cell", 13)]) C sc_law.nd (pi_src (pd_var (pv 3))) (blkOk_by (N := N_law) (sc := defScope s_law) (own := [("_law_cell", 13)]) (by decide +kernel)) (fun i28 => pg_n (i := 13) sc_law.nd) (fun i28 => pts_1 (pt_b (pd_call (C.blk i28) G__law_in.fn (by decide) G__law_in.mx G__law_in.kp G__law_in.bd .nil (fun _ => rfl) (pv_consK (pd_var (pv 13)) (pv_consK (pd_var (pv 11)) (pv_nil)))))) (fun i28 => pd_var (pv 13))) (pd_lst (pk_nil))) (pd_var (pv 11)))
    (pss_1 (pst_putX HW (i := 10) C (pv 10) (go_ne C (pd_lc (own := [("_law_cell", 13)]) C sc_law.nd (pi_src (pd_var (pv 4))) (blkOk_by (N := N_law) (sc := defScope s_law) (own := [("_law_cell", 13)]) (by decide +kernel)) (fun i27 => pg_n (i := 13) sc_law.nd) (fun i27 => pts_1 (pt_b (pd_call (C.blk i27) G__law_in.fn (by decide) G__law_in.mx G__law_in.kp G__law_in.bd .nil (fun _ => rfl) (pv_consK (pd_var (pv 13)) (pv_consK (pd_var (pv 11)) (pv_nil)))))) (fun i27 => pd_var (pv 13))) (pd_lst (pk_nil))) (pd_var (pv 11))))))
    (pss_c (pst_if (pt_n (pt_b (pd_call C G__law_set_right.fn (by decide) G__law_set_right.mx G__law_set_right.kp G__law_set_right.bd .nil (fun _ => rfl) (pv_consK (pd_own C A_Packets.mc M_Packets_or.at_ M_Packets_or.isf A_Packets.sf M_Packets_or.fn (by decide) M_Packets_or.bd (pd_var (pv 5)) (pd_var (pv 6))) (pv_consK (pd_var (pv 7)) (pv_consK (pd_var (pv 8)) (pv_consK (go_dictX HW C T.n_dict (pv_cons (pd_lc (own := [("_law_card", 11)]) C sc_law.nd (pi_src (pd_var (pv 7))) (blkOk_by (N := N_law) (sc := defScope s_law) (own := [("_law_card", 11)]) (by decide +kernel)) (fun i26 => pg_n (i := 11) sc_law.nd) (fun i26 => pts_0) (fun i26 => pd_tup (pk_cons (pd_var (pv 11)) (pk_cons (pd_or (go_xget HW (C.blk i26) (pd_var (pv 9)) (pd_var (pv 11))) (pd_one (go_xget HW (C.blk i26) (pd_var (pv 10)) (pd_var (pv 11))))) (pk_nil))))) (pv_nil))) (pv_nil)))))))) (pss_1 (pst_ret (pd_bl))) (pss_0))
    (pss_c (pst_if (pt_n (pt_b (pd_call C G__law_set_right.fn (by decide) G__law_set_right.mx G__law_set_right.kp G__law_set_right.bd .nil (fun _ => rfl) (pv_consK (pd_own C A_Packets.mc M_Packets_and.at_ M_Packets_and.isf A_Packets.sf M_Packets_and.fn (by decide) M_Packets_and.bd (pd_var (pv 5)) (pd_var (pv 6))) (pv_consK (pd_var (pv 7)) (pv_consK (pd_var (pv 8)) (pv_consK (go_dictX HW C T.n_dict (pv_cons (pd_lc (own := [("_law_card", 11)]) C sc_law.nd (pi_src (pd_var (pv 7))) (blkOk_by (N := N_law) (sc := defScope s_law) (own := [("_law_card", 11)]) (by decide +kernel)) (fun i25 => pg_n (i := 11) sc_law.nd) (fun i25 => pts_0) (fun i25 => pd_tup (pk_cons (pd_var (pv 11)) (pk_cons (pd_and (go_xget HW (C.blk i25) (pd_var (pv 9)) (pd_var (pv 11))) (pd_one (go_xget HW (C.blk i25) (pd_var (pv 10)) (pd_var (pv 11))))) (pk_nil))))) (pv_nil))) (pv_nil)))))))) (pss_1 (pst_ret (pd_bl))) (pss_0))
    (pss_c (pst_set (i := 12) sc_law.nd (go_dictX HW C T.n_dict (pv_cons (pd_lc (own := [("_law_card", 11)]) C sc_law.nd (pi_src (pd_var (pv 7))) (blkOk_by (N := N_law) (sc := defScope s_law) (own := [("_law_card", 11)]) (by decide +kernel)) (fun i24 => pg_n (i := 11) sc_law.nd) (fun i24 => pts_0) (fun i24 => pd_tup (pk_cons (pd_var (pv 11)) (pk_cons (pd_and (go_xget HW (C.blk i24) (pd_var (pv 9)) (pd_var (pv 11))) (pd_one (pd_not (go_xget HW (C.blk i24) (pd_var (pv 10)) (pd_var (pv 11)))))) (pk_nil))))) (pv_nil))))
    (pss_c (pst_if (pt_n (pt_b (pd_call C G__law_set_right.fn (by decide) G__law_set_right.mx G__law_set_right.kp G__law_set_right.bd .nil (fun _ => rfl) (pv_consK (pd_own C A_Packets.mc M_Packets_sub.at_ M_Packets_sub.isf A_Packets.sf M_Packets_sub.fn (by decide) M_Packets_sub.bd (pd_var (pv 5)) (pd_var (pv 6))) (pv_consK (pd_var (pv 7)) (pv_consK (pd_var (pv 8)) (pv_consK (pd_var (pv 12)) (pv_nil)))))))) (pss_1 (pst_ret (pd_bl))) (pss_0))
    (pss_1 (pst_if (pt_w (pw_o (pt_n (pt_b (pd_call C G__law_set_right.fn (by decide) G__law_set_right.mx G__law_set_right.kp G__law_set_right.bd .nil (fun _ => rfl) (pv_consK (pd_var (pv 6)) (pv_consK (pd_var (pv 7)) (pv_consK (pd_var (pv 8)) (pv_consK (pd_var (pv 10)) (pv_nil)))))))) (pw_o1 (to_ne C (pd_meth0 C A_Packets.mc A_Packets.cl ⟨M_Packets_size.at_, M_Packets_size.isf, M_Packets_size.kp⟩ M_Packets_size.fn (by decide) M_Packets_size.bd .nil (fun _ => rfl) (pd_meth0 C A_Packets.mc A_Packets.cl ⟨M_Packets_turned.at_, M_Packets_turned.isf, M_Packets_turned.kp⟩ M_Packets_turned.fn (by decide) M_Packets_turned.bd .nil (fun _ => rfl) (pd_var (pv 5)))) (pd_meth0 C A_Packets.mc A_Packets.cl ⟨M_Packets_size.at_, M_Packets_size.isf, M_Packets_size.kp⟩ M_Packets_size.fn (by decide) M_Packets_size.bd .nil (fun _ => rfl) (pd_var (pv 5))))))) (pss_1 (pst_ret (pd_bl))) (pss_0)))))))))))))
    (pss_1 (pst_ret (pd_bl))))) sp_law
end
end PL.K4
namespace PL.K4
open PySem PySem.Spec PyProof.Rows L2
theorem facts [HasT] {P : Program} {w : World} {K : PySem.W.Frag} {h : Heap} {mg : Str → Option Value} {f : Addr} (X : K.In h) (G : h.Ns mainGlobals mg) (hfa : mg ("law" : Str) = some (.ref f)) (c : SaysY faA fnA tfA h K) (hT : HasT.T = []) (HW : HasT.W = w) :
    ∃ fd : FuncData, (∀ (s : Shared) (v : Value), BindsTo s fd ⟨[v], []⟩ [("_law_script", v)]) ∧ ∀ base : Heap, K.In base → base.Ns mainGlobals mg → (∀ p ∈ tfA, LamX.TabB base mg (He.cT K p).1 (He.cT K p).2) → FnOk P w K mg base (L2N.CX P w) 9 f fd ["_law_script"] (spOf K mg fs_law 1) := by
  obtain ⟨d__law_begin, F__law_begin⟩ := c.def_ 0 (d := dd__law_begin) rfl
  obtain ⟨d__law_take, F__law_take⟩ := c.def_ 1 (d := dd__law_take) rfl
  obtain ⟨d_is_number, F_is_number⟩ := c.def_ 2 (d := dd_is_number) rfl
  obtain ⟨d_is_name, F_is_name⟩ := c.def_ 3 (d := dd_is_name) rfl
  obtain ⟨d_is_range, F_is_range⟩ := c.def_ 4 (d := dd_is_range) rfl
  obtain ⟨d_is_end, F_is_end⟩ := c.def_ 5 (d := dd_is_end) rfl
  obtain ⟨d_is_packet, F_is_packet⟩ := c.def_ 6 (d := dd_is_packet) rfl
  obtain ⟨d_are_ranges, F_are_ranges⟩ := c.def_ 7 (d := dd_are_ranges) rfl
  obtain ⟨d_is_block, F_is_block⟩ := c.def_ 8 (d := dd_is_block) rfl
  obtain ⟨d_turned_block, F_turned_block⟩ := c.def_ 9 (d := dd_turned_block) rfl
  obtain ⟨d_has_packet, F_has_packet⟩ := c.def_ 10 (d := dd_has_packet) rfl
  obtain ⟨d_met, F_met⟩ := c.def_ 11 (d := dd_met) rfl
  obtain ⟨d_split, F_split⟩ := c.def_ 12 (d := dd_split) rfl
  obtain ⟨d_without_block, F_without_block⟩ := c.def_ 13 (d := dd_without_block) rfl
  obtain ⟨d_side_by_side, F_side_by_side⟩ := c.def_ 14 (d := dd_side_by_side) rfl
  obtain ⟨d_pushed_together, F_pushed_together⟩ := c.def_ 15 (d := dd_pushed_together) rfl
  obtain ⟨d_disjoint, F_disjoint⟩ := c.def_ 16 (d := dd_disjoint) rfl
  obtain ⟨d_size_of, F_size_of⟩ := c.def_ 17 (d := dd_size_of) rfl
  obtain ⟨d_check_blocks, F_check_blocks⟩ := c.def_ 18 (d := dd_check_blocks) rfl
  obtain ⟨d_Packets_init, F_Packets_init⟩ := c.def_ 19 (d := dd_Packets_init) rfl
  obtain ⟨d_Packets_contains, F_Packets_contains⟩ := c.def_ 20 (d := dd_Packets_contains) rfl
  obtain ⟨d_Packets_or, F_Packets_or⟩ := c.def_ 21 (d := dd_Packets_or) rfl
  obtain ⟨d_Packets_and, F_Packets_and⟩ := c.def_ 22 (d := dd_Packets_and) rfl
  obtain ⟨d_Packets_sub, F_Packets_sub⟩ := c.def_ 23 (d := dd_Packets_sub) rfl
  obtain ⟨d_Packets_blocks, F_Packets_blocks⟩ := c.def_ 24 (d := dd_Packets_blocks) rfl
  obtain ⟨d_Packets_size, F_Packets_size⟩ := c.def_ 25 (d := dd_Packets_size) rfl
  obtain ⟨d_Packets_least, F_Packets_least⟩ := c.def_ 26 (d := dd_Packets_least) rfl
  obtain ⟨d_Packets_turned, F_Packets_turned⟩ := c.def_ 27 (d := dd_Packets_turned) rfl
  obtain ⟨d__law_pick, F__law_pick⟩ := c.def_ 28 (d := dd__law_pick) rfl
  obtain ⟨d__law_in, F__law_in⟩ := c.def_ 29 (d := dd__law_in) rfl
  obtain ⟨d__law_any_range, F__law_any_range⟩ := c.def_ 30 (d := dd__law_any_range) rfl
  obtain ⟨d__law_any_cells, F__law_any_cells⟩ := c.def_ 31 (d := dd__law_any_cells) rfl
  obtain ⟨d__law_cuts, F__law_cuts⟩ := c.def_ 32 (d := dd__law_cuts) rfl
  obtain ⟨d__law_corners, F__law_corners⟩ := c.def_ 33 (d := dd__law_corners) rfl
  obtain ⟨d__law_volume, F__law_volume⟩ := c.def_ 34 (d := dd__law_volume) rfl
  obtain ⟨d__law_block_size, F__law_block_size⟩ := c.def_ 35 (d := dd__law_block_size) rfl
  obtain ⟨d__law_set_right, F__law_set_right⟩ := c.def_ 36 (d := dd__law_set_right) rfl
  obtain ⟨d_law, F_law⟩ := c.def_ 37 (d := dd_law) rfl
  have T : Tx K mg := ⟨He.free_ok X G (c.fact 1 (f := (fun K => (He.Fa.free "all").ok K)) rfl), He.free_ok X G (c.fact 2 (f := (fun K => (He.Fa.free "any").ok K)) rfl), He.free_ok X G (c.fact 3 (f := (fun K => (He.Fa.free "bool").ok K)) rfl), He.free_ok X G (c.fact 4 (f := (fun K => (He.Fa.free "dict").ok K)) rfl), He.free_ok X G (c.fact 6 (f := (fun K => (He.Fa.free "enumerate").ok K)) rfl), He.free_ok X G (c.fact 7 (f := (fun K => (He.Fa.free "int").ok K)) rfl), He.free_ok X G (c.fact 8 (f := (fun K => (He.Fa.free "isinstance").ok K)) rfl), He.free_ok X G (c.fact 9 (f := (fun K => (He.Fa.free "len").ok K)) rfl), He.free_ok X G (c.fact 10 (f := (fun K => (He.Fa.free "list").ok K)) rfl), He.free_ok X G (c.fact 11 (f := (fun K => (He.Fa.free "max").ok K)) rfl), He.free_ok X G (c.fact 12 (f := (fun K => (He.Fa.free "min").ok K)) rfl), He.free_ok X G (c.fact 13 (f := (fun K => (He.Fa.free "range").ok K)) rfl), He.free_ok X G (c.fact 14 (f := (fun K => (He.Fa.free "set").ok K)) rfl), He.free_ok X G (c.fact 15 (f := (fun K => (He.Fa.free "sorted").ok K)) rfl), He.free_ok X G (c.fact 16 (f := (fun K => (He.Fa.free "str").ok K)) rfl), He.free_ok X G (c.fact 17 (f := (fun K => (He.Fa.free "sum").ok K)) rfl), He.free_ok X G (c.fact 18 (f := (fun K => (He.Fa.free "tuple").ok K)) rfl), He.free_ok X G (c.fact 19 (f := (fun K => (He.Fa.free "zip").ok K)) rfl), (let ⟨t, e⟩ := He.str_ok X G (c.fact 20 (f := (fun K => (He.Fa.str "ALPHABET" "abcdefghijklmnopqrstuvwxyz").ok K)) rfl); ⟨_, e, ⟨t, rfl⟩⟩), (let ⟨t, e⟩ := He.int_ok X G (c.fact 21 (f := (fun K => (He.Fa.int "MOST_NUMBER" 255).ok K)) rfl); ⟨_, e, ⟨t, rfl⟩⟩), (let ⟨t, e⟩ := He.int_ok X G (c.fact 22 (f := (fun K => (He.Fa.int "MOST_SIGNS" 6).ok K)) rfl); ⟨_, e, ⟨t, rfl⟩⟩)⟩
  have A_Packets : ClAt K mg "Packets" (He.ga K "Packets") ["p_blocks"] := clsB_ok X G (c.fact 61 (f := clsB "Packets" ["p_blocks"]) rfl)
  have b__law_begin : Binds K d__law_begin ["_law_script"] [] := FunD.bindsN F__law_begin fun _ _ _ _ _ _ us hl => match us, hl with | [_], _ => rfl
  have b__law_take : Binds K d__law_take ["_law_draw", "_law_size"] [] := FunD.bindsN F__law_take fun _ _ _ _ _ _ us hl => match us, hl with | [_, _], _ => rfl
  have b_is_number : Binds K d_is_number ["value"] [] := FunD.bindsN F_is_number fun _ _ _ _ _ _ us hl => match us, hl with | [_], _ => rfl
  have b_is_name : Binds K d_is_name ["value"] [] := FunD.bindsN F_is_name fun _ _ _ _ _ _ us hl => match us, hl with | [_], _ => rfl
  have b_is_range : Binds K d_is_range ["value"] [] := FunD.bindsN F_is_range fun _ _ _ _ _ _ us hl => match us, hl with | [_], _ => rfl
  have b_is_end : Binds K d_is_end ["value"] [] := FunD.bindsN F_is_end fun _ _ _ _ _ _ us hl => match us, hl with | [_], _ => rfl
  have b_is_packet : Binds K d_is_packet ["value"] [] := FunD.bindsN F_is_packet fun _ _ _ _ _ _ us hl => match us, hl with | [_], _ => rfl
  have b_are_ranges : Binds K d_are_ranges ["value"] [] := FunD.bindsN F_are_ranges fun _ _ _ _ _ _ us hl => match us, hl with | [_], _ => rfl
  have b_is_block : Binds K d_is_block ["value"] [] := FunD.bindsN F_is_block fun _ _ _ _ _ _ us hl => match us, hl with | [_], _ => rfl
  have b_turned_block : Binds K d_turned_block ["block"] [] := FunD.bindsN F_turned_block fun _ _ _ _ _ _ us hl => match us, hl with | [_], _ => rfl
  have b_has_packet : Binds K d_has_packet ["block", "packet"] [] := FunD.bindsN F_has_packet fun _ _ _ _ _ _ us hl => match us, hl with | [_, _], _ => rfl
  have b_met : Binds K d_met ["block", "other"] [] := FunD.bindsN F_met fun _ _ _ _ _ _ us hl => match us, hl with | [_, _], _ => rfl
  have b_split : Binds K d_split ["block", "other"] [] := FunD.bindsN F_split fun _ _ _ _ _ _ us hl => match us, hl with | [_, _], _ => rfl
  have b_without_block : Binds K d_without_block ["blocks", "other"] [] := FunD.bindsN F_without_block fun _ _ _ _ _ _ us hl => match us, hl with | [_, _], _ => rfl
  have b_side_by_side : Binds K d_side_by_side ["block", "other"] [] := FunD.bindsN F_side_by_side fun _ _ _ _ _ _ us hl => match us, hl with | [_, _], _ => rfl
  have b_pushed_together : Binds K d_pushed_together ["blocks"] [] := FunD.bindsN F_pushed_together fun _ _ _ _ _ _ us hl => match us, hl with | [_], _ => rfl
  have b_disjoint : Binds K d_disjoint ["blocks"] [] := FunD.bindsN F_disjoint fun _ _ _ _ _ _ us hl => match us, hl with | [_], _ => rfl
  have b_size_of : Binds K d_size_of ["block"] [] := FunD.bindsN F_size_of fun _ _ _ _ _ _ us hl => match us, hl with | [_], _ => rfl
  have b_check_blocks : Binds K d_check_blocks ["blocks"] [] := FunD.bindsN F_check_blocks fun _ _ _ _ _ _ us hl => match us, hl with | [_], _ => rfl
  obtain ⟨ds1_Packets_init, v1_Packets_init, b1_Packets_init⟩ := FunD.binds1 (ps := ["self", "blocks"]) F_Packets_init 2 1 (by simp [He.DefD.dvs, dd_Packets_init]) (by simp [He.DefD.dvs, dd_Packets_init]) (fun T kV doc pm an cdv ct us its h1 h2 => match us, its, h1, h2 with | [_, _], [_], _, _ => ⟨_, rfl, rfl⟩)
  have b_Packets_init : Binds K d_Packets_init ["self", "blocks"] [] := by cases v1_Packets_init; exact b1_Packets_init
  obtain ⟨ds0_Packets_init, v0_Packets_init, b0_Packets_init⟩ := FunD.binds1 (ps := ["self", "blocks"]) F_Packets_init 1 0 (by simp [He.DefD.dvs, dd_Packets_init]) (by simp [He.DefD.dvs, dd_Packets_init]) (fun T kV doc pm an cdv ct us its h1 h2 => match us, its, h1, h2 with | [_], [_], _, _ => ⟨_, rfl, rfl⟩)
  have DD_Packets : Dfl K mg d_Packets_init ["self", "blocks"] [.tup []] := ⟨_, ds0_Packets_init, v0_Packets_init, fun F => ⟨_, _, rfl, ⟨_, [], rfl, empB_ok (c.fact 62 (f := empB (He.dflAt ("Packets", some "__init__") 0)) rfl) F, rfl⟩, rfl⟩, b0_Packets_init⟩
  have b_Packets_contains : Binds K d_Packets_contains ["self", "packet"] [] := FunD.bindsN F_Packets_contains fun _ _ _ _ _ _ us hl => match us, hl with | [_, _], _ => rfl
  have b_Packets_or : Binds K d_Packets_or ["self", "other"] [] := FunD.bindsN F_Packets_or fun _ _ _ _ _ _ us hl => match us, hl with | [_, _], _ => rfl
  have b_Packets_and : Binds K d_Packets_and ["self", "other"] [] := FunD.bindsN F_Packets_and fun _ _ _ _ _ _ us hl => match us, hl with | [_, _], _ => rfl
  have b_Packets_sub : Binds K d_Packets_sub ["self", "other"] [] := FunD.bindsN F_Packets_sub fun _ _ _ _ _ _ us hl => match us, hl with | [_, _], _ => rfl
  have b_Packets_blocks : Binds K d_Packets_blocks ["self"] [] := FunD.bindsN F_Packets_blocks fun _ _ _ _ _ _ us hl => match us, hl with | [_], _ => rfl
  have b_Packets_size : Binds K d_Packets_size ["self"] [] := FunD.bindsN F_Packets_size fun _ _ _ _ _ _ us hl => match us, hl with | [_], _ => rfl
  have b_Packets_least : Binds K d_Packets_least ["self"] [] := FunD.bindsN F_Packets_least fun _ _ _ _ _ _ us hl => match us, hl with | [_], _ => rfl
  have b_Packets_turned : Binds K d_Packets_turned ["self"] [] := FunD.bindsN F_Packets_turned fun _ _ _ _ _ _ us hl => match us, hl with | [_], _ => rfl
  have b__law_pick : Binds K d__law_pick ["_law_draw", "_law_some"] [] := FunD.bindsN F__law_pick fun _ _ _ _ _ _ us hl => match us, hl with | [_, _], _ => rfl
  have b__law_in : Binds K d__law_in ["_law_cell", "_law_card"] [] := FunD.bindsN F__law_in fun _ _ _ _ _ _ us hl => match us, hl with | [_, _], _ => rfl
  have b__law_any_range : Binds K d__law_any_range ["_law_draw"] [] := FunD.bindsN F__law_any_range fun _ _ _ _ _ _ us hl => match us, hl with | [_], _ => rfl
  have b__law_any_cells : Binds K d__law_any_cells ["_law_draw"] [] := FunD.bindsN F__law_any_cells fun _ _ _ _ _ _ us hl => match us, hl with | [_], _ => rfl
  have b__law_cuts : Binds K d__law_cuts ["_law_cells", "_law_at"] [] := FunD.bindsN F__law_cuts fun _ _ _ _ _ _ us hl => match us, hl with | [_, _], _ => rfl
  have b__law_corners : Binds K d__law_corners ["_law_cells"] [] := FunD.bindsN F__law_corners fun _ _ _ _ _ _ us hl => match us, hl with | [_], _ => rfl
  have b__law_volume : Binds K d__law_volume ["_law_ends", "_law_card"] [] := FunD.bindsN F__law_volume fun _ _ _ _ _ _ us hl => match us, hl with | [_, _], _ => rfl
  have b__law_block_size : Binds K d__law_block_size ["_law_cell"] [] := FunD.bindsN F__law_block_size fun _ _ _ _ _ _ us hl => match us, hl with | [_], _ => rfl
  have b__law_set_right : Binds K d__law_set_right ["_law_some", "_law_cards", "_law_ends", "_law_due"] [] := FunD.bindsN F__law_set_right fun _ _ _ _ _ _ us hl => match us, hl with | [_, _, _, _], _ => rfl
  have b_law := FunD.bindsA (ps := ["_law_script"]) F_law fun _ _ _ _ _ _ us hl => match us, hl with | [_], _ => rfl
  have e := hfa.symm.trans (He.glo_ok X G (c.fact 60 (f := (fun K => (He.Fa.glo "law").ok K)) rfl))
  cases e
  refine ⟨d_law, fun s v => b_law s [v] rfl, fun base _ _ hTB => ?_⟩
  have G__law_begin : DfAt P w K mg base "_law_begin" _ d__law_begin ["_law_script"] 1 fs__law_begin := dfAt X G (c.fact 23 (f := (fun K => (He.Fa.glo "_law_begin").ok K)) rfl) F__law_begin.kp b__law_begin (ok__law_begin (P := P) (w := w) (base := base) (He.free_ok X G (c.fact 0 (f := (fun K => (He.Fa.free "abs").ok K)) rfl)) (He.free_ok X G (c.fact 10 (f := (fun K => (He.Fa.free "list").ok K)) rfl)) F__law_begin)
  have G__law_take : DfAt P w K mg base "_law_take" _ d__law_take ["_law_draw", "_law_size"] 1 fs__law_take := dfAt X G (c.fact 24 (f := (fun K => (He.Fa.glo "_law_take").ok K)) rfl) F__law_take.kp b__law_take (ok__law_take (P := P) (w := w) (base := base) (He.free_ok X G (c.fact 7 (f := (fun K => (He.Fa.free "int").ok K)) rfl)) (He.free_ok X G (c.fact 5 (f := (fun K => (He.Fa.free "divmod").ok K)) rfl)) F__law_take)
  have G_is_number : DfAt P w K mg base "is_number" _ d_is_number ["value"] 1 fs_is_number := dfAt X G (c.fact 25 (f := (fun K => (He.Fa.glo "is_number").ok K)) rfl) F_is_number.kp b_is_number (ok_is_number (P := P) (w := w) (base := base) T F_is_number)
  have G_is_name : DfAt P w K mg base "is_name" _ d_is_name ["value"] 1 fs_is_name := dfAt X G (c.fact 26 (f := (fun K => (He.Fa.glo "is_name").ok K)) rfl) F_is_name.kp b_is_name (ok_is_name (P := P) (w := w) (base := base) T F_is_name)
  have G_turned_block : DfAt P w K mg base "turned_block" _ d_turned_block ["block"] 1 fs_turned_block := dfAt X G (c.fact 32 (f := (fun K => (He.Fa.glo "turned_block").ok K)) rfl) F_turned_block.kp b_turned_block (ok_turned_block (P := P) (w := w) (base := base) T F_turned_block)
  have G_has_packet : DfAt P w K mg base "has_packet" _ d_has_packet ["block", "packet"] 1 fs_has_packet := dfAt X G (c.fact 33 (f := (fun K => (He.Fa.glo "has_packet").ok K)) rfl) F_has_packet.kp b_has_packet (ok_has_packet (P := P) (w := w) (base := base) T F_has_packet)
  have G_met : DfAt P w K mg base "met" _ d_met ["block", "other"] 1 fs_met := dfAt X G (c.fact 34 (f := (fun K => (He.Fa.glo "met").ok K)) rfl) F_met.kp b_met (ok_met (P := P) (w := w) (base := base) T F_met)
  have G_side_by_side : DfAt P w K mg base "side_by_side" _ d_side_by_side ["block", "other"] 1 fs_side_by_side := dfAt X G (c.fact 37 (f := (fun K => (He.Fa.glo "side_by_side").ok K)) rfl) F_side_by_side.kp b_side_by_side (ok_side_by_side (P := P) (w := w) (base := base) T F_side_by_side)
  have G_size_of : DfAt P w K mg base "size_of" _ d_size_of ["block"] 1 fs_size_of := dfAt X G (c.fact 40 (f := (fun K => (He.Fa.glo "size_of").ok K)) rfl) F_size_of.kp b_size_of (ok_size_of (P := P) (w := w) (base := base) T F_size_of)
  have M_Packets_blocks : MtAt P w K mg base (He.ga K "Packets") "blocks" _ d_Packets_blocks ["self"] 1 fs_Packets_blocks := mtAt (c.fact 47 (f := (fun K => (He.Fa.meth "Packets" "blocks").ok K)) rfl) b_Packets_blocks (ok_Packets_blocks (P := P) (w := w) (base := base) T A_Packets F_Packets_blocks)
  have M_Packets_least : MtAt P w K mg base (He.ga K "Packets") "least" _ d_Packets_least ["self"] 1 fs_Packets_least := mtAt (c.fact 49 (f := (fun K => (He.Fa.meth "Packets" "least").ok K)) rfl) b_Packets_least (ok_Packets_least (P := P) (w := w) (base := base) T A_Packets F_Packets_least)
  have G__law_in : DfAt P w K mg base "_law_in" _ d__law_in ["_law_cell", "_law_card"] 1 fs__law_in := dfAt X G (c.fact 52 (f := (fun K => (He.Fa.glo "_law_in").ok K)) rfl) F__law_in.kp b__law_in (ok__law_in (P := P) (w := w) (base := base) T F__law_in)
  have G__law_cuts : DfAt P w K mg base "_law_cuts" _ d__law_cuts ["_law_cells", "_law_at"] 1 fs__law_cuts := dfAt X G (c.fact 55 (f := (fun K => (He.Fa.glo "_law_cuts").ok K)) rfl) F__law_cuts.kp b__law_cuts (ok__law_cuts (P := P) (w := w) (base := base) T F__law_cuts)
  have G__law_volume : DfAt P w K mg base "_law_volume" _ d__law_volume ["_law_ends", "_law_card"] 1 fs__law_volume := dfAt X G (c.fact 57 (f := (fun K => (He.Fa.glo "_law_volume").ok K)) rfl) F__law_volume.kp b__law_volume (ok__law_volume (P := P) (w := w) (base := base) T F__law_volume)
  have G__law_block_size : DfAt P w K mg base "_law_block_size" _ d__law_block_size ["_law_cell"] 1 fs__law_block_size := dfAt X G (c.fact 58 (f := (fun K => (He.Fa.glo "_law_block_size").ok K)) rfl) F__law_block_size.kp b__law_block_size (ok__law_block_size (P := P) (w := w) (base := base) T F__law_block_size)
  have G_is_range : DfAt P w K mg base "is_range" _ d_is_range ["value"] 2 fs_is_range := dfAt X G (c.fact 27 (f := (fun K => (He.Fa.glo "is_range").ok K)) rfl) F_is_range.kp b_is_range (ok_is_range (P := P) (w := w) (base := base) T G_is_number F_is_range)
  have G_is_end : DfAt P w K mg base "is_end" _ d_is_end ["value"] 2 fs_is_end := dfAt X G (c.fact 28 (f := (fun K => (He.Fa.glo "is_end").ok K)) rfl) F_is_end.kp b_is_end (ok_is_end (P := P) (w := w) (base := base) T G_is_number F_is_end)
  have G_split : DfAt P w K mg base "split" _ d_split ["block", "other"] 2 fs_split := dfAt X G (c.fact 35 (f := (fun K => (He.Fa.glo "split").ok K)) rfl) F_split.kp b_split (ok_split (P := P) (w := w) (base := base) T G_met F_split)
  have G_pushed_together : DfAt P w K mg base "pushed_together" _ d_pushed_together ["blocks"] 2 fs_pushed_together := dfAt X G (c.fact 38 (f := (fun K => (He.Fa.glo "pushed_together").ok K)) rfl) F_pushed_together.kp b_pushed_together (ok_pushed_together (P := P) (w := w) (base := base) T G_side_by_side F_pushed_together)
  have M_Packets_size : MtAt P w K mg base (He.ga K "Packets") "size" _ d_Packets_size ["self"] 2 fs_Packets_size := mtAt (c.fact 48 (f := (fun K => (He.Fa.meth "Packets" "size").ok K)) rfl) b_Packets_size (ok_Packets_size (P := P) (w := w) (base := base) T A_Packets G_size_of F_Packets_size)
  have G__law_pick : DfAt P w K mg base "_law_pick" _ d__law_pick ["_law_draw", "_law_some"] 2 fs__law_pick := dfAt X G (c.fact 51 (f := (fun K => (He.Fa.glo "_law_pick").ok K)) rfl) F__law_pick.kp b__law_pick (ok__law_pick (P := P) (w := w) (base := base) T G__law_take F__law_pick)
  have G__law_corners : DfAt P w K mg base "_law_corners" _ d__law_corners ["_law_cells"] 2 fs__law_corners := dfAt X G (c.fact 56 (f := (fun K => (He.Fa.glo "_law_corners").ok K)) rfl) F__law_corners.kp b__law_corners (ok__law_corners (P := P) (w := w) (base := base) T G__law_cuts F__law_corners)
  have G_is_packet : DfAt P w K mg base "is_packet" _ d_is_packet ["value"] 3 fs_is_packet := dfAt X G (c.fact 29 (f := (fun K => (He.Fa.glo "is_packet").ok K)) rfl) F_is_packet.kp b_is_packet (ok_is_packet (P := P) (w := w) (base := base) T G_is_end G_is_name F_is_packet)
  have G_are_ranges : DfAt P w K mg base "are_ranges" _ d_are_ranges ["value"] 3 fs_are_ranges := dfAt X G (c.fact 30 (f := (fun K => (He.Fa.glo "are_ranges").ok K)) rfl) F_are_ranges.kp b_are_ranges (ok_are_ranges (P := P) (w := w) (base := base) T G_is_range F_are_ranges)
  have G_without_block : DfAt P w K mg base "without_block" _ d_without_block ["blocks", "other"] 3 fs_without_block := dfAt X G (c.fact 36 (f := (fun K => (He.Fa.glo "without_block").ok K)) rfl) F_without_block.kp b_without_block (ok_without_block (P := P) (w := w) (base := base) T G_split F_without_block)
  have G__law_any_range : DfAt P w K mg base "_law_any_range" _ d__law_any_range ["_law_draw"] 3 fs__law_any_range := dfAt X G (c.fact 53 (f := (fun K => (He.Fa.glo "_law_any_range").ok K)) rfl) F__law_any_range.kp b__law_any_range (ok__law_any_range (P := P) (w := w) (base := base) T G__law_pick G__law_take F__law_any_range)
  have G_is_block : DfAt P w K mg base "is_block" _ d_is_block ["value"] 4 fs_is_block := dfAt X G (c.fact 31 (f := (fun K => (He.Fa.glo "is_block").ok K)) rfl) F_is_block.kp b_is_block (ok_is_block (P := P) (w := w) (base := base) T G_are_ranges G_is_name F_is_block)
  have G_disjoint : DfAt P w K mg base "disjoint" _ d_disjoint ["blocks"] 4 fs_disjoint := dfAt X G (c.fact 39 (f := (fun K => (He.Fa.glo "disjoint").ok K)) rfl) F_disjoint.kp b_disjoint (ok_disjoint (P := P) (w := w) (base := base) T G_pushed_together G_without_block F_disjoint)
  have M_Packets_contains : MtAt P w K mg base (He.ga K "Packets") "__contains__" _ d_Packets_contains ["self", "packet"] 4 fs_Packets_contains := mtAt (c.fact 43 (f := (fun K => (He.Fa.meth "Packets" "__contains__").ok K)) rfl) b_Packets_contains (ok_Packets_contains (P := P) (w := w) (base := base) T A_Packets G_has_packet G_is_packet F_Packets_contains)
  have G__law_any_cells : DfAt P w K mg base "_law_any_cells" _ d__law_any_cells ["_law_draw"] 4 fs__law_any_cells := dfAt X G (c.fact 54 (f := (fun K => (He.Fa.glo "_law_any_cells").ok K)) rfl) F__law_any_cells.kp b__law_any_cells (ok__law_any_cells (P := P) (w := w) (base := base) T G__law_any_range G__law_pick G__law_take F__law_any_cells)
  have G_check_blocks : DfAt P w K mg base "check_blocks" _ d_check_blocks ["blocks"] 5 fs_check_blocks := dfAt X G (c.fact 41 (f := (fun K => (He.Fa.glo "check_blocks").ok K)) rfl) F_check_blocks.kp b_check_blocks (ok_check_blocks (P := P) (w := w) (base := base) T G_is_block F_check_blocks)
  have G__law_set_right : DfAt P w K mg base "_law_set_right" _ d__law_set_right ["_law_some", "_law_cards", "_law_ends", "_law_due"] 5 fs__law_set_right := dfAt X G (c.fact 59 (f := (fun K => (He.Fa.glo "_law_set_right").ok K)) rfl) F__law_set_right.kp b__law_set_right (ok__law_set_right (P := P) (w := w) (base := base) T A_Packets G__law_block_size G__law_volume M_Packets_contains M_Packets_blocks M_Packets_least M_Packets_size HW F__law_set_right)
  have M_Packets_init : MtAt P w K mg base (He.ga K "Packets") "__init__" _ d_Packets_init ["self", "blocks"] 6 fs_Packets_init := mtAt (c.fact 42 (f := (fun K => (He.Fa.meth "Packets" "__init__").ok K)) rfl) b_Packets_init (ok_Packets_init (P := P) (w := w) (base := base) T A_Packets G_check_blocks G_disjoint F_Packets_init)
  have M_Packets_or : MtAt P w K mg base (He.ga K "Packets") "__or__" _ d_Packets_or ["self", "other"] 8 fs_Packets_or := mtAt (c.fact 44 (f := (fun K => (He.Fa.meth "Packets" "__or__").ok K)) rfl) b_Packets_or (ok_Packets_or (P := P) (w := w) (base := base) T A_Packets M_Packets_init F_Packets_or)
  have M_Packets_and : MtAt P w K mg base (He.ga K "Packets") "__and__" _ d_Packets_and ["self", "other"] 8 fs_Packets_and := mtAt (c.fact 45 (f := (fun K => (He.Fa.meth "Packets" "__and__").ok K)) rfl) b_Packets_and (ok_Packets_and (P := P) (w := w) (base := base) T A_Packets G_met M_Packets_init F_Packets_and)
  have M_Packets_sub : MtAt P w K mg base (He.ga K "Packets") "__sub__" _ d_Packets_sub ["self", "other"] 8 fs_Packets_sub := mtAt (c.fact 46 (f := (fun K => (He.Fa.meth "Packets" "__sub__").ok K)) rfl) b_Packets_sub (ok_Packets_sub (P := P) (w := w) (base := base) T A_Packets G_without_block M_Packets_init F_Packets_sub)
  have M_Packets_turned : MtAt P w K mg base (He.ga K "Packets") "turned" _ d_Packets_turned ["self"] 8 fs_Packets_turned := mtAt (c.fact 50 (f := (fun K => (He.Fa.meth "Packets" "turned").ok K)) rfl) b_Packets_turned (ok_Packets_turned (P := P) (w := w) (base := base) T A_Packets G_turned_block M_Packets_init F_Packets_turned)
  exact ok_law (P := P) (w := w) (base := base) T A_Packets G__law_any_cells G__law_begin G__law_corners G__law_in G__law_set_right M_Packets_and M_Packets_init M_Packets_or M_Packets_sub M_Packets_size M_Packets_turned HW F_law
end PL.K4
open PySem PySem.W PySem.Calls PyProof.Rows
theorem PySem.Challenge.cw_wardgates_k04_whole_sets_counted_over_cu_holds : PySem.Challenge.rw_wardgates_k04_whole_sets_counted_over_cu.Holds := by
  w_on; o_law
  refine HandSHeadRun.head_any (r := OpenLaw.row PySem.Challenge.rw_wardgates_k04_whole_sets_counted_over_cu) (q := view (OpenLaw.row PySem.Challenge.rw_wardgates_k04_whole_sets_counted_over_cu).prog [38]) (H := PL.K4.hk) (ob := PL.K4.obA) (M := 20000) (loose := PL.K4.namesA) (d := HandSHeadRun.topDef (OpenLaw.row PySem.Challenge.rw_wardgates_k04_whole_sets_counted_over_cu).prog 38) (kwd := []) PL.K4.obA_eq
    (by kernel_rfl) (fun s => by kernel_rfl) PL.K4.run (by kernel_rfl) (by kernel_rfl) (by kernel_rfl) (by rfl) (by first | assumption | decide +kernel) (by decide +kernel) ⟨rfl, rfl, rfl, rfl, rfl, by decide +kernel⟩ ?hw ?hc
  case hw => w_witness2
  case hc =>
    refine LamX.walk_ofTsE (l := PySem.Challenge.rw_wardgates_k04_whole_sets_counted_over_cu) (n := 63) (k := 9) (x := "_law_script") (CX := fun w => L2N.CX (PySem.Challenge.rw_wardgates_k04_whole_sets_counted_over_cu).prog w) rfl (by decide) (by kernel_rfl) ⟨rfl, by decide, by decide⟩ ?F (fun w H s e s' hx => PL.no_way _ w H s e s' hx)
    intro w mg fa h Y G hmg0
    obtain ⟨K, KX, c⟩ := Y
    have hmg : mg ("law" : PySem.Str) = some (.ref fa) := by
      have e : (HandSHeadRun.topDef (OpenLaw.row PySem.Challenge.rw_wardgates_k04_whole_sets_counted_over_cu).prog 38).name = ("law" : PySem.Str) := by kernel_rfl
      rw [← e]
      exact hmg0
    letI : PL.HasT := ⟨[], w⟩
    obtain ⟨fd, hb, hF⟩ := PL.K4.facts (P := (PySem.Challenge.rw_wardgates_k04_whole_sets_counted_over_cu).prog) (w := w) KX G hmg c rfl rfl
    exact ⟨K, KX, PL.lawAtY KX c hb (fun H a ns hl hTb hS => PL.law_sp (fun p hp => by cases hp) hl hS fun Q Ep h => ⟨ns, rfl, hl, h⟩) hF⟩
