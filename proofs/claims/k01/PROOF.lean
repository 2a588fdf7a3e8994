import PyProof.Rows.All
import Wide.All
import OpenK.AllK
import Wide.FinOn
import HandS.ForMost
import HandS.Lambda
import HandS.TupAny
import HandS.IsInst
import HandS.ForExc
import HandS.WordsExc
import HandS.NoneIn
import HandS.Zip
import HandS.Defaults
import PyProof.InstNe
import KE.GoesEnum
import HandS.SortRule
import KE.SortData
import KE.DataMinMax
import HandS.Deep
import HandS.Iter
import KE.KUnpackStar
import HandS.Star
import HandS.Property
import PyProof.P3In
import HandS.DictComp
import HandS.More
import HandS.MakeKwOnly
import HandS.WordsDict
import HandS.TupLen
import HandS.DictTup
import HandS.SortKw
import KE.SortKeyHeap
import KE.KSortKey
import KE.KStateDown
import Lean
import HandS.Head0
import HandS.Head1
import HandS.Head2
import HandS.HeadEnd
import HandS.HeadHook1
import HandS.HeadHook2
import HandS.HeadHook4
import HandS.EndTab
import HandS.HeadWalk
import HandS.ExcInit
import KE.KExcSuper
import HandS.ExcOwn
import HandS.TryOnly
import HandS.ExcIs
import HandS.ExcField
import KE.KExcIs
import HandS.RaiseMore
import PyProof.ReprRoads
import PyProof.CallFns
import PyProof.CallStr
import HandS.SetFor
import KE.DataFind
import HandS.EndBits
import HandS.Small
import PySem.Challenge.RW_wardgates_k01_errors_by_class
set_option Elab.async false
set_option linter.all false
set_option maxRecDepth 100000
set_option maxHeartbeats 4000000
/-! PL1: pure data, how the heap bears it, configurations, the pure judgements. -/
namespace PL
open PySem PySem.Spec PyProof.Rows L2

/-- the tables of code objects of the defs that make lambdas, the lambdas' names -/
class HasT where
  T : List (Addr × Str)
/-- pure data -/
inductive D where
  | non | bl (b : Bool) | int (i : Int) | str (x : Str)
  | tup (xs : List D) | lst (xs : List D) | dic (ks : List Key) (xs : List D) | dit (ks : List (List Key)) (xs : List D) | obj (c : Str) (fs : List Str) (xs : List D) | exc (c : Str) (fs : List Str) (xs : List D) | kst (xs : List D) | draw | box (d : D)

inductive Ent where
  | val (d : D)
  | own (bor : Bool) (d : D)
def Ent.d : Ent → D | .val d => d | .own _ d => d
abbrev Env := List (Option Ent)
/-- what an expression hands back: data, a new object that nobody else holds, or the object that a slot owns -/
inductive R where
  | val (d : D) | tmp (d : D) | slot (i : Nat)
/-- an exception: its class, its fields -/
structure Ex where
  cls : Str
  fs : List Str
  xs : List D

/-- a caught exception: its class, its dict -/
def ExcV (a : Addr) (cls : Value) (d : Option Addr) : HO := .ext fun h => ∃ (oe : Obj) (vs : Array Value), h.get? a = some oe ∧ Zc cls d oe ∧ oe.data = .fields vs
/-- the fields that an exception's dict has -/
def XdIn (F : Hp) (gs : List (Str × V)) : Option Addr → Prop
  | none => gs = []
  | some b => F b = some (.xd gs)
section
variable (K : PySem.W.Frag) (mg : Str → Option Value)
mutual
def Rep (F : Hp) : D → V → Prop
  | .non, v => v = .non
  | .bl b, v => v = .bl b
  | .int i, v => v = .int i
  | .str x, v => v = .str x
  | .tup ds, v => ∃ a xs, v = .ref a ∧ SqT K F a xs ∧ RepL F ds xs
  | .lst ds, v => ∃ a xs, v = .ref a ∧ F a = some (.lst xs) ∧ RepL F ds xs
  | .dic ks ds, v => ∃ a kvs, v = .ref a ∧ Rd F a (.dK kvs) ∧ kvs.map (·.1) = ks ∧ RepL F ds (kvs.map (·.2))
  | .dit ks ds, v => ∃ a kvs, v = .ref a ∧ Rd F a (.dT kvs) ∧ kvs.map (·.1) = ks ∧ RepL F ds (kvs.map (·.2))
  | .obj c fs ds, v => ∃ a C dx gs, v = .ref a ∧ mg c = some (.ref C) ∧ F a = some (.ins C dx gs) ∧ gs.map (·.1) = fs ∧ RepL F ds (gs.map (·.2))
  | .exc c fs ds, v => ∃ a C dd gs, v = .ref a ∧ mg c = some (.ref C) ∧ F a = some (ExcV a (.ref C) dd) ∧ XdIn F gs dd ∧ gs.map (·.1) = fs ∧ RepL F ds (gs.map (·.2))
  | .kst ds, v => ∃ a xs, v = .ref a ∧ SqL K F a xs ∧ RepL F ds xs
  | .draw, _ => False
  | .box d, v => Rep F d v
def RepL (F : Hp) : List D → List V → Prop
  | [], xs => xs = []
  | d :: ds, xs => ∃ x r, xs = x :: r ∧ Rep F d x ∧ RepL F ds r
end

/-- an object stays as it is, or a dict is locked as it stands -/
def HLe (o o' : HO) : Prop := o' = o ∨ (∃ ob, o' = .frz ob o ∧ ((∃ kvs, o = .dK kvs) ∨ ∃ kvs, o = .dT kvs)) ∨ ∃ ps qs, o = .tbl ps ∧ o' = .tbl qs
theorem HLe.refl (o : HO) : HLe o o := .inl rfl
theorem HLe.trans {a b c : HO} (h : HLe a b) (g : HLe b c) : HLe a c := by
  rcases h with rfl | ⟨ob, rfl, h⟩ | ⟨ps, qs, rfl, rfl⟩
  · exact g
  · rcases g with rfl | ⟨ob', e, g⟩ | ⟨_, _, g, _⟩
    · exact .inr (.inl ⟨ob, rfl, h⟩)
    · rcases g with ⟨_, g⟩ | ⟨_, g⟩ <;> cases g
    · cases g
  · rcases g with rfl | ⟨ob', e, g⟩ | ⟨_, _, _, rfl⟩
    · exact .inr (.inr ⟨_, _, rfl, rfl⟩)
    · rcases g with ⟨_, g⟩ | ⟨_, g⟩ <;> cases g
    · exact .inr (.inr ⟨_, _, rfl, rfl⟩)
def Mono (F F' : Hp) : Prop := ∀ a o, F a = some o → ∃ o', F' a = some o' ∧ HLe o o'
theorem Mono.refl (F : Hp) : Mono F F := fun _ o h => ⟨o, h, .refl o⟩
theorem Mono.trans {F G H : Hp} (a : Mono F G) (b : Mono G H) : Mono F H := fun x o h => by
  obtain ⟨o1, h1, l1⟩ := a x o h
  obtain ⟨o2, h2, l2⟩ := b x o1 h1
  exact ⟨o2, h2, l1.trans l2⟩
theorem Mono.lst {F F' : Hp} (m : Mono F F') {a : Addr} {xs : List V} (h : F a = some (.lst xs)) : F' a = some (.lst xs) := by
  obtain ⟨o, e, l⟩ := m _ _ h
  rcases l with rfl | ⟨_, _, ⟨_, z⟩ | ⟨_, z⟩⟩ | ⟨_, _, z, _⟩
  · exact e
  · cases z
  · cases z
  · cases z
theorem Mono.tup {F F' : Hp} (m : Mono F F') {a : Addr} {xs : List V} (h : F a = some (.tup xs)) : F' a = some (.tup xs) := by
  obtain ⟨o, e, l⟩ := m _ _ h
  rcases l with rfl | ⟨_, _, ⟨_, z⟩ | ⟨_, z⟩⟩ | ⟨_, _, z, _⟩
  · exact e
  · cases z
  · cases z
  · cases z
/-- all tuples of the heap are frozen -/
def TupF (F H : Hp) : Prop := ∀ a xs, H a = some (.tup xs) → F a = some (.tup xs)
theorem Mono.ins {F F' : Hp} (m : Mono F F') {a : Addr} {C : Addr} {dx : Addr} {gs : List (Str × V)} (h : F a = some (.ins C dx gs)) : F' a = some (.ins C dx gs) := by
  obtain ⟨o, e, l⟩ := m _ _ h
  rcases l with rfl | ⟨_, _, ⟨_, z⟩ | ⟨_, z⟩⟩ | ⟨_, _, z, _⟩
  · exact e
  · cases z
  · cases z
  · cases z
theorem Mono.ext {F F' : Hp} (m : Mono F F') {a : Addr} {φ : Heap → Prop} (h : F a = some (.ext φ)) : F' a = some (.ext φ) := by
  obtain ⟨o, e, l⟩ := m _ _ h
  rcases l with rfl | ⟨_, _, ⟨_, z⟩ | ⟨_, z⟩⟩ | ⟨_, _, z, _⟩
  · exact e
  · cases z
  · cases z
  · cases z
theorem Mono.xd {F F' : Hp} (m : Mono F F') {a : Addr} {gs : List (Str × V)} (h : F a = some (.xd gs)) : F' a = some (.xd gs) := by
  obtain ⟨o, e, l⟩ := m _ _ h
  rcases l with rfl | ⟨_, _, ⟨_, z⟩ | ⟨_, z⟩⟩ | ⟨_, _, z, _⟩
  · exact e
  · cases z
  · cases z
  · cases z
theorem XdIn.mono {F F' : Hp} (m : Mono F F') {gs : List (Str × V)} : ∀ {d : Option Addr}, XdIn F gs d → XdIn F' gs d
  | none, h => h
  | some _, h => m.xd h
theorem Mono.ne {F F' : Hp} (m : Mono F F') {a : Addr} {o : HO} (h : F a = some o) : F' a ≠ none := by
  obtain ⟨o', e, _⟩ := m _ _ h
  rw [e]; simp
/-- what is the same where F tells is told too -/
theorem Mono.of {F F' : Hp} (h : ∀ a o, F a = some o → F' a = some o) : Mono F F' := fun a o e => ⟨o, h a o e, .refl o⟩
theorem Mono.frz {F F' : Hp} (m : Mono F F') {a : Addr} {ob : Obj} {u : HO} (h : F a = some (.frz ob u)) : F' a = some (.frz ob u) := by
  obtain ⟨o, e, l⟩ := m _ _ h
  rcases l with rfl | ⟨_, _, ⟨_, z⟩ | ⟨_, z⟩⟩ | ⟨_, _, z, _⟩
  · exact e
  · cases z
  · cases z
  · cases z
theorem Mono.rd {F F' : Hp} (m : Mono F F') {a : Addr} {u : HO} (h : Rd F a u) (hu : ∀ ps, u ≠ .tbl ps := by intro ps z; cases z) : Rd F' a u := by
  rcases h with h | ⟨o, h⟩
  · obtain ⟨o, e, l⟩ := m _ _ h
    rcases l with rfl | ⟨ob, rfl, _⟩ | ⟨_, _, z, _⟩
    · exact .inl e
    · exact .inr ⟨ob, e⟩
    · exact absurd z (hu _)
  · exact .inr ⟨o, m.frz h⟩
theorem Mono.sqT {F F' : Hp} (m : Mono F F') {a : Addr} {xs : List V} (h : SqT K F a xs) : SqT K F' a xs := by
  rcases h with h | h
  · exact .inl (m.rd h)
  · exact .inr h
theorem Mono.sqL {F F' : Hp} (m : Mono F F') {a : Addr} {xs : List V} (h : SqL K F a xs) : SqL K F' a xs := by
  rcases h with h | h
  · exact .inl (m.rd h)
  · exact .inr h
mutual
theorem Rep.mono {F F' : Hp} (m : Mono F F') : ∀ (d : D) (v : V), Rep K mg F d v → Rep K mg F' d v
  | .non, _, h => h
  | .bl _, _, h => h
  | .int _, _, h => h
  | .str _, _, h => h
  | .tup ds, _, h => by
    obtain ⟨a, xs, e, h1, h2⟩ := h
    exact ⟨a, xs, e, m.sqT K h1, RepL.mono m ds xs h2⟩
  | .lst ds, _, h => by
    obtain ⟨a, xs, e, h1, h2⟩ := h
    exact ⟨a, xs, e, m.lst h1, RepL.mono m ds xs h2⟩
  | .dic ks ds, _, h => by
    obtain ⟨a, kvs, e, h1, h2, h3⟩ := h
    exact ⟨a, kvs, e, m.rd h1, h2, RepL.mono m ds _ h3⟩
  | .dit ks ds, _, h => by
    obtain ⟨a, kvs, e, h1, h2, h3⟩ := h
    exact ⟨a, kvs, e, m.rd h1, h2, RepL.mono m ds _ h3⟩
  | .obj c fs ds, _, h => by
    obtain ⟨a, C, dx, gs, e, h0, h1, h2, h3⟩ := h
    exact ⟨a, C, dx, gs, e, h0, m.ins h1, h2, RepL.mono m ds _ h3⟩
  | .exc c fs ds, _, h => by
    obtain ⟨a, C, dd, gs, e, h0, h1, h2, h3, h4⟩ := h
    exact ⟨a, C, dd, gs, e, h0, m.ext h1, h2.mono m, h3, RepL.mono m ds _ h4⟩
  | .kst ds, _, h => by
    obtain ⟨a, xs, e, h1, h2⟩ := h
    exact ⟨a, xs, e, m.sqL K h1, RepL.mono m ds xs h2⟩
  | .draw, _, h => h
  | .box d, v, h => Rep.mono m d v h
theorem RepL.mono {F F' : Hp} (m : Mono F F') : ∀ (ds : List D) (xs : List V), RepL K mg F ds xs → RepL K mg F' ds xs
  | [], _, h => h
  | d :: ds, _, h => by
    obtain ⟨x, r, e, h1, h2⟩ := h
    exact ⟨x, r, e, Rep.mono m d x h1, RepL.mono m ds r h2⟩
end
theorem RepL.len {F : Hp} : ∀ {ds : List D} {xs : List V}, RepL K mg F ds xs → ds.length = xs.length
  | [], _, h => by rw [show _ = [] from h]; rfl
  | d :: ds, _, h => by
    obtain ⟨x, r, rfl, _, h2⟩ := h
    simp [RepL.len h2]
theorem RepL.get {F : Hp} : ∀ {ds : List D} {xs : List V} {i : Nat} {d : D}, RepL K mg F ds xs → ds[i]? = some d → ∃ x, xs[i]? = some x ∧ Rep K mg F d x
  | [], _, _, _, _, e => by simp at e
  | d :: ds, _, 0, _, h, e => by
    obtain ⟨x, r, rfl, h1, h2⟩ := h
    simp at e; subst e
    exact ⟨x, rfl, h1⟩
  | d :: ds, _, i + 1, _, h, e => by
    obtain ⟨x, r, rfl, h1, h2⟩ := h
    obtain ⟨y, hy, ry⟩ := RepL.get (i := i) h2 (by simpa using e)
    exact ⟨y, by simpa using hy, ry⟩
theorem RepL.getV {F : Hp} {ds : List D} {xs : List V} {i : Nat} {x : V} (h : RepL K mg F ds xs) (e : xs[i]? = some x) : ∃ d, ds[i]? = some d ∧ Rep K mg F d x := by
  have l := RepL.len K mg h
  have hi : i < xs.length := (List.getElem?_eq_some_iff.mp e).1
  obtain ⟨y, hy, ry⟩ := RepL.get K mg (i := i) (d := ds[i]'(by omega)) h (by simp)
  rw [e] at hy; cases hy
  exact ⟨_, by simp, ry⟩
theorem RepL.app {F : Hp} : ∀ {ds es : List D} {xs ys : List V}, RepL K mg F ds xs → RepL K mg F es ys → RepL K mg F (ds ++ es) (xs ++ ys)
  | [], _, _, _, h, g => by rw [show _ = [] from h]; exact g
  | d :: ds, _, _, _, h, g => by
    obtain ⟨x, r, rfl, h1, h2⟩ := h
    exact ⟨x, r ++ _, rfl, h1, RepL.app h2 g⟩
theorem RepL.take {F : Hp} : ∀ (n : Nat) {ds : List D} {xs : List V}, RepL K mg F ds xs → RepL K mg F (ds.take n) (xs.take n)
  | 0, _, _, _ => by simp [RepL]
  | _ + 1, [], _, h => by rw [show _ = [] from h]; simp [RepL]
  | n + 1, d :: ds, _, h => by
    obtain ⟨x, r, rfl, h1, h2⟩ := h
    exact ⟨x, r.take n, rfl, h1, RepL.take n h2⟩
theorem RepL.drop {F : Hp} : ∀ (n : Nat) {ds : List D} {xs : List V}, RepL K mg F ds xs → RepL K mg F (ds.drop n) (xs.drop n)
  | 0, _, _, h => h
  | _ + 1, [], _, h => by rw [show _ = [] from h]; simp [RepL]
  | n + 1, d :: ds, _, h => by
    obtain ⟨x, r, rfl, h1, h2⟩ := h
    exact RepL.drop n h2
theorem RepL.one {F : Hp} {d : D} {x : V} (h : Rep K mg F d x) : RepL K mg F [d] [x] := ⟨x, [], rfl, h, rfl⟩
theorem RepL.cons {F : Hp} {d : D} {x : V} {ds : List D} {xs : List V} (h : Rep K mg F d x) (t : RepL K mg F ds xs) : RepL K mg F (d :: ds) (x :: xs) := ⟨x, xs, rfl, h, t⟩
theorem RepL.map {F : Hp} {α : Type} (f : α → D) (g : α → V) (h : ∀ a, Rep K mg F (f a) (g a)) : ∀ l : List α, RepL K mg F (l.map f) (l.map g)
  | [] => rfl
  | a :: l => ⟨g a, l.map g, rfl, h a, RepL.map f g h l⟩
theorem RepL.erase {F : Hp} : ∀ (n : Nat) {ds : List D} {xs : List V}, RepL K mg F ds xs → RepL K mg F (ds.eraseIdx n) (xs.eraseIdx n)
  | _, [], _, h => by rw [show _ = [] from h]; simp [RepL]
  | 0, d :: ds, _, h => by
    obtain ⟨x, r, rfl, h1, h2⟩ := h
    exact h2
  | n + 1, d :: ds, _, h => by
    obtain ⟨x, r, rfl, h1, h2⟩ := h
    exact ⟨x, r.eraseIdx n, rfl, h1, RepL.erase n h2⟩
theorem RepL.rev {F : Hp} : ∀ {ds : List D} {xs : List V}, RepL K mg F ds xs → RepL K mg F ds.reverse xs.reverse
  | [], _, h => by rw [show _ = [] from h]; rfl
  | d :: ds, _, h => by
    obtain ⟨x, r, rfl, h1, h2⟩ := h
    rw [List.reverse_cons, List.reverse_cons]
    exact RepL.app K mg (RepL.rev h2) (RepL.one K mg h1)

/-- the dict of draws: the law's own source of numbers -/
def lits : List Int → List V := fun l => l.map V.int
structure DrawAt (F H : Hp) (a l : Addr) : Prop where
  ne : a ≠ l
  at_ : ∃ (c : Addr) (rest turn mix : Int), H a = some (.dK [(.inr "large", .ref l), (.inr "cells", .ref c), (.inr "rest", .int rest), (.inr "turn", .int turn), (.inr "mix", .int mix)]) ∧
    0 ≤ rest ∧ 0 ≤ turn ∧ 0 ≤ mix ∧ mix < 2147483629 ∧
    (∃ cs : List Int, F c = some (.lst (lits cs)) ∧ cs.length ≤ 63)
  la : ∃ ls : List Int, H l = some (.lst (lits ls)) ∧ ls.length ≤ 63 ∧ ∀ x ∈ ls, 0 ≤ x

/-- a thing that may change -/
def Pl : HO → Prop
  | .tbl _ => False
  | .ext _ => False
  | .tup _ => False
  | _ => True
/-- what a box holds: a list or dict at v, its own address a -/
def OwnF (F H : Hp) : D → V → Addr → Prop
  | .lst ds, v, a => v = .ref a ∧ ∃ xs, H a = some (.lst xs) ∧ RepL K mg F ds xs
  | .dic ks ds, v, a => v = .ref a ∧ ∃ kvs, H a = some (.dK kvs) ∧ kvs.map (·.1) = ks ∧ RepL K mg F ds (kvs.map (·.2))
  | .dit ks ds, v, a => v = .ref a ∧ ∃ kvs, H a = some (.dT kvs) ∧ kvs.map (·.1) = ks ∧ RepL K mg F ds (kvs.map (·.2))
  | _, _, _ => False
def isBx : D → Bool
  | .box _ => true
  | _ => false
def unB : D → D
  | .box d => d
  | d => d
/-- an object's fields: data, or boxes with their own addresses -/
def BoxL (F H : Hp) : List D → List V → List Addr → Prop
  | [], xs, ft => xs = [] ∧ ft = []
  | d :: ds, xs, ft => ∃ x r, xs = x :: r ∧ if isBx d = true then ∃ a f2, ft = a :: f2 ∧ OwnF K mg F H (unB d) x a ∧ BoxL F H ds r f2 else Rep K mg F d x ∧ BoxL F H ds r ft
/-- an object that is owned: at v, its own addresses ft -/
def Own (F H : Hp) : D → V → List Addr → Prop
  | .lst ds, v, ft => ∃ a xs, v = .ref a ∧ ft = [a] ∧ H a = some (.lst xs) ∧ RepL K mg F ds xs
  | .dic ks ds, v, ft => ∃ a kvs, v = .ref a ∧ ft = [a] ∧ H a = some (.dK kvs) ∧ kvs.map (·.1) = ks ∧ RepL K mg F ds (kvs.map (·.2))
  | .dit ks ds, v, ft => ∃ a kvs, v = .ref a ∧ ft = [a] ∧ H a = some (.dT kvs) ∧ kvs.map (·.1) = ks ∧ RepL K mg F ds (kvs.map (·.2))
  | .obj c fs ds, v, ft => ∃ a C dx gs f2 g, v = .ref a ∧ ft = a :: (f2 ++ g) ∧ (a :: (f2 ++ g)).Nodup ∧ mg c = some (.ref C) ∧ H a = some (.ins C dx gs) ∧ gs.map (·.1) = fs ∧ BoxL K mg F H ds (gs.map (·.2)) f2 ∧ ∀ b ∈ g, ∃ u, H b = some u ∧ Pl u
  | .draw, v, ft => ∃ a l, v = .ref a ∧ ft = [a, l] ∧ DrawAt F H a l
  | _, _, _ => False

theorem OwnF.frame {F H F' H' : Hp} {d : D} {v : V} {a : Addr} (o : OwnF K mg F H d v a) (m : Mono F F') (h : H' a = H a) : OwnF K mg F' H' d v a := by
  cases d with
  | lst ds =>
    obtain ⟨e, xs, h1, h2⟩ := o
    exact ⟨e, xs, by rw [h]; exact h1, h2.mono K mg m _ _⟩
  | dic ks ds =>
    obtain ⟨e, kvs, h1, h2, h3⟩ := o
    exact ⟨e, kvs, by rw [h]; exact h1, h2, h3.mono K mg m _ _⟩
  | dit ks ds =>
    obtain ⟨e, kvs, h1, h2, h3⟩ := o
    exact ⟨e, kvs, by rw [h]; exact h1, h2, h3.mono K mg m _ _⟩
  | _ => exact o.elim
theorem BoxL.frame {F H F' H' : Hp} (m : Mono F F') : ∀ {ds : List D} {xs : List V} {ft : List Addr}, BoxL K mg F H ds xs ft → (∀ b ∈ ft, H' b = H b) → BoxL K mg F' H' ds xs ft
  | [], _, _, o, _ => o
  | d :: ds, _, ft, ⟨x, r, e, o⟩, h => by
    refine ⟨x, r, e, ?_⟩
    by_cases hb : isBx d = true
    · rw [if_pos hb] at o ⊢
      obtain ⟨a, f2, rfl, o1, o2⟩ := o
      exact ⟨a, f2, rfl, o1.frame K mg m (h a (by simp)), BoxL.frame m o2 fun b hb => h b (by simp [hb])⟩
    · rw [if_neg hb] at o ⊢
      exact ⟨o.1.mono K mg m _ _, BoxL.frame m o.2 h⟩
theorem Own.frame {F H F' H' : Hp} {d : D} {v : V} {ft : List Addr} (o : Own K mg F H d v ft) (m : Mono F F') (h : ∀ b ∈ ft, H' b = H b) : Own K mg F' H' d v ft := by
  cases d with
  | lst ds =>
    obtain ⟨a, xs, e, rfl, h1, h2⟩ := o
    exact ⟨a, xs, e, rfl, by rw [h a (by simp)]; exact h1, h2.mono K mg m _ _⟩
  | dic ks ds =>
    obtain ⟨a, kvs, e, rfl, h1, h2, h3⟩ := o
    exact ⟨a, kvs, e, rfl, by rw [h a (by simp)]; exact h1, h2, h3.mono K mg m _ _⟩
  | dit ks ds =>
    obtain ⟨a, kvs, e, rfl, h1, h2, h3⟩ := o
    exact ⟨a, kvs, e, rfl, by rw [h a (by simp)]; exact h1, h2, h3.mono K mg m _ _⟩
  | obj c fs ds =>
    obtain ⟨a, C, dx, gs, f2, g, e, rfl, nd, h0, h1, h2, h3, h4⟩ := o
    exact ⟨a, C, dx, gs, f2, g, e, rfl, nd, h0, by rw [h a (by simp)]; exact h1, h2, h3.frame K mg m fun b hb => h b (by simp [hb]), fun b hb => by rw [h b (by simp [hb])]; exact h4 b hb⟩
  | draw =>
    obtain ⟨a, l, e, rfl, ne, ⟨c, rest, turn, mix, h1, z1, z3, z5, z6, cs, hc, z7⟩, ls, h3, z9⟩ := o
    exact ⟨a, l, e, rfl, ne, ⟨c, rest, turn, mix, by rw [h a (by simp)]; exact h1, z1, z3, z5, z6, cs, m.lst hc, z7⟩, ls, by rw [h l (by simp)]; exact h3, z9⟩
  | _ => exact o.elim

variable [HasT]
/-- a configuration: the frozen part of the heap, the heap, the slots, what they stand for, the addresses that each slot owns -/
structure Cfg where
  F : Hp
  H : Hp
  σ : L2.St
  ρ : Env
  fp : Nat → List Addr

def EntOk (F H : Hp) : Ent → V → List Addr → Prop
  | .val d, v, ft => Rep K mg F d v ∧ ft = []
  | .own _ d, v, ft => Own K mg F H d v ft
structure Ok (c : Cfg) : Prop where
  tabs : LamX.Tabs HasT.T c.H
  sub : Mono c.F c.H
  len : c.ρ.length = c.σ.length
  slot : ∀ i e, c.ρ[i]? = some (some e) → ∃ v, c.σ[i]? = some (some v) ∧ EntOk K mg c.F c.H e v (c.fp i)
  non : ∀ i, (∀ e, c.ρ[i]? ≠ some (some e)) → c.fp i = []
  out : ∀ i b, b ∈ c.fp i → c.F b = none ∧ c.H b ≠ none
  disj : ∀ i j b, b ∈ c.fp i → b ∈ c.fp j → i = j
  tf : TupF c.F c.H
/-- what is owned grows, by new addresses alone -/
def Grw (ft ft' : List Addr) (H : Hp) : Prop := (∀ b ∈ ft, b ∈ ft') ∧ ∀ b ∈ ft', b ∈ ft ∨ H b = none
theorem Grw.refl (ft : List Addr) (H : Hp) : Grw ft ft H := ⟨fun _ h => h, fun _ h => .inl h⟩
theorem Grw.trans {ft f1 f2 : List Addr} {H H1 : Hp} (a : Grw ft f1 H) (b : Grw f1 f2 H1) (g : ∀ x, H x ≠ none → H1 x ≠ none) : Grw ft f2 H :=
  ⟨fun x h => b.1 x (a.1 x h), fun x h => by
    rcases b.2 x h with q | q
    · exact a.2 x q
    · refine .inr ?_
      cases z : H x with
      | none => rfl
      | some o => exact absurd q (g x (by rw [z]; simp))⟩
structure Frm (fp : Nat → List Addr) (F H F' H' : Hp) : Prop where
  mono : Mono F F'
  keep : ∀ a, F a = none → H a ≠ none → (∀ i, a ∉ fp i) → (∀ ps, H a ≠ some (.tbl ps)) → F' a = none ∧ H' a = H a
  grow : ∀ a, H a ≠ none → H' a ≠ none
structure Go (c c' : Cfg) : Prop where
  ok : Ok K mg c'
  fr : Frm c.fp c.F c.H c'.F c'.H
  orig : ∀ i b, b ∈ c'.fp i → (∃ j, b ∈ c.fp j) ∨ c.H b = none
  bor : ∀ i d, c.ρ[i]? = some (some (.own true d)) → ∃ d', c'.ρ[i]? = some (some (.own true d')) ∧ Grw (c.fp i) (c'.fp i) c.H ∧ c'.σ[i]? = c.σ[i]?
theorem Frm.refl (fp : Nat → List Addr) (F H : Hp) : Frm fp F H F H := ⟨Mono.refl _, fun a h _ _ _ => ⟨h, rfl⟩, fun _ h => h⟩
theorem Frm.trans {fp fp' : Nat → List Addr} {F H F' H' F2 H2 : Hp} (a : Frm fp F H F' H') (o : ∀ i b, b ∈ fp' i → (∃ j, b ∈ fp j) ∨ H b = none) (b : Frm fp' F' H' F2 H2) : Frm fp F H F2 H2 :=
  ⟨a.mono.trans b.mono, fun x h1 h2 h3 h4 => by
    obtain ⟨k1, k2⟩ := a.keep x h1 h2 h3 h4
    obtain ⟨l1, l2⟩ := b.keep x k1 (by rw [k2]; exact h2) (fun i hi => by
      rcases o i x hi with ⟨j, hj⟩ | e
      · exact h3 j hj
      · exact h2 e) (by rw [k2]; exact h4)
    exact ⟨l1, by rw [l2, k2]⟩, fun x h => b.grow x (a.grow x h)⟩
theorem Go.refl {c : Cfg} (h : Ok K mg c) : Go K mg c c := ⟨h, Frm.refl _ _ _, fun i b hb => .inl ⟨i, hb⟩, fun i d h => ⟨d, h, Grw.refl _ _, rfl⟩⟩
theorem Go.trans {c c1 c2 : Cfg} (a : Go K mg c c1) (b : Go K mg c1 c2) : Go K mg c c2 :=
  ⟨b.ok, a.fr.trans a.orig b.fr, fun i x hx => by
    rcases b.orig i x hx with ⟨j, hj⟩ | e
    · exact a.orig j x hj
    · refine .inr ?_
      cases q : c.H x with
      | none => rfl
      | some o => exact absurd e (a.fr.grow x (by rw [q]; simp)), fun i d h => by
    obtain ⟨d1, h1, f1, s1⟩ := a.bor i d h
    obtain ⟨d2, h2, f2, s2⟩ := b.bor i d1 h1
    exact ⟨d2, h2, f1.trans f2 fun x h => a.fr.grow x h, s2.trans s1⟩⟩

/-- an exception as the heap bears it -/
def ExOk (F H : Hp) (x : Ex) (cls : Value) (d : Option Addr) : Prop :=
  ∃ C, mg x.cls = some (.ref C) ∧ cls = .ref C ∧ match d with
    | none => x.fs = [] ∧ x.xs = []
    | some dd => ∃ gs, H dd = some (.xd gs) ∧ gs.map (·.1) = x.fs ∧ RepL K mg F x.xs (gs.map (·.2))
/-- an exception's dict is new, and nobody's -/
def XNew (H F : Hp) (fp : Nat → List Addr) (d : Option Addr) : Prop := ∀ b, d = some b → H b = none ∧ F b = none ∧ ∀ i, b ∉ fp i
/-- an exception out of an expression: the slots' values stand -/
def XOk (c : Cfg) (Ep : Ex → Env → Prop) (XE : XK) : Prop :=
  ∀ x cls d c', Go K mg c c' → c'.σ = c.σ → ExOk K mg c'.F c'.H x cls d → XNew c.H c'.F c'.fp d → Ep x c'.ρ → XE cls d c'.H
/-- an exception out of a statement -/
def XOkS (c : Cfg) (Ep : Ex → Env → Prop) (XE : XK) : Prop :=
  ∀ x cls d c', Go K mg c c' → ExOk K mg c'.F c'.H x cls d → XNew c.H c'.F c'.fp d → Ep x c'.ρ → XE cls d c'.H
theorem XNew.go {c c' : Cfg} {F : Hp} {fp : Nat → List Addr} {d : Option Addr} (h : XNew c'.H F fp d) (g : Go K mg c c') : XNew c.H F fp d := fun b e => by
  obtain ⟨h1, h2⟩ := h b e
  refine ⟨?_, h2⟩
  cases q : c.H b with
  | none => rfl
  | some o => exact absurd h1 (g.fr.grow b (by rw [q]; simp))
theorem XOk.go {c c' : Cfg} {Ep : Ex → Env → Prop} {XE : XK} (h : XOk K mg c Ep XE) (g : Go K mg c c') (e : c'.σ = c.σ) : XOk K mg c' Ep XE :=
  fun x cls d c2 g2 e2 o n q => h x cls d c2 (g.trans K mg g2) (e2.trans e) o (n.go K mg g) q
theorem XOkS.go {c c' : Cfg} {Ep : Ex → Env → Prop} {XE : XK} (h : XOkS K mg c Ep XE) (g : Go K mg c c') : XOkS K mg c' Ep XE :=
  fun x cls d c2 g2 o n q => h x cls d c2 (g.trans K mg g2) o (n.go K mg g) q
theorem XOkS.ex {c : Cfg} {Ep : Ex → Env → Prop} {XE : XK} (h : XOkS K mg c Ep XE) : XOk K mg c Ep XE := fun x cls d c2 g2 _ o n q => h x cls d c2 g2 o n q
theorem XOk.none {c : Cfg} {XE : XK} : XOk K mg c (fun _ _ => False) XE := fun _ _ _ _ _ _ _ _ e => e.elim
theorem XOkS.none {c : Cfg} {XE : XK} : XOkS K mg c (fun _ _ => False) XE := fun _ _ _ _ _ _ _ e => e.elim

/-- what came back -/
def RR (c c' : Cfg) : R → V → Prop
  | .val d, v => Rep K mg c'.F d v
  | .tmp d, v => ∃ ft, Own K mg c'.F c'.H d v ft ∧ ∀ b ∈ ft, c'.F b = none ∧ c'.H b ≠ none ∧ c.H b = none ∧ ∀ i, b ∉ c'.fp i
  | .slot i, v => c'.σ[i]? = some (some v)
/-- what a def hands back: as RR, but what is owned may have been owned by a slot -/
def RT (c c' : Cfg) : R → V → Prop
  | .val d, v => Rep K mg c'.F d v
  | .tmp d, v => ∃ ft, Own K mg c'.F c'.H d v ft ∧ ∀ b ∈ ft, c'.F b = none ∧ c'.H b ≠ none ∧ ((∃ j, b ∈ c.fp j) ∨ c.H b = none) ∧ ∀ i, b ∉ c'.fp i
  | .slot _, _ => False
end

variable [HasT]
abbrev WE := Env → (R → Env → Prop) → (Ex → Env → Prop) → Prop
abbrev WT := Env → (Bool → Env → Prop) → (Ex → Env → Prop) → Prop
abbrev WA := Env → (List R → Env → Prop) → (Ex → Env → Prop) → Prop
abbrev WK := Env → (D → Env → Prop) → (Ex → Env → Prop) → Prop
structure PEnds where
  nx : Env → Prop
  rt : R → Env → Prop := fun _ _ => False
  bk : Env → Prop := fun _ => False
  ct : Env → Prop := fun _ => False
  ex : Ex → Env → Prop := fun _ _ => False
abbrev WS := PEnds → Env → Prop

/-- an expression, over pure data -/
def PdE (X : Cx) (XE : XK) (e : Expr) (w : WE) : Prop := ∃ t, PE X e t ∧ ∀ (c : Cfg) (Qp : R → Env → Prop) (Ep : Ex → Env → Prop) (Q : VK),
  Ok X.K X.mg c → w c.ρ Qp Ep → XOk X.K X.mg c Ep XE → (∀ v c' r, Go X.K X.mg c c' → c'.σ = c.σ → RR X.K X.mg c c' r v → Qp r c'.ρ → Q v c'.H) → t c.σ c.H Q
/-- a test -/
def PdT (X : Cx) (XE : XK) (e : Expr) (w : WT) : Prop := ∃ t, PT X e t ∧ ∀ (c : Cfg) (Qp : Bool → Env → Prop) (Ep : Ex → Env → Prop) (Q : Bool → Hp → Prop),
  Ok X.K X.mg c → w c.ρ Qp Ep → XOk X.K X.mg c Ep XE → (∀ b c', Go X.K X.mg c c' → c'.σ = c.σ → Qp b c'.ρ → Q b c'.H) → t c.σ c.H Q
def PdW (X : Cx) (XE : XK) (e : Expr) (w : WT) : Prop := ∃ t, PW X e t ∧ ∀ (c : Cfg) (Qp : Bool → Env → Prop) (Ep : Ex → Env → Prop) (Q : Bool → Hp → Prop),
  Ok X.K X.mg c → w c.ρ Qp Ep → XOk X.K X.mg c Ep XE → (∀ b c', Go X.K X.mg c c' → c'.σ = c.σ → Qp b c'.ρ → Q b c'.H) → t c.σ c.H Q
/-- a statement, a block -/
def POk (K : PySem.W.Frag) (mg : Str → Option Value) (c : Cfg) (Dp : PEnds) (D : Ends) (XE : XK) : Prop :=
  (∀ c', Go K mg c c' → Dp.nx c'.ρ → D.nx c'.σ c'.H) ∧ (∀ v c' r, Go K mg c c' → RT K mg c c' r v → Dp.rt r c'.ρ → D.rt v c'.H) ∧
  (∀ c', Go K mg c c' → Dp.bk c'.ρ → D.bk c'.σ c'.H) ∧ (∀ c', Go K mg c c' → Dp.ct c'.ρ → D.ct c'.σ c'.H) ∧ XOkS K mg c Dp.ex XE
def PdS (X : Cx) (XE : XK) (st : Stmt) (w : WS) : Prop := ∃ t, PS X st t ∧ ∀ (c : Cfg) (Dp : PEnds) (D : Ends), Ok X.K X.mg c → w Dp c.ρ → POk X.K X.mg c Dp D XE → t D c.σ c.H
def PdSs (X : Cx) (XE : XK) (st : List Stmt) (w : WS) : Prop := ∃ t, PSs X st t ∧ ∀ (c : Cfg) (Dp : PEnds) (D : Ends), Ok X.K X.mg c → w Dp c.ρ → POk X.K X.mg c Dp D XE → t D c.σ c.H
end PL
/-! PL2: steps of the heap, freezing, slots; the first rules. -/
namespace PL
open PySem PySem.Spec PyProof.Rows L2
variable [HasT]

/-- only new things come -/
structure Step (F H F' H' : Hp) : Prop where
  mono : Mono F F'
  sub : Mono F' H'
  keep : ∀ a, H a ≠ none → H' a = H a ∧ (F a = none → F' a = none)
  tup : ∀ a xs, H' a = some (.tup xs) → H a = some (.tup xs) ∨ F' a = some (.tup xs)
theorem Step.refl {F H : Hp} (s : Mono F H) : Step F H F H := ⟨Mono.refl _, s, fun _ _ => ⟨rfl, fun h => h⟩, fun _ _ h => .inl h⟩
theorem Step.trans {F H F1 H1 F2 H2 : Hp} (a : Step F H F1 H1) (b : Step F1 H1 F2 H2) : Step F H F2 H2 :=
  ⟨a.mono.trans b.mono, b.sub, fun x h => by
    obtain ⟨k1, k2⟩ := a.keep x h
    obtain ⟨l1, l2⟩ := b.keep x (by rw [k1]; exact h)
    exact ⟨l1.trans k1, fun z => l2 (k2 z)⟩, fun x xs h => by
    rcases b.tup x xs h with q | q
    · rcases a.tup x xs q with q | q
      · exact .inl q
      · exact .inr (b.mono.tup q)
    · exact .inr q⟩
theorem Step.hm {F H F' H' : Hp} (a : Step F H F' H') : Mono H H' := .of fun b o h => by
  rw [(a.keep b (by rw [h]; simp)).1]; exact h
theorem fresh_F {F H : Hp} (s : Mono F H) {p : Addr} (h : H p = none) : F p = none := by
  cases q : F p with
  | none => rfl
  | some o => exact absurd h (s.ne q)
theorem mono_upd {F : Hp} {p : Addr} {o : HO} (h : F p = none) : Mono F (upd F p o) := .of fun b u e => by
  rw [upd_ne (ne_of_none e h)]; exact e
theorem sub_upd {F H : Hp} (s : Mono F H) {p : Addr} {o : HO} : Mono (upd F p o) (upd H p o) := fun b u e => by
  by_cases hb : b = p
  · subst hb; rw [upd_same] at e ⊢; exact ⟨_, e, .refl _⟩
  · rw [upd_ne hb] at e ⊢; exact s _ _ e
theorem sub_upd_r {F H : Hp} (s : Mono F H) {p : Addr} {o : HO} (h : F p = none) : Mono F (upd H p o) := fun b u e => by
  rw [upd_ne (ne_of_none e h)]; exact s _ _ e
theorem Step.tup' {F H : Hp} (s : Mono F H) {p : Addr} {o : HO} (h : H p = none) : Step F H (upd F p o) (upd H p o) :=
  ⟨mono_upd (fresh_F s h), sub_upd s, fun a ha => by
    have hne : a ≠ p := fun z => by subst z; exact ha h
    rw [upd_ne hne, upd_ne hne]; exact ⟨rfl, fun z => z⟩, fun a xs e => by
    by_cases z : a = p
    · subst z
      rw [upd_same] at e ⊢; exact .inr e
    · rw [upd_ne z] at e; exact .inl e⟩
theorem Step.new {F H : Hp} (s : Mono F H) {p : Addr} {o : HO} (h : H p = none) (hn : ∀ xs, o ≠ .tup xs := by intro xs z; cases z) : Step F H F (upd H p o) :=
  ⟨Mono.refl _, sub_upd_r s (fresh_F s h), fun a ha => by
    have hne : a ≠ p := fun z => by subst z; exact ha h
    rw [upd_ne hne]; exact ⟨rfl, fun z => z⟩, fun a xs e => by
    by_cases z : a = p
    · subst z
      rw [upd_same] at e; exact absurd (Option.some.inj e) (hn xs)
    · rw [upd_ne z] at e; exact .inl e⟩

/-- neither a table nor a code object -/
theorem tabs_keep {T : List (Addr × Str)} {H H' : Hp} (t : LamX.Tabs T H) (e : ∀ b o, H b = some o → ¬ Pl o → H' b = some o) : LamX.Tabs T H' := fun p hp => by
  obtain ⟨ps, h1, h2, h3⟩ := t p hp
  refine ⟨ps, e _ _ h1 (fun z => z), h2, fun pos cv hc => ?_⟩
  obtain ⟨c, e1, e2⟩ := h3 pos cv hc
  exact ⟨c, e1, e _ _ e2 (fun z => z)⟩
theorem tabs_upd {T : List (Addr × Str)} {H : Hp} {a : Addr} {u : HO} (t : LamX.Tabs T H) (h : ∀ o, H a = some o → Pl o) : LamX.Tabs T (upd H a u) :=
  tabs_keep t fun b o e n => by
    by_cases hb : b = a
    · subst hb; exact absurd (h o e) n
    · rw [upd_ne hb]; exact e
theorem pl_none {H : Hp} {A : Addr} (h : H A = none) : ∀ u, H A = some u → Pl u := fun u e => by rw [h] at e; cases e
theorem pl_some {H : Hp} {A : Addr} {o : HO} (h : H A = some o) (p : Pl o) : ∀ u, H A = some u → Pl u := fun u e => by rw [h] at e; cases e; exact p
theorem nt_of {H : Hp} {A : Addr} {o : HO} (h : H A = some o) (p : Pl o) : ∀ ps, H A ≠ some (.tbl ps) := fun ps z => by rw [h] at z; cases z; exact p
section
variable {K : PySem.W.Frag} {mg : Str → Option Value}
theorem ownF_pl {F H : Hp} {d : D} {v : V} {a : Addr} (o : OwnF K mg F H d v a) : ∃ u, H a = some u ∧ Pl u := by
  cases d with
  | lst ds => obtain ⟨e, xs, h1, h2⟩ := o; exact ⟨_, h1, True.intro⟩
  | dic ks ds => obtain ⟨e, xs, h1, h2⟩ := o; exact ⟨_, h1, True.intro⟩
  | dit ks ds => obtain ⟨e, xs, h1, h2⟩ := o; exact ⟨_, h1, True.intro⟩
  | _ => exact o.elim
theorem boxL_pl {F H : Hp} : ∀ {ds : List D} {xs : List V} {ft : List Addr}, BoxL K mg F H ds xs ft → ∀ b ∈ ft, ∃ u, H b = some u ∧ Pl u
  | [], _, _, o, b, hb => by obtain ⟨_, rfl⟩ := o; cases hb
  | d :: ds, _, ft, ⟨x, r, e, o⟩, b, hb => by
    by_cases hx : isBx d = true
    · rw [if_pos hx] at o
      obtain ⟨a, f2, rfl, o1, o2⟩ := o
      rcases List.mem_cons.mp hb with rfl | hb
      · exact ownF_pl o1
      · exact boxL_pl o2 b hb
    · rw [if_neg hx] at o
      exact boxL_pl o.2 b hb
theorem own_pl {F H : Hp} {d : D} {v : V} {ft : List Addr} (o : Own K mg F H d v ft) : ∀ b ∈ ft, ∃ u, H b = some u ∧ Pl u := by
  cases d with
  | lst ds => obtain ⟨a, xs, e, rfl, h1, h2⟩ := o; intro b hb; obtain rfl : b = a := (by simpa using hb); exact ⟨_, h1, True.intro⟩
  | dic ks ds => obtain ⟨a, xs, e, rfl, h1, h2⟩ := o; intro b hb; obtain rfl : b = a := (by simpa using hb); exact ⟨_, h1, True.intro⟩
  | dit ks ds => obtain ⟨a, xs, e, rfl, h1, h2⟩ := o; intro b hb; obtain rfl : b = a := (by simpa using hb); exact ⟨_, h1, True.intro⟩
  | obj c fs ds =>
    obtain ⟨a, C, dx, gs, f2, g, e, rfl, nd, h0, h1, h2, h3, h4⟩ := o
    intro b hb
    rcases List.mem_cons.mp hb with rfl | hb
    · exact ⟨_, h1, True.intro⟩
    · rcases List.mem_append.mp hb with hb | hb
      · exact boxL_pl h3 b hb
      · exact h4 b hb
  | draw =>
    obtain ⟨a, l, e, rfl, ne, ⟨c, rest, turn, mix, h1, _⟩, ls, h3, _⟩ := o
    intro b hb
    rcases List.mem_cons.mp hb with rfl | hb
    · exact ⟨_, h1, True.intro⟩
    · obtain rfl : b = l := by simpa using hb
      exact ⟨_, h3, True.intro⟩
  | _ => exact o.elim
theorem EntOk.frame {F H F' H' : Hp} {e : Ent} {v : V} {ft : List Addr} (o : EntOk K mg F H e v ft) (m : Mono F F') (h : ∀ b ∈ ft, H' b = H b) : EntOk K mg F' H' e v ft := by
  cases e with
  | val d => exact ⟨o.1.mono K mg m _ _, o.2⟩
  | own b d => exact Own.frame K mg o m h
theorem Step.go {c : Cfg} (ok : Ok K mg c) {F' H' : Hp} (s : Step c.F c.H F' H') : Go K mg c { c with F := F', H := H' } := by
  refine ⟨⟨ok.tabs.ext (fun b o e => by show H' b = some o; rw [(s.keep b (by rw [e]; simp)).1]; exact e), s.sub, ok.len, fun i e h => ?_, ok.non, fun i b hb => ?_, ok.disj, fun a xs e => by
    rcases s.tup a xs e with q | q
    · exact s.mono.tup (ok.tf a xs q)
    · exact q⟩, ⟨s.mono, fun a h1 h2 _ _ => ⟨(s.keep a h2).2 h1, (s.keep a h2).1⟩, fun a h => by show H' a ≠ none; rw [(s.keep a h).1]; exact h⟩, fun i b hb => .inl ⟨i, hb⟩, fun i d h => ⟨d, h, Grw.refl _ _, rfl⟩⟩
  · obtain ⟨v, hv, eo⟩ := ok.slot i e h
    exact ⟨v, hv, eo.frame s.mono fun b hb => (s.keep b (ok.out i b hb).2).1⟩
  · obtain ⟨h1, h2⟩ := ok.out i b hb
    exact ⟨(s.keep b h2).2 h1, by show H' b ≠ none; rw [(s.keep b h2).1]; exact h2⟩

theorem ent_pl {F H : Hp} {e : Ent} {v : V} {ft : List Addr} (o : EntOk K mg F H e v ft) : ∀ b ∈ ft, ∃ u, H b = some u ∧ Pl u := by
  cases e with
  | val d => intro b hb; rw [o.2] at hb; cases hb
  | own b d => exact own_pl o
/-! ### freezing -/
def frz : D → Prop → Prop
  | .lst _, p => p
  | .dic _ _, p => p
  | .dit _ _, p => p
  | .obj _ _ _, p => p
  | _, _ => False
/-- the addresses ft are frozen as they stand -/
def frzF (F H : Hp) (ft : List Addr) : Hp := fun b => if b ∈ ft then H b else F b
theorem frzF_in {F H : Hp} {ft : List Addr} {b : Addr} (h : b ∈ ft) : frzF F H ft b = H b := by unfold frzF; rw [if_pos h]
theorem frzF_out {F H : Hp} {ft : List Addr} {b : Addr} (h : b ∉ ft) : frzF F H ft b = F b := by unfold frzF; rw [if_neg h]
theorem frzF_mono {F H : Hp} {ft : List Addr} (h : ∀ b ∈ ft, F b = none) : Mono F (frzF F H ft) := .of fun b o e => by
  rw [frzF_out fun z => by rw [h b z] at e; cases e]; exact e
theorem frzF_sub {F H : Hp} {ft : List Addr} (s : Mono F H) : Mono (frzF F H ft) H := fun b o e => by
  by_cases hb : b ∈ ft
  · rw [frzF_in hb] at e; exact ⟨o, e, .refl o⟩
  · rw [frzF_out hb] at e; exact s b o e
theorem frzF_tf {F H : Hp} {ft : List Addr} (t : TupF F H) : TupF (frzF F H ft) H := fun a xs e => by
  by_cases h : a ∈ ft
  · rw [frzF_in h]; exact e
  · rw [frzF_out h]; exact t a xs e
theorem ownF_rep {F H F' : Hp} {d : D} {v : V} {a : Addr} (o : OwnF K mg F H d v a) (m : Mono F F') (h : F' a = H a) : Rep K mg F' d v := by
  cases d with
  | lst ds => obtain ⟨e, xs, h1, h2⟩ := o; exact ⟨a, xs, e, h.trans h1, h2.mono K mg m _ _⟩
  | dic ks ds => obtain ⟨e, kvs, h1, h2, h3⟩ := o; exact ⟨a, kvs, e, .inl (h.trans h1), h2, h3.mono K mg m _ _⟩
  | dit ks ds => obtain ⟨e, kvs, h1, h2, h3⟩ := o; exact ⟨a, kvs, e, .inl (h.trans h1), h2, h3.mono K mg m _ _⟩
  | _ => exact o.elim
theorem boxL_rep {F H F' : Hp} (m : Mono F F') : ∀ {ds : List D} {xs : List V} {ft : List Addr}, BoxL K mg F H ds xs ft → (∀ b ∈ ft, F' b = H b) → RepL K mg F' ds xs
  | [], _, _, o, _ => o.1
  | d :: ds, _, ft, ⟨x, r, e, o⟩, h => by
    by_cases hx : isBx d = true
    · rw [if_pos hx] at o
      obtain ⟨a, f2, rfl, o1, o2⟩ := o
      cases d with
      | box d =>
        have hr : Rep K mg F' d x := ownF_rep (d := d) o1 m (h a (by simp))
        exact ⟨x, r, e, hr, boxL_rep m o2 fun b hb => h b (by simp [hb])⟩
      | _ => cases hx
    · rw [if_neg hx] at o
      exact ⟨x, r, e, o.1.mono K mg m _ _, boxL_rep m o.2 h⟩
theorem frz_own {F H : Hp} {d : D} {v : V} {ft : List Addr} {p : Prop} (o : Own K mg F H d v ft) (f : frz d p) :
    p ∧ ∀ F', Mono F F' → (∀ b ∈ ft, F' b = H b) → Rep K mg F' d v := by
  cases d with
  | lst ds =>
    obtain ⟨a, xs, e, rfl, h1, h2⟩ := o
    exact ⟨f, fun F' m h => ⟨a, xs, e, (h a (by simp)).trans h1, h2.mono K mg m _ _⟩⟩
  | dic ks ds =>
    obtain ⟨a, kvs, e, rfl, h1, h2, h3⟩ := o
    exact ⟨f, fun F' m h => ⟨a, kvs, e, .inl ((h a (by simp)).trans h1), h2, h3.mono K mg m _ _⟩⟩
  | dit ks ds =>
    obtain ⟨a, kvs, e, rfl, h1, h2, h3⟩ := o
    exact ⟨f, fun F' m h => ⟨a, kvs, e, .inl ((h a (by simp)).trans h1), h2, h3.mono K mg m _ _⟩⟩
  | obj c fs ds =>
    obtain ⟨a, C, dx, gs, f2, g, e, rfl, nd, h0, h1, h2, h3, h4⟩ := o
    exact ⟨f, fun F' m h => ⟨a, C, dx, gs, e, h0, (h a (by simp)).trans h1, h2, boxL_rep m h3 fun b hb => h b (by simp [hb])⟩⟩
  | _ => exact f.elim
theorem freeze_tmp {c c1 : Cfg} {d : D} {v : V} {p : Prop} (g : Go K mg c c1) (r : RR K mg c c1 (.tmp d) v) (f : frz d p) :
    p ∧ ∃ F', Go K mg c { c1 with F := F' } ∧ Rep K mg F' d v := by
  obtain ⟨ft, o, hf⟩ := r
  obtain ⟨hp, hr⟩ := frz_own o f
  have m : Mono c1.F (frzF c1.F c1.H ft) := frzF_mono fun b hb => (hf b hb).1
  refine ⟨hp, frzF c1.F c1.H ft, ⟨⟨g.ok.tabs, frzF_sub g.ok.sub, g.ok.len, fun i e h => ?_, g.ok.non, fun i b hb => ?_, g.ok.disj, frzF_tf g.ok.tf⟩, ⟨g.fr.mono.trans m, fun b k1 k2 k3 k4 => ?_, g.fr.grow⟩, g.orig, g.bor⟩, hr _ m fun b hb => frzF_in hb⟩
  · obtain ⟨w, hw, eo⟩ := g.ok.slot i e h
    exact ⟨w, hw, eo.frame m fun _ _ => rfl⟩
  · have hne : b ∉ ft := fun z => (hf b z).2.2.2 i hb
    obtain ⟨q1, q2⟩ := g.ok.out i b hb
    exact ⟨by show frzF c1.F c1.H ft b = none; rw [frzF_out hne]; exact q1, q2⟩
  · obtain ⟨q1, q2⟩ := g.fr.keep b k1 k2 k3 k4
    have hne : b ∉ ft := fun z => k2 (hf b z).2.2.1
    exact ⟨by show frzF c1.F c1.H ft b = none; rw [frzF_out hne]; exact q1, q2⟩

def fpSet (fp : Nat → List Addr) (i : Nat) (ft : List Addr) : Nat → List Addr := fun j => if j = i then ft else fp j
theorem fpSet_same {fp : Nat → List Addr} {i : Nat} {ft : List Addr} : fpSet fp i ft i = ft := by unfold fpSet; rw [if_pos rfl]
theorem fpSet_ne {fp : Nat → List Addr} {i j : Nat} {ft : List Addr} (h : j ≠ i) : fpSet fp i ft j = fp j := by unfold fpSet; rw [if_neg h]
theorem Ok.own {c : Cfg} (ok : Ok K mg c) {i : Nat} {b : Bool} {d : D} (h : c.ρ[i]? = some (some (.own b d))) : ∃ v, c.σ[i]? = some (some v) ∧ Own K mg c.F c.H d v (c.fp i) := ok.slot i _ h
theorem Ok.val {c : Cfg} (ok : Ok K mg c) {i : Nat} {d : D} (h : c.ρ[i]? = some (some (.val d))) : ∃ v, c.σ[i]? = some (some v) ∧ Rep K mg c.F d v ∧ c.fp i = [] := ok.slot i _ h
theorem set_get {α : Type} {l : List α} {i j : Nat} {x y : α} (h : (l.set i x)[j]? = some y) : (j = i ∧ y = x) ∨ (j ≠ i ∧ l[j]? = some y) := by
  by_cases hj : j = i
  · subst hj
    have hl : j < (l.set j x).length := (List.getElem?_eq_some_iff.mp h).1
    rw [List.getElem?_set_self (by simpa using hl)] at h
    exact .inl ⟨rfl, (Option.some.inj h).symm⟩
  · rw [List.getElem?_set_ne (Ne.symm hj)] at h
    exact .inr ⟨hj, h⟩
theorem freeze_slot {c : Cfg} (ok : Ok K mg c) {i : Nat} {d : D} {p : Prop} (h : c.ρ[i]? = some (some (.own false d))) (f : frz d p) :
    p ∧ ∃ v F', c.σ[i]? = some (some v) ∧ Rep K mg F' d v ∧ Go K mg c { c with F := F', ρ := c.ρ.set i (some (.val d)), fp := fpSet c.fp i [] } := by
  obtain ⟨v, hv, o⟩ := ok.own h
  obtain ⟨hp, hr⟩ := frz_own o f
  have m : Mono c.F (frzF c.F c.H (c.fp i)) := frzF_mono fun b hb => (ok.out i b hb).1
  have hrr := hr _ m fun b hb => frzF_in hb
  have il : i < c.ρ.length := (List.getElem?_eq_some_iff.mp h).1
  refine ⟨hp, v, frzF c.F c.H (c.fp i), hv, hrr, ⟨⟨ok.tabs, frzF_sub ok.sub, by simpa using ok.len, fun j x q => ?_, fun j q => ?_, fun j b hb => ?_, fun j k b h1 h2 => ?_, frzF_tf ok.tf⟩, ⟨m, fun b k1 k2 k3 k4 => ?_, fun _ z => z⟩, fun j b hb => ?_, fun j y q => ?_⟩⟩
  · rcases set_get q with ⟨rfl, ex⟩ | ⟨hj, q'⟩
    · cases ex
      exact ⟨v, hv, hrr, fpSet_same⟩
    · obtain ⟨w, hw, eo⟩ := ok.slot j x q'
      refine ⟨w, hw, ?_⟩
      show EntOk K mg (frzF c.F c.H (c.fp i)) c.H x w (fpSet c.fp i [] j)
      rw [fpSet_ne hj]
      exact eo.frame m fun _ _ => rfl
  · show fpSet c.fp i [] j = []
    by_cases hj : j = i
    · subst hj; exact fpSet_same
    · rw [fpSet_ne hj]
      exact ok.non j fun e z => q e (by show (c.ρ.set i _)[j]? = _; rw [List.getElem?_set_ne (Ne.symm hj)]; exact z)
  · replace hb : b ∈ fpSet c.fp i [] j := hb
    have hj : j ≠ i := fun z => by
      subst z
      rw [show fpSet c.fp j [] j = [] from fpSet_same] at hb; cases hb
    rw [show fpSet c.fp i [] j = c.fp j from fpSet_ne hj] at hb
    obtain ⟨q1, q2⟩ := ok.out j b hb
    have hne : b ∉ c.fp i := fun z => hj (ok.disj j i b hb z)
    exact ⟨by show frzF c.F c.H (c.fp i) b = none; rw [frzF_out hne]; exact q1, q2⟩
  · replace h1 : b ∈ fpSet c.fp i [] j := h1
    replace h2 : b ∈ fpSet c.fp i [] k := h2
    by_cases hj : j = i
    · subst hj
      rw [show fpSet c.fp j [] j = [] from fpSet_same] at h1; cases h1
    · by_cases hk : k = i
      · subst hk
        rw [show fpSet c.fp k [] k = [] from fpSet_same] at h2; cases h2
      · rw [show fpSet c.fp i [] j = c.fp j from fpSet_ne hj] at h1
        rw [show fpSet c.fp i [] k = c.fp k from fpSet_ne hk] at h2
        exact ok.disj j k b h1 h2
  · have hne : b ∉ c.fp i := k3 i
    exact ⟨by show frzF c.F c.H (c.fp i) b = none; rw [frzF_out hne]; exact k1, rfl⟩
  · replace hb : b ∈ fpSet c.fp i [] j := hb
    by_cases hj : j = i
    · subst hj
      rw [show fpSet c.fp j [] j = [] from fpSet_same] at hb; cases hb
    · rw [show fpSet c.fp i [] j = c.fp j from fpSet_ne hj] at hb
      exact .inl ⟨j, hb⟩
  · have hj : j ≠ i := fun z => by subst z; rw [h] at q; cases q
    exact ⟨y, by show (c.ρ.set i _)[j]? = _; rw [List.getElem?_set_ne (Ne.symm hj)]; exact q, by rw [show ({ c with F := frzF c.F c.H (c.fp i), ρ := c.ρ.set i (some (.val d)), fp := fpSet c.fp i [] } : Cfg).fp j = c.fp j from fpSet_ne hj]; exact Grw.refl _ _, rfl⟩

/-- slot i takes what came: ft are its addresses, all of them new since c -/
theorem set_slot {c c1 : Cfg} (g : Go K mg c c1) {i : Nat} {e : Ent} {v : V} {ft : List Addr} (il : i < c1.ρ.length) (nb : ∀ d, c1.ρ[i]? ≠ some (some (.own true d)))
    (eo : EntOk K mg c1.F c1.H e v ft) (nt : ∀ d, e ≠ .own true d) (hf : ∀ b ∈ ft, c1.F b = none ∧ c1.H b ≠ none ∧ c.H b = none ∧ ∀ i, b ∉ c1.fp i) :
    Go K mg c { c1 with σ := c1.σ.set i (some v), ρ := c1.ρ.set i (some e), fp := fpSet c1.fp i ft } := by
  have hlen := g.ok.len
  refine ⟨⟨g.ok.tabs, g.ok.sub, by simpa using hlen, fun j x q => ?_, fun j q => ?_, fun j b hb => ?_, fun j k b h1 h2 => ?_, g.ok.tf⟩, g.fr, fun j b hb => ?_, fun j y q => ?_⟩
  · rcases set_get q with ⟨rfl, ex⟩ | ⟨hj, q'⟩
    · cases ex
      refine ⟨v, by show (c1.σ.set j _)[j]? = _; rw [List.getElem?_set_self (by omega)], ?_⟩
      show EntOk K mg c1.F c1.H e v (fpSet c1.fp j ft j)
      rw [fpSet_same]; exact eo
    · obtain ⟨w, hw, eo'⟩ := g.ok.slot j x q'
      refine ⟨w, by show (c1.σ.set i _)[j]? = _; rw [List.getElem?_set_ne (Ne.symm hj)]; exact hw, ?_⟩
      show EntOk K mg c1.F c1.H x w (fpSet c1.fp i ft j)
      rw [fpSet_ne hj]; exact eo'
  · show fpSet c1.fp i ft j = []
    by_cases hj : j = i
    · subst hj
      exact absurd (show (c1.ρ.set j (some e))[j]? = some (some e) by rw [List.getElem?_set_self il]) (q e)
    · rw [fpSet_ne hj]
      exact g.ok.non j fun e' z => q e' (by show (c1.ρ.set i _)[j]? = _; rw [List.getElem?_set_ne (Ne.symm hj)]; exact z)
  · replace hb : b ∈ fpSet c1.fp i ft j := hb
    by_cases hj : j = i
    · subst hj
      rw [show fpSet c1.fp j ft j = ft from fpSet_same] at hb
      exact ⟨(hf b hb).1, (hf b hb).2.1⟩
    · rw [show fpSet c1.fp i ft j = c1.fp j from fpSet_ne hj] at hb
      exact g.ok.out j b hb
  · replace h1 : b ∈ fpSet c1.fp i ft j := h1
    replace h2 : b ∈ fpSet c1.fp i ft k := h2
    by_cases hj : j = i
    · subst hj
      rw [show fpSet c1.fp j ft j = ft from fpSet_same] at h1
      by_cases hk : k = j
      · exact hk.symm
      · rw [show fpSet c1.fp j ft k = c1.fp k from fpSet_ne hk] at h2
        exact absurd h2 ((hf b h1).2.2.2 k)
    · rw [show fpSet c1.fp i ft j = c1.fp j from fpSet_ne hj] at h1
      by_cases hk : k = i
      · subst hk
        rw [show fpSet c1.fp k ft k = ft from fpSet_same] at h2
        exact absurd h1 ((hf b h2).2.2.2 j)
      · rw [show fpSet c1.fp i ft k = c1.fp k from fpSet_ne hk] at h2
        exact g.ok.disj j k b h1 h2
  · replace hb : b ∈ fpSet c1.fp i ft j := hb
    by_cases hj : j = i
    · subst hj
      rw [show fpSet c1.fp j ft j = ft from fpSet_same] at hb
      exact .inr (hf b hb).2.2.1
    · rw [show fpSet c1.fp i ft j = c1.fp j from fpSet_ne hj] at hb
      exact g.orig j b hb
  · obtain ⟨d', h1, h2, h3⟩ := g.bor j y q
    have hj : j ≠ i := fun z => by subst z; exact nb d' h1
    exact ⟨d', by show (c1.ρ.set i _)[j]? = _; rw [List.getElem?_set_ne (Ne.symm hj)]; exact h1, by rw [show ({ c1 with σ := c1.σ.set i (some v), ρ := c1.ρ.set i (some e), fp := fpSet c1.fp i ft } : Cfg).fp j = c1.fp j from fpSet_ne hj]; exact h2, by show (c1.σ.set i _)[j]? = _; rw [List.getElem?_set_ne (Ne.symm hj)]; exact h3⟩
/-- what slot i owns is changed; it may own more, new addresses -/
theorem write_slot2 {c : Cfg} (ok : Ok K mg c) {i : Nat} {b : Bool} {d d' : D} {v : V} {H' : Hp} {ft : List Addr} (h : c.ρ[i]? = some (some (.own b d))) (hv : c.σ[i]? = some (some v)) (o : Own K mg c.F H' d' v ft)
    (hk : ∀ a, a ∉ c.fp i → c.H a ≠ none → H' a = c.H a) (hs : ∀ a, c.H a ≠ none → H' a ≠ none) (hf : Grw (c.fp i) ft c.H) (ht : TupF c.F H') : Go K mg c { c with H := H', ρ := c.ρ.set i (some (.own b d')), fp := fpSet c.fp i ft } := by
  have il : i < c.ρ.length := (List.getElem?_eq_some_iff.mp h).1
  have fF : ∀ a ∈ ft, c.F a = none ∧ H' a ≠ none := fun a ha => by
    refine ⟨?_, ?_⟩
    · rcases hf.2 a ha with q | q
      · exact (ok.out i a q).1
      · exact fresh_F ok.sub q
    · obtain ⟨u, e, _⟩ := own_pl o a ha
      rw [e]; simp
  have nf : ∀ j a, j ≠ i → a ∈ c.fp j → a ∉ ft := fun j a hj ha z => by
    rcases hf.2 a z with q | q
    · exact hj (ok.disj j i a ha q)
    · exact (ok.out j a ha).2 q
  have keepF : ∀ a u, c.F a = some u → H' a = c.H a := fun a u ha => by
    obtain ⟨o', e, _⟩ := ok.sub a u ha
    exact hk a (fun z => by rw [(ok.out i a z).1] at ha; cases ha) (by rw [e]; simp)
  refine ⟨⟨tabs_keep ok.tabs fun a u e n => by
    show H' a = some u
    rw [hk a (fun z => by
      obtain ⟨v', hv', o'⟩ := ok.own h
      obtain ⟨u', e', n'⟩ := own_pl o' a z
      rw [e] at e'; cases e'
      exact n n') (by rw [e]; simp)]
    exact e, fun a u e => ?_, by simpa using ok.len, fun j x q => ?_, fun j q => ?_, fun j a ha => ?_, fun j k a h1 h2 => ?_, ht⟩, ⟨Mono.refl _, fun a h1 h2 h3 _ => ⟨h1, hk a (h3 i) h2⟩, fun a ha => hs a ha⟩, fun j a ha => ?_, fun j y q => ?_⟩
  · show ∃ o', H' a = some o' ∧ HLe u o'
    rw [keepF a u e]; exact ok.sub _ _ e
  · rcases set_get q with ⟨rfl, ex⟩ | ⟨hj, q'⟩
    · cases ex
      refine ⟨v, hv, ?_⟩
      show EntOk K mg c.F H' (.own b d') v (fpSet c.fp j ft j)
      rw [fpSet_same]; exact o
    · obtain ⟨w, hw, eo⟩ := ok.slot j x q'
      refine ⟨w, hw, ?_⟩
      show EntOk K mg c.F H' x w (fpSet c.fp i ft j)
      rw [fpSet_ne hj]
      exact eo.frame (Mono.refl _) fun a ha => hk a (fun z => hj (ok.disj j i a ha z)) (ok.out j a ha).2
  · show fpSet c.fp i ft j = []
    by_cases hj : j = i
    · subst hj
      exact absurd (show (c.ρ.set j (some (.own b d')))[j]? = some (some (.own b d')) by rw [List.getElem?_set_self il]) (q _)
    · rw [fpSet_ne hj]
      exact ok.non j fun e' z => q e' (by show (c.ρ.set i _)[j]? = _; rw [List.getElem?_set_ne (Ne.symm hj)]; exact z)
  · replace ha : a ∈ fpSet c.fp i ft j := ha
    by_cases hj : j = i
    · subst hj
      rw [show fpSet c.fp j ft j = ft from fpSet_same] at ha
      exact fF a ha
    · rw [show fpSet c.fp i ft j = c.fp j from fpSet_ne hj] at ha
      exact ⟨(ok.out j a ha).1, hs a (ok.out j a ha).2⟩
  · replace h1 : a ∈ fpSet c.fp i ft j := h1
    replace h2 : a ∈ fpSet c.fp i ft k := h2
    by_cases hj : j = i
    · subst hj
      rw [show fpSet c.fp j ft j = ft from fpSet_same] at h1
      by_cases hk : k = j
      · exact hk.symm
      · rw [show fpSet c.fp j ft k = c.fp k from fpSet_ne hk] at h2
        exact absurd h1 (nf k a hk h2)
    · rw [show fpSet c.fp i ft j = c.fp j from fpSet_ne hj] at h1
      by_cases hk : k = i
      · subst hk
        rw [show fpSet c.fp k ft k = ft from fpSet_same] at h2
        exact absurd h2 (nf j a hj h1)
      · rw [show fpSet c.fp i ft k = c.fp k from fpSet_ne hk] at h2
        exact ok.disj j k a h1 h2
  · replace ha : a ∈ fpSet c.fp i ft j := ha
    by_cases hj : j = i
    · subst hj
      rw [show fpSet c.fp j ft j = ft from fpSet_same] at ha
      rcases hf.2 a ha with q | q
      · exact .inl ⟨j, q⟩
      · exact .inr q
    · rw [show fpSet c.fp i ft j = c.fp j from fpSet_ne hj] at ha
      exact .inl ⟨j, ha⟩
  · by_cases hj : j = i
    · subst hj
      rw [h] at q; cases q
      refine ⟨d', by show (c.ρ.set j _)[j]? = _; rw [List.getElem?_set_self il], ?_, rfl⟩
      rw [show ({ c with H := H', ρ := c.ρ.set j (some (.own true d')), fp := fpSet c.fp j ft } : Cfg).fp j = ft from fpSet_same]
      exact hf
    · refine ⟨y, by show (c.ρ.set i _)[j]? = _; rw [List.getElem?_set_ne (Ne.symm hj)]; exact q, ?_, rfl⟩
      rw [show ({ c with H := H', ρ := c.ρ.set i (some (.own b d')), fp := fpSet c.fp i ft } : Cfg).fp j = c.fp j from fpSet_ne hj]
      exact Grw.refl _ _
/-- all tuples frozen -/
def tupCl (F H : Hp) : Hp := fun b => match H b with
  | some (.tup xs) => some (.tup xs)
  | _ => F b
theorem tupCl_tup {F H : Hp} {b : Addr} {xs : List V} (h : H b = some (.tup xs)) : tupCl F H b = some (.tup xs) := by unfold tupCl; rw [h]
theorem tupCl_not {F H : Hp} {b : Addr} (h : ∀ xs, H b ≠ some (.tup xs)) : tupCl F H b = F b := by
  unfold tupCl
  split
  next xs e => exact absurd e (h xs)
  next => rfl
theorem tupCl_cases (F H : Hp) (b : Addr) : (∃ xs, H b = some (.tup xs) ∧ tupCl F H b = some (.tup xs)) ∨ ((∀ xs, H b ≠ some (.tup xs)) ∧ tupCl F H b = F b) := by
  by_cases h : ∃ xs, H b = some (.tup xs)
  · obtain ⟨xs, h⟩ := h
    exact .inl ⟨xs, h, tupCl_tup h⟩
  · exact .inr ⟨fun xs z => h ⟨xs, z⟩, tupCl_not fun xs z => h ⟨xs, z⟩⟩
theorem tupCl_tf (F H : Hp) : TupF (tupCl F H) H := fun a xs h => tupCl_tup h
theorem tupCl_sub {F H : Hp} (s : Mono F H) : Mono (tupCl F H) H := fun b o e => by
  rcases tupCl_cases F H b with ⟨xs, h1, h2⟩ | ⟨_, h2⟩
  · rw [h2] at e; cases e; exact ⟨_, h1, .refl _⟩
  · rw [h2] at e; exact s b o e
theorem tupCl_mono {F H : Hp} (s : Mono F H) : Mono F (tupCl F H) := .of fun b o e => by
  rcases tupCl_cases F H b with ⟨xs, h1, h2⟩ | ⟨_, h2⟩
  · obtain ⟨o', e', l⟩ := s b o e
    rw [h1] at e'; cases e'
    rcases l with rfl | ⟨_, z, _⟩ | ⟨_, _, _, z⟩
    · exact h2
    · cases z
    · cases z
  · rw [h2]; exact e
theorem tf_upd {F H : Hp} {a : Addr} {o : HO} (t : TupF F H) (hn : ∀ xs, o ≠ .tup xs := by intro xs z; cases z) : TupF F (upd H a o) := fun b xs e => by
  by_cases z : b = a
  · subst z; rw [upd_same] at e; exact absurd (Option.some.inj e) (hn xs)
  · rw [upd_ne z] at e; exact t b xs e
theorem fpSet_id {fp : Nat → List Addr} {i : Nat} : fpSet fp i (fp i) = fp := by
  funext j
  unfold fpSet
  split
  · next h => rw [h]
  · rfl
/-- what slot i owns is changed -/
theorem write_slot {c : Cfg} (ok : Ok K mg c) {i : Nat} {b : Bool} {d d' : D} {v : V} {H' : Hp} (h : c.ρ[i]? = some (some (.own b d))) (hv : c.σ[i]? = some (some v)) (o : Own K mg c.F H' d' v (c.fp i))
    (hk : ∀ a, a ∉ c.fp i → H' a = c.H a) (hs : ∀ a ∈ c.fp i, H' a ≠ none) : Go K mg c { c with H := H', ρ := c.ρ.set i (some (.own b d')) } := by
  have := write_slot2 (ft := c.fp i) ok h hv o (fun a ha _ => hk a ha) (fun a ha => by
    by_cases hi : a ∈ c.fp i
    · exact hs a hi
    · rw [hk a hi]; exact ha) (Grw.refl _ _) (fun a xs e => by
    by_cases hi : a ∈ c.fp i
    · obtain ⟨u, e', pu⟩ := own_pl o a hi
      rw [e] at e'; cases e'; exact pu.elim
    · rw [hk a hi] at e; exact ok.tf a xs e)
  rw [fpSet_id] at this
  exact this
end

/-! ### reading what came -/
def peek (ρ : Env) : R → Option D
  | .val d => some d
  | .tmp d => some d
  | .slot i => match ρ[i]? with
    | some (some e) => some e.d
    | _ => none
def wV (w : WE) : WE := fun ρ Q Ep => w ρ (fun r ρ' => match r with
  | .tmp d => frz d (Q (.val d) ρ')
  | r => Q r ρ') Ep
def wK (w : WE) : WK := fun ρ Q Ep => w ρ (fun r ρ' => match r with
  | .val d => Q d ρ'
  | .tmp d => frz d (Q d ρ')
  | .slot i => match ρ'[i]? with
    | some (some (.val d)) => Q d ρ'
    | some (some (.own false d)) => frz d (Q d (ρ'.set i (some (.val d))))
    | _ => False) Ep
/-- data to be read now: frozen, or owned by somebody -/
def See (K : PySem.W.Frag) (mg : Str → Option Value) (F H : Hp) (d : D) (v : V) : Prop := Rep K mg F d v ∨ ∃ ft, Own K mg F H d v ft
def RRV (K : PySem.W.Frag) (mg : Str → Option Value) (c : Cfg) : R → V → Prop
  | .val d, v => Rep K mg c.F d v
  | .tmp _, _ => False
  | .slot i, v => c.σ[i]? = some (some v)
section
variable {K : PySem.W.Frag} {mg : Str → Option Value}
theorem RRV.go {c c' : Cfg} {r : R} {v : V} (h : RRV K mg c r v) (g : Go K mg c c') (e : c'.σ = c.σ) : RRV K mg c' r v := by
  cases r with
  | val d => exact Rep.mono K mg g.fr.mono _ _ h
  | tmp d => exact h
  | slot i =>
    show c'.σ[i]? = _
    rw [e]; exact h
theorem RRV.see {c : Cfg} {r : R} {v : V} {d : D} (h : RRV K mg c r v) (ok : Ok K mg c) (e : peek c.ρ r = some d) : See K mg c.F c.H d v := by
  cases r with
  | val d' => cases e; exact .inl h
  | tmp d' => exact h.elim
  | slot i =>
    cases hx : c.ρ[i]? with
    | none => simp [peek, hx] at e
    | some y =>
      cases y with
      | none => simp [peek, hx] at e
      | some x =>
        simp only [peek, hx, Option.some.injEq] at e
        obtain ⟨w, hw, eo⟩ := ok.slot i x hx
        have h' : c.σ[i]? = some (some v) := h
        rw [hw] at h'
        cases h'
        cases x with
        | val d' => cases e; exact .inl eo.1
        | own b d' => cases e; exact .inr ⟨_, eo⟩
end
section
variable {X : Cx} {XE : XK}
theorem runV {e : Expr} {w : WE} {t : TE} (s : ∀ (c : Cfg) (Qp : R → Env → Prop) (Ep : Ex → Env → Prop) (Q : VK), Ok X.K X.mg c → w c.ρ Qp Ep → XOk X.K X.mg c Ep XE → (∀ v c' r, Go X.K X.mg c c' → c'.σ = c.σ → RR X.K X.mg c c' r v → Qp r c'.ρ → Q v c'.H) → t c.σ c.H Q)
    {c : Cfg} {Qp : R → Env → Prop} {Ep : Ex → Env → Prop} {Q : VK} (ok : Ok X.K X.mg c) (h : wV w c.ρ Qp Ep) (x : XOk X.K X.mg c Ep XE) (k : ∀ v c' r, Go X.K X.mg c c' → c'.σ = c.σ → RRV X.K X.mg c' r v → Qp r c'.ρ → Q v c'.H) : t c.σ c.H Q := by
  refine s c _ Ep Q ok h x fun v c' r g e rr q => ?_
  cases r with
  | val d => exact k v c' (.val d) g e rr q
  | tmp d =>
    obtain ⟨q', F', g', rp⟩ := freeze_tmp g rr q
    exact k v { c' with F := F' } (.val d) g' e rp q'
  | slot i => exact k v c' (.slot i) g e rr q
theorem runK {e : Expr} {w : WE} {t : TE} (s : ∀ (c : Cfg) (Qp : R → Env → Prop) (Ep : Ex → Env → Prop) (Q : VK), Ok X.K X.mg c → w c.ρ Qp Ep → XOk X.K X.mg c Ep XE → (∀ v c' r, Go X.K X.mg c c' → c'.σ = c.σ → RR X.K X.mg c c' r v → Qp r c'.ρ → Q v c'.H) → t c.σ c.H Q)
    {c : Cfg} {Qp : D → Env → Prop} {Ep : Ex → Env → Prop} {Q : VK} (ok : Ok X.K X.mg c) (h : wK w c.ρ Qp Ep) (x : XOk X.K X.mg c Ep XE) (k : ∀ v c' d, Go X.K X.mg c c' → c'.σ = c.σ → Rep X.K X.mg c'.F d v → Qp d c'.ρ → Q v c'.H) : t c.σ c.H Q := by
  refine s c _ Ep Q ok h x fun v c' r g e rr q => ?_
  cases r with
  | val d => exact k v c' d g e rr q
  | tmp d =>
    obtain ⟨q', F', g', rp⟩ := freeze_tmp g rr q
    exact k v { c' with F := F' } d g' e rp q'
  | slot i =>
    have hv : c'.σ[i]? = some (some v) := rr
    dsimp only at q
    split at q
    next d hd =>
      obtain ⟨w', hw, rp, _⟩ := g.ok.val hd
      rw [hw] at hv; cases hv
      exact k _ c' d g e rp q
    next d hd =>
      obtain ⟨q', w', F', hw, rp, g'⟩ := freeze_slot g.ok hd q
      rw [hw] at hv; cases hv
      exact k _ { c' with F := F', ρ := c'.ρ.set i (some (.val d)), fp := fpSet c'.fp i [] } d (g.trans X.K X.mg g') e rp q'
    next => exact q.elim
end
end PL
/-! PL3: expressions over pure data. -/
namespace PL
open PySem PySem.Spec PyProof.Rows L2
variable [HasT]

section
variable {K : PySem.W.Frag} {mg : Str → Option Value}
/-- what a step makes -/
def NewR (K : PySem.W.Frag) (mg : Str → Option Value) (H F' H' : Hp) : R → V → Prop
  | .val d, v => Rep K mg F' d v
  | .tmp d, v => ∃ ft, Own K mg F' H' d v ft ∧ ∀ b ∈ ft, F' b = none ∧ H' b ≠ none ∧ H b = none
  | .slot _, _ => False
theorem newR_rr {c c1 : Cfg} (g : Go K mg c c1) {F' H' : Hp} {r : R} {v : V} (s : Step c1.F c1.H F' H') (n : NewR K mg c1.H F' H' r v) : RR K mg c { c1 with F := F', H := H' } r v := by
  cases r with
  | val d => exact n
  | tmp d =>
    obtain ⟨ft, o, h⟩ := n
    refine ⟨ft, o, fun b hb => ?_⟩
    obtain ⟨h1, h2, h3⟩ := h b hb
    refine ⟨h1, h2, ?_, fun i hi => (g.ok.out i b hi).2 h3⟩
    cases q : c.H b with
    | none => rfl
    | some o => exact absurd h3 (g.fr.grow b (by rw [q]; simp))
  | slot i => exact n.elim
theorem new_lst {F H : Hp} {p : Addr} {xs : List V} {ds : List D} (h : H p = none) (s : Mono F H) (r : RepL K mg F ds xs) : NewR K mg H F (upd H p (.lst xs)) (.tmp (.lst ds)) (.ref p) :=
  ⟨[p], ⟨p, xs, rfl, rfl, upd_same, r⟩, fun b hb => by
    have e : b = p := by simpa using hb
    subst e
    exact ⟨fresh_F s h, by rw [upd_same]; simp, h⟩⟩
theorem new_tup {F H : Hp} {p : Addr} {xs : List V} {ds : List D} (h : H p = none) (s : Mono F H) (r : RepL K mg F ds xs) : NewR K mg H (upd F p (.tup xs)) (upd H p (.tup xs)) (.val (.tup ds)) (.ref p) :=
  ⟨p, xs, rfl, SqT.of upd_same, r.mono K mg (mono_upd (fresh_F s h)) _ _⟩

theorem fin_val {F H : Hp} {Qg : R → Prop} {Q : VK} {d : D} {v : V} (s : Mono F H) (k : ∀ w F' H' res, Step F H F' H' → NewR K mg H F' H' res w → Qg res → Q w H') (r : Rep K mg F d v) (hg : Qg (.val d)) : Q v H :=
  k v F H (.val d) (Step.refl s) r hg
/-! ### what is seen -/
theorem See.lst {F H : Hp} {ds : List D} {v : V} (h : See K mg F H (.lst ds) v) (s : Mono F H) : ∃ a xs, v = .ref a ∧ H a = some (.lst xs) ∧ RepL K mg F ds xs := by
  rcases h with ⟨a, xs, e, h1, h2⟩ | ⟨ft, a, xs, e, _, h1, h2⟩
  · exact ⟨a, xs, e, s.lst h1, h2⟩
  · exact ⟨a, xs, e, h1, h2⟩
theorem See.tup {F H : Hp} {ds : List D} {v : V} (h : See K mg F H (.tup ds) v) : ∃ a xs, v = .ref a ∧ SqT K F a xs ∧ RepL K mg F ds xs := by
  rcases h with h | ⟨ft, h⟩
  · exact h
  · exact h.elim
theorem See.kst {F H : Hp} {ds : List D} {v : V} (h : See K mg F H (.kst ds) v) : ∃ a xs, v = .ref a ∧ SqL K F a xs ∧ RepL K mg F ds xs := by
  rcases h with h | ⟨ft, h⟩
  · exact h
  · exact h.elim
theorem See.int {F H : Hp} {i : Int} {v : V} (h : See K mg F H (.int i) v) : v = .int i := by
  rcases h with h | ⟨ft, h⟩
  · exact h
  · exact h.elim
theorem See.str {F H : Hp} {i : Str} {v : V} (h : See K mg F H (.str i) v) : v = .str i := by
  rcases h with h | ⟨ft, h⟩
  · exact h
  · exact h.elim
theorem See.bl {F H : Hp} {i : Bool} {v : V} (h : See K mg F H (.bl i) v) : v = .bl i := by
  rcases h with h | ⟨ft, h⟩
  · exact h
  · exact h.elim
theorem See.non {F H : Hp} {v : V} (h : See K mg F H .non v) : v = .non := by
  rcases h with h | ⟨ft, h⟩
  · exact h
  · exact h.elim
mutual
def toP : D → Option PyData
  | .non => some .none
  | .bl b => some (.bool b)
  | .int i => some (.int i)
  | .str x => some (.str x)
  | .tup ds => (toPs ds).map .tuple
  | .lst ds => (toPs ds).map .list
  | _ => none
def toPs : List D → Option (List PyData)
  | [] => some []
  | d :: ds => (toP d).bind fun p => (toPs ds).map fun r => p :: r
end
mutual
theorem dp_of {F H : Hp} (s : Mono F H) : ∀ (d : D) (v : V) (p : PyData), Rep K mg F d v → toP d = some p → Dp K H v p
  | .non, _, _, h, e => by cases e; rw [show _ = V.non from h]; exact .non
  | .bl b, _, _, h, e => by cases e; rw [show _ = V.bl b from h]; exact .bl _
  | .int i, _, _, h, e => by cases e; rw [show _ = V.int i from h]; exact .int _
  | .str x, _, _, h, e => by cases e; rw [show _ = V.str x from h]; exact .str _
  | .tup ds, _, p, h, e => by
    obtain ⟨a, xs, rfl, h1, h2⟩ := h
    cases q : toPs ds with
    | none => rw [toP, q] at e; cases e
    | some ps =>
      rw [toP, q] at e; cases e
      exact .tup (s.sqT K h1) (dps_of s ds xs ps h2 q)
  | .lst ds, _, p, h, e => by
    obtain ⟨a, xs, rfl, h1, h2⟩ := h
    cases q : toPs ds with
    | none => rw [toP, q] at e; cases e
    | some ps =>
      rw [toP, q] at e; cases e
      exact .lst (SqL.of (s.lst h1)) (dps_of s ds xs ps h2 q)
  | .dic _ _, _, _, _, e => by cases e
  | .dit _ _, _, _, _, e => by cases e
  | .obj _ _ _, _, _, _, e => by cases e
  | .exc _ _ _, _, _, _, e => by cases e
  | .kst _, _, _, _, e => by cases e
  | .draw, _, _, _, e => by cases e
  | .box _, _, _, _, e => by cases e
theorem dps_of {F H : Hp} (s : Mono F H) : ∀ (ds : List D) (xs : List V) (ps : List PyData), RepL K mg F ds xs → toPs ds = some ps → DpAll K H xs ps
  | [], _, _, h, e => by cases e; rw [show _ = [] from h]; exact .nil
  | d :: ds, _, ps, h, e => by
    obtain ⟨x, r, rfl, h1, h2⟩ := h
    cases q : toP d with
    | none => rw [toPs, q] at e; cases e
    | some p =>
      cases q2 : toPs ds with
      | none => rw [toPs, q, q2] at e; cases e
      | some qs =>
        rw [toPs, q, q2] at e; cases e
        exact .cons (dp_of s d x p h1 q) (dps_of s ds r qs h2 q2)
end
theorem See.dp {F H : Hp} {d : D} {v : V} {p : PyData} (h : See K mg F H d v) (s : Mono F H) (e : toP d = some p) : Dp K H v p := by
  rcases h with h | ⟨ft, h⟩
  · exact dp_of s d v p h e
  · cases d with
    | lst ds =>
      obtain ⟨a, xs, rfl, _, h1, h2⟩ := h
      cases q : toPs ds with
      | none => rw [toP, q] at e; cases e
      | some ps =>
        rw [toP, q] at e; cases e
        exact .lst (SqL.of h1) (dps_of s ds xs ps h2 q)
    | dic _ _ => cases e
    | dit _ _ => cases e
    | obj _ _ _ => cases e
    | draw => cases e
    | box _ => cases e
    | _ => exact h.elim
end

/-! ### rules -/
/-- data in, what came out -/
abbrev G1 := D → (R → Prop) → Prop
abbrev G2 := D → D → (R → Prop) → Prop
abbrev GN := List D → (R → Prop) → Prop
def Op1 (K : PySem.W.Frag) (mg : Str → Option Value) (r : V → Hp → VK → Prop) (g : G1) : Prop := ∀ (F H : Hp) d v Qg Q, Mono F H → See K mg F H d v → g d Qg →
  (∀ w F' H' res, Step F H F' H' → NewR K mg H F' H' res w → Qg res → Q w H') → r v H Q
def Op2 (K : PySem.W.Frag) (mg : Str → Option Value) (r : R2) (g : G2) : Prop := ∀ (F H : Hp) d e v u Qg Q, Mono F H → See K mg F H d v → See K mg F H e u → g d e Qg →
  (∀ w F' H' res, Step F H F' H' → NewR K mg H F' H' res w → Qg res → Q w H') → r v u H Q
def SeeL (K : PySem.W.Frag) (mg : Str → Option Value) (F H : Hp) : List D → List V → Prop
  | [], xs => xs = []
  | d :: ds, xs => ∃ x r, xs = x :: r ∧ See K mg F H d x ∧ SeeL K mg F H ds r
def OpN (K : PySem.W.Frag) (mg : Str → Option Value) (r : List V → Hp → VK → Prop) (g : GN) : Prop := ∀ (F H : Hp) ds vs Qg Q, Mono F H → SeeL K mg F H ds vs → g ds Qg →
  (∀ w F' H' res, Step F H F' H' → NewR K mg H F' H' res w → Qg res → Q w H') → r vs H Q
def wVar (i : Nat) : WE := fun ρ Q _ => match ρ[i]? with
  | some (some (.val d)) => Q (.val d) ρ
  | some (some (.own _ _)) => Q (.slot i) ρ
  | _ => False
def wC (d : D) : WE := fun ρ Q _ => Q (.val d) ρ
def pk1 (ρ : Env) (r : R) (k : D → Prop) : Prop := match peek ρ r with
  | some d => k d
  | none => False
def wOp1 (g : G1) (wa : WE) : WE := fun ρ Q Ep => wV wa ρ (fun r ρ1 => pk1 ρ1 r fun d => g d fun s => Q s ρ1) Ep
def wOp2 (g : G2) (wa wb : WE) : WE := fun ρ Q Ep => wV wa ρ (fun r ρ1 => wV wb ρ1 (fun s ρ2 => pk1 ρ2 r fun d => pk1 ρ2 s fun e => g d e fun z => Q z ρ2) Ep) Ep
theorem pk1_of {ρ : Env} {r : R} {k : D → Prop} (h : pk1 ρ r k) : ∃ d, peek ρ r = some d ∧ k d := by
  unfold pk1 at h
  split at h
  next d e => exact ⟨d, e, h⟩
  next => exact h.elim

section
variable {X : Cx} {XE : XK}
theorem pd_var {i : Nat} {x : Str} {pos : Pos} (h : PE X (.Name x pos) (tVar i)) : PdE X XE (.Name x pos) (wVar i) := by
  refine ⟨_, h, fun c Qp Ep Q ok hw x k => ?_⟩
  unfold wVar at hw
  split at hw
  next d hd =>
    obtain ⟨v, hv, r, _⟩ := ok.val hd
    exact ⟨v, hv, k v c (.val d) (Go.refl _ _ ok) rfl r hw⟩
  next b d hd =>
    obtain ⟨v, hv, o⟩ := ok.own hd
    exact ⟨v, hv, k v c (.slot i) (Go.refl _ _ ok) rfl hv hw⟩
  next => exact hw.elim
theorem pd_c {e : Expr} {d : D} {v : V} (h : PE X e (tC v)) (r : ∀ F, Rep X.K X.mg F d v) : PdE X XE e (wC d) :=
  ⟨_, h, fun c Qp Ep Q ok hw x k => k v c (.val d) (Go.refl _ _ ok) rfl (r _) hw⟩
theorem pd_int {i j pos} : PdE X XE (.Constant (.int i) j pos) (wC (.int i)) := pd_c pe_int fun _ => rfl
theorem pd_bl {b j pos} : PdE X XE (.Constant (.bool b) j pos) (wC (.bl b)) := pd_c pe_bl fun _ => rfl
theorem pd_non {j pos} : PdE X XE (.Constant .none j pos) (wC .non) := pd_c pe_non fun _ => rfl
theorem pd_str {x j pos} : PdE X XE (.Constant (.str x) j pos) (wC (.str x)) := pd_c pe_str fun _ => rfl
theorem op2_run {r : R2} {g : G2} {ta tb : TE} {wa wb : WE} {a b : Expr} (ho : Op2 X.K X.mg r g)
    (sa : ∀ (c : Cfg) (Qp : R → Env → Prop) (Ep : Ex → Env → Prop) (Q : VK), Ok X.K X.mg c → wa c.ρ Qp Ep → XOk X.K X.mg c Ep XE → (∀ v c' r, Go X.K X.mg c c' → c'.σ = c.σ → RR X.K X.mg c c' r v → Qp r c'.ρ → Q v c'.H) → ta c.σ c.H Q)
    (sb : ∀ (c : Cfg) (Qp : R → Env → Prop) (Ep : Ex → Env → Prop) (Q : VK), Ok X.K X.mg c → wb c.ρ Qp Ep → XOk X.K X.mg c Ep XE → (∀ v c' r, Go X.K X.mg c c' → c'.σ = c.σ → RR X.K X.mg c c' r v → Qp r c'.ρ → Q v c'.H) → tb c.σ c.H Q)
    (c : Cfg) (Qp : R → Env → Prop) (Ep : Ex → Env → Prop) (Q : VK) (ok : Ok X.K X.mg c) (hw : wOp2 g wa wb c.ρ Qp Ep) (x : XOk X.K X.mg c Ep XE) (k : ∀ v c' r, Go X.K X.mg c c' → c'.σ = c.σ → RR X.K X.mg c c' r v → Qp r c'.ρ → Q v c'.H) :
    tOp r ta tb c.σ c.H Q := by
  refine runV (e := a) sa ok hw x fun v c1 r1 g1 e1 rr1 h1 => ?_
  rw [← e1]
  refine runV (e := b) sb g1.ok h1 (x.go X.K X.mg g1 e1) fun u c2 r2 g2 e2 rr2 h2 => ?_
  obtain ⟨d, hd, h2⟩ := pk1_of h2
  obtain ⟨e, he, h2⟩ := pk1_of h2
  have rr1' := rr1.go g2 e2
  refine ho c2.F c2.H d e v u _ _ g2.ok.sub (rr1'.see g2.ok hd) (rr2.see g2.ok he) h2 fun w F' H' res st nw hq => ?_
  have g3 := st.go g2.ok
  have g12 := g1.trans X.K X.mg g2
  exact k w { c2 with F := F', H := H' } res (g12.trans X.K X.mg g3) (e2.trans e1) (newR_rr g12 st nw) hq
theorem pd_op {op : Operator} {r : R2} {g : G2} {a b : Expr} {wa wb : WE} {pos : Pos} (ho : OpR X (binaryOp op) r) (hg : Op2 X.K X.mg r g) (ha : PdE X XE a wa) (hb : PdE X XE b wb) : PdE X XE (.BinOp a op b pos) (wOp2 g wa wb) := by
  obtain ⟨ta, pa, sa⟩ := ha
  obtain ⟨tb, pb, sb⟩ := hb
  exact ⟨_, pe_op ho pa pb, op2_run (a := a) (b := b) hg sa sb⟩
theorem pd_cmp {op : CmpOp} {r : R2} {g : G2} {a b : Expr} {wa wb : WE} {pos : Pos} (ho : OpR X (compareOp op) r) (hg : Op2 X.K X.mg r g) (ha : PdE X XE a wa) (hb : PdE X XE b wb) (hm : behindInMarks op b = false) : PdE X XE (.Compare a [op] [b] pos) (wOp2 g wa wb) := by
  obtain ⟨ta, pa, sa⟩ := ha
  obtain ⟨tb, pb, sb⟩ := hb
  exact ⟨_, pe_cmpR ho pa pb hm, op2_run (a := a) (b := b) hg sa sb⟩
theorem pd_ix {r : R2} {g : G2} {a b : Expr} {wa wb : WE} {pos : Pos} (hr : IxR X r) (hg : Op2 X.K X.mg r g) (ha : PdE X XE a wa) (hb : PdE X XE b wb) (hs : PlainIx b := by exact fun _ _ => rfl) : PdE X XE (.Subscript a b pos) (wOp2 g wa wb) := by
  obtain ⟨ta, pa, sa⟩ := ha
  obtain ⟨tb, pb, sb⟩ := hb
  exact ⟨_, pe_ix hr pa pb hs, op2_run (a := a) (b := b) hg sa sb⟩
theorem pd_un {op : UnaryOp} {r : V → Hp → VK → Prop} {g : G1} {a : Expr} {wa : WE} {pos : Pos} (ho : UnR X (unaryOp op) r) (hg : Op1 X.K X.mg r g) (ha : PdE X XE a wa) : PdE X XE (.UnaryOp op a pos) (wOp1 g wa) := by
  obtain ⟨ta, pa, sa⟩ := ha
  refine ⟨_, pe_un ho pa, fun c Qp Ep Q ok hw x k => ?_⟩
  refine runV (e := a) sa ok hw x fun v c1 r1 g1 e1 rr1 h1 => ?_
  obtain ⟨d, hd, h1⟩ := pk1_of h1
  refine hg c1.F c1.H d v _ _ g1.ok.sub (rr1.see g1.ok hd) h1 fun w F' H' res st nw hq => ?_
  exact k w { c1 with F := F', H := H' } res (g1.trans X.K X.mg (st.go g1.ok)) e1 (newR_rr g1 st nw) hq

/-! ### operators by data -/
theorem op2_or {r s : R2} {f : Value → Value → Sem Value} (h1 : OpR X f r) (h2 : OpR X f s) : OpR X f (fun x y H Q => r x y H Q ∨ s x y H Q) := by
  intro pins st σ H x y v u Q I rx ry h
  rcases h with h | h
  · exact h1 pins st σ H x y v u Q I rx ry h
  · exact h2 pins st σ H x y v u Q I rx ry h
end
section
variable {K : PySem.W.Frag} {mg : Str → Option Value}
def gI (f : Int → Int → D) : G2 := fun d e Q => match d, e with
  | .int i, .int j => Q (.val (f i j))
  | _, _ => False
theorem op2_int {f : Int → Int → D} {f' : Int → Int → V} (h : ∀ i j F, Rep K mg F (f i j) (f' i j)) : Op2 K mg (rI0 f') (gI f) := by
  intro F H d e v u Qg Q s h1 h2 hg k
  cases d <;> cases e <;> try exact hg.elim
  rename_i i j
  rw [h1.int, h2.int]
  exact ⟨i, j, rfl, rfl, fin_val s k (h i j F) hg⟩
/-- + -/
def gAdd : G2 := fun d e Q => match d, e with
  | .int i, .int j => Q (.val (.int (i + j)))
  | .lst xs, .lst ys => xs.length + ys.length ≤ sizeLine ∧ Q (.tmp (.lst (xs ++ ys)))
  | .tup xs, .tup ys => xs.length + ys.length ≤ sizeLine ∧ Q (.val (.tup (xs ++ ys)))
  | _, _ => False
def rAdd3 (K : PySem.W.Frag) : R2 := fun x y H Q => rI0 (fun i j => .int (i + j)) x y H Q ∨ (rCat x y H Q ∨ rCatA K x y H Q)
theorem op2_add : Op2 K mg (rAdd3 K) gAdd := by
  intro F H d e v u Qg Q s h1 h2 hg k
  cases d <;> cases e <;> try exact hg.elim
  · rename_i i j
    rw [h1.int, h2.int]
    exact .inl ⟨i, j, rfl, rfl, fin_val s k (d := .int (i + j)) rfl hg⟩
  · rename_i ds es
    obtain ⟨a, xs, rfl, ha, ra⟩ := h1.tup
    obtain ⟨b, ys, rfl, hb, rb⟩ := h2.tup
    have l1 := ra.len K mg
    have l2 := rb.len K mg
    have app := ra.app K mg rb
    have hz : ds.length + es.length ≤ sizeLine := hg.1
    refine .inr (.inr ⟨a, b, xs, ys, rfl, rfl, s.sqT K ha, s.sqT K hb, by omega, fun e => ?_, fun _ e => ?_, fun _ _ p hp => ?_⟩)
    · subst e
      have : ds = [] := List.length_eq_zero_iff.mp (by simpa using l1)
      subst this
      exact fin_val s k (d := .tup es) ⟨b, ys, rfl, hb, rb⟩ hg.2
    · subst e
      have : es = [] := List.length_eq_zero_iff.mp (by simpa using l2)
      subst this
      refine fin_val s k (d := .tup (ds ++ [])) ⟨a, xs, rfl, ha, ?_⟩ hg.2
      rw [List.append_nil]; exact ra
    · exact k _ _ _ _ (Step.tup' s hp) (new_tup hp s app) hg.2
  · rename_i ds es
    obtain ⟨a, xs, rfl, ha, ra⟩ := h1.lst s
    obtain ⟨b, ys, rfl, hb, rb⟩ := h2.lst s
    have l1 := ra.len K mg
    have l2 := rb.len K mg
    have hz : ds.length + es.length ≤ sizeLine := hg.1
    exact .inr (.inl ⟨a, b, xs, ys, rfl, rfl, ha, hb, by omega, fun p hp => k _ _ _ _ (Step.new s hp) (new_lst hp s (ra.app K mg rb)) hg.2⟩)
/-- * -/
def gMul : G2 := fun d e Q => match d, e with
  | .int i, .int j => CMul i j ∧ Q (.val (.int (i * j)))
  | _, _ => False
theorem op2_mul : Op2 K mg (rI CMul fun i j => .int (i * j)) gMul := by
  intro F H d e v u Qg Q s h1 h2 hg k
  cases d <;> cases e <;> try exact hg.elim
  rename_i i j
  rw [h1.int, h2.int]
  exact ⟨i, j, rfl, rfl, hg.1, fin_val s k (d := .int (i * j)) rfl hg.2⟩
def gMod : G2 := fun d e Q => match d, e with
  | .int i, .int j => 0 < j ∧ Q (.val (.int (i % j)))
  | _, _ => False
theorem op2_mod : Op2 K mg (rI (fun _ j => 0 < j) fun i j => .int (i % j)) gMod := by
  intro F H d e v u Qg Q s h1 h2 hg k
  cases d <;> cases e <;> try exact hg.elim
  rename_i i j
  rw [h1.int, h2.int]
  exact ⟨i, j, rfl, rfl, hg.1, fin_val s k (d := .int (i % j)) rfl hg.2⟩
/-- ==, != of data -/
def dEq (d e : D) : Option Bool := match toP d, toP e with
  | some p, some q => if SeqAt.shaped p && SeqAt.shaped q then some (PyData.eqv p q) else none
  | _, _ => none
def gEq (f : Bool → Bool) : G2 := fun d e Q => match dEq d e with
  | some b => Q (.val (.bl (f b)))
  | none => False
theorem op2_eq : Op2 K mg (rEqD K) (gEq id) := by
  intro F H d e v u Qg Q s h1 h2 hg k
  unfold gEq dEq at hg
  cases hp : toP d with
  | none => simp [hp] at hg
  | some p =>
    cases hq : toP e with
    | none => simp [hp, hq] at hg
    | some q =>
      simp only [hp, hq] at hg
      by_cases hs : (SeqAt.shaped p && SeqAt.shaped q) = true
      · rw [if_pos hs] at hg
        rw [Bool.and_eq_true] at hs
        exact ⟨p, q, h1.dp s hp, h2.dp s hq, hs.1, hs.2, fin_val s k (d := .bl _) rfl hg⟩
      · rw [if_neg hs] at hg; exact hg.elim
theorem op2_ne : Op2 K mg (rNeD K) (gEq not) := by
  intro F H d e v u Qg Q s h1 h2 hg k
  unfold gEq dEq at hg
  cases hp : toP d with
  | none => simp [hp] at hg
  | some p =>
    cases hq : toP e with
    | none => simp [hp, hq] at hg
    | some q =>
      simp only [hp, hq] at hg
      by_cases hs : (SeqAt.shaped p && SeqAt.shaped q) = true
      · rw [if_pos hs] at hg
        rw [Bool.and_eq_true] at hs
        exact ⟨p, q, h1.dp s hp, h2.dp s hq, hs.1, hs.2, fin_val s k (d := .bl _) rfl hg⟩
      · rw [if_neg hs] at hg; exact hg.elim
/-- x is None -/
def isNon : D → Bool
  | .non => true
  | .box d => isNon d
  | _ => false
def gIs (f : Bool → Bool) : G2 := fun d e Q => match e with
  | .non => Q (.val (.bl (f (isNon d))))
  | _ => False
theorem rep_non {F : Hp} : ∀ (d : D) (v : V), Rep K mg F d v → decide (v = .non) = isNon d
  | .non, _, h => by rw [show _ = V.non from h]; rfl
  | .bl b, _, h => by rw [show _ = V.bl b from h]; rfl
  | .int b, _, h => by rw [show _ = V.int b from h]; rfl
  | .str b, _, h => by rw [show _ = V.str b from h]; rfl
  | .tup ds, _, h => by obtain ⟨a, xs, rfl, _⟩ := h; rfl
  | .lst ds, _, h => by obtain ⟨a, xs, rfl, _⟩ := h; rfl
  | .dic ks ds, _, h => by obtain ⟨a, xs, rfl, _⟩ := h; rfl
  | .dit ks ds, _, h => by obtain ⟨a, xs, rfl, _⟩ := h; rfl
  | .obj c ks ds, _, h => by obtain ⟨a, C, dx, gs, rfl, _⟩ := h; rfl
  | .exc c ks ds, _, h => by obtain ⟨a, C, dd, gs, rfl, _⟩ := h; rfl
  | .kst ds, _, h => by obtain ⟨a, xs, rfl, _⟩ := h; rfl
  | .draw, _, h => h.elim
  | .box d, v, h => rep_non d v h
theorem see_non {F H : Hp} {d : D} {v : V} (h : See K mg F H d v) : decide (v = .non) = isNon d := by
  rcases h with h | ⟨ft, h⟩
  · exact rep_non d v h
  · cases d with
    | lst ds => obtain ⟨a, xs, rfl, _⟩ := h; rfl
    | dic ks ds => obtain ⟨a, xs, rfl, _⟩ := h; rfl
    | dit ks ds => obtain ⟨a, xs, rfl, _⟩ := h; rfl
    | obj c ks ds => obtain ⟨a, C, dx, gs, f2, g, rfl, _⟩ := h; rfl
    | draw => obtain ⟨a, l, rfl, _⟩ := h; rfl
    | _ => exact h.elim
theorem op2_is : Op2 K mg (fun x y H Q => y = .non ∧ Q (.bl (decide (x = .non))) H) (gIs id) := by
  intro F H d e v u Qg Q s h1 h2 hg k
  cases e <;> try exact hg.elim
  exact ⟨h2.non, by rw [see_non h1]; exact fin_val s k (d := .bl _) rfl hg⟩
theorem op2_isnot : Op2 K mg (fun x y H Q => y = .non ∧ Q (.bl (!decide (x = .non))) H) (gIs not) := by
  intro F H d e v u Qg Q s h1 h2 hg k
  cases e <;> try exact hg.elim
  exact ⟨h2.non, by rw [see_non h1]; exact fin_val s k (d := .bl _) rfl hg⟩
/-- c in s, one sign of a text -/
def gInS (f : Bool → Bool) : G2 := fun d e Q => match d, e with
  | .str x, .str z => match x.cps.toList with
    | [c] => Q (.val (.bl (f (decide (c ∈ z.cps.toList)))))
    | _ => False
  | _, _ => False
theorem op2_inS : Op2 K mg (fun x y H Q => ∃ (c : Nat) (z : Str), x = .str ⟨#[c]⟩ ∧ y = .str z ∧ Q (.bl (decide (c ∈ z.cps.toList))) H) (gInS id) := by
  intro F H d e v u Qg Q s h1 h2 hg k
  cases d <;> cases e <;> try exact hg.elim
  rename_i x z
  rw [h1.str, h2.str]
  unfold gInS at hg
  simp only at hg
  split at hg
  next c hc =>
    have ex : x = ⟨#[c]⟩ := by
      obtain ⟨⟨l⟩⟩ := x
      simp only at hc
      rw [hc]
    exact ⟨c, z, by rw [ex], rfl, fin_val s k (d := .bl _) rfl hg⟩
  next => exact hg.elim
/-- xs[i], t[i], s[i] -/
def gIx : G2 := fun d e Q => match d, e with
  | .lst xs, .int i => match atI xs i with
    | some x => Q (.val x)
    | none => False
  | .tup xs, .int i => match atI xs i with
    | some x => Q (.val x)
    | none => False
  | .str z, .int i => z.length ≤ sizeLine ∧ match atI z.cps.toList i with
    | some c => Q (.val (.str ⟨#[c]⟩))
    | none => False
  | _, _ => False
theorem atI_rep {F : Hp} {ds : List D} {xs : List V} {i : Int} {d : D} (r : RepL K mg F ds xs) (h : atI ds i = some d) : ∃ x, atI xs i = some x ∧ Rep K mg F d x := by
  unfold atI at h ⊢
  rw [← r.len K mg]
  cases q : ixN ds.length i with
  | none => rw [q] at h; cases h
  | some j =>
    rw [q] at h
    obtain ⟨x, hx, rx⟩ := r.get K mg (i := j) (d := d) h
    exact ⟨x, hx, rx⟩
theorem op2_ix : Op2 K mg (rIx K) gIx := by
  intro F H d e v u Qg Q s h1 h2 hg k
  cases d <;> cases e <;> try exact hg.elim
  · rename_i z i
    rw [h1.str, h2.int]
    obtain ⟨hz, hg⟩ := hg
    cases q : atI z.cps.toList i with
    | none => simp only [q] at hg
    | some c =>
      simp only [q] at hg
      exact .inr (.inr ⟨z, i, c, rfl, rfl, hz, q, fin_val s k (d := .str _) rfl hg⟩)
  · rename_i ds i
    obtain ⟨a, xs, rfl, ha, ra⟩ := h1.tup
    rw [h2.int]
    unfold gIx at hg
    cases q : atI ds i with
    | none => simp only [q] at hg
    | some d =>
      simp only [q] at hg
      obtain ⟨x, hx, rx⟩ := atI_rep ra q
      exact .inr (.inl ⟨a, xs, i, x, rfl, rfl, s.sqT K ha, hx, fin_val s k rx hg⟩)
  · rename_i ds i
    obtain ⟨a, xs, rfl, ha, ra⟩ := h1.lst s
    rw [h2.int]
    unfold gIx at hg
    cases q : atI ds i with
    | none => simp only [q] at hg
    | some d =>
      simp only [q] at hg
      obtain ⟨x, hx, rx⟩ := atI_rep ra q
      exact .inl ⟨a, xs, i, x, rfl, rfl, SqL.of ha, hx, fin_val s k rx hg⟩
end
end PL
/-! PL4: tests, displays, slices, built-in calls. -/
namespace PL
open PySem PySem.Spec PyProof.Rows L2
variable [HasT]

/-- what an expression's soundness says -/
abbrev SoE (X : Cx) (XE : XK) (t : TE) (w : WE) : Prop := ∀ (c : Cfg) (Qp : R → Env → Prop) (Ep : Ex → Env → Prop) (Q : VK), Ok X.K X.mg c → w c.ρ Qp Ep → XOk X.K X.mg c Ep XE → (∀ v c' r, Go X.K X.mg c c' → c'.σ = c.σ → RR X.K X.mg c c' r v → Qp r c'.ρ → Q v c'.H) → t c.σ c.H Q
abbrev SoT (X : Cx) (XE : XK) (t : TT) (w : WT) : Prop := ∀ (c : Cfg) (Qp : Bool → Env → Prop) (Ep : Ex → Env → Prop) (Q : Bool → Hp → Prop), Ok X.K X.mg c → w c.ρ Qp Ep → XOk X.K X.mg c Ep XE → (∀ b c', Go X.K X.mg c c' → c'.σ = c.σ → Qp b c'.ρ → Q b c'.H) → t c.σ c.H Q
def noE : Expr := .Constant .none 0 ⟨0, 0, 0, 0⟩

section
variable {X : Cx} {XE : XK}
theorem bl_of {c c' : Cfg} {b : Bool} {v : V} (h : RR X.K X.mg c c' (.val (.bl b)) v) : v = .bl b := h
theorem rr_bl {c c' : Cfg} {b : Bool} : RR X.K X.mg c c' (.val (.bl b)) (.bl b) := rfl

/-! ### tests -/
/-- a value that is a bool, as a test -/
def wB (w : WE) : WT := fun ρ Q Ep => w ρ (fun r ρ' => match r with
  | .val (.bl b) => Q b ρ'
  | _ => False) Ep
theorem bl_run {t : TE} {w : WE} (s : SoE X XE t w) {c : Cfg} {Qp : Bool → Env → Prop} {Ep : Ex → Env → Prop} {Q : VK} (ok : Ok X.K X.mg c) (h : wB w c.ρ Qp Ep) (x : XOk X.K X.mg c Ep XE)
    (k : ∀ b c', Go X.K X.mg c c' → c'.σ = c.σ → Qp b c'.ρ → Q (.bl b) c'.H) : t c.σ c.H Q := by
  refine s c _ Ep Q ok h x fun v c' r g e rr q => ?_
  cases r with
  | val d =>
    cases d with
    | bl b => cases bl_of rr; exact k b c' g e q
    | _ => exact q.elim
  | _ => exact q.elim
theorem pt_b {e : Expr} {w : WE} (h : PdE X XE e w) (he : ∀ whole, isTrue e X.env whole = (do let v ← whole; standAt e.pos; holding [v] (truthy v)) := by intro _; rfl) : PdT X XE e (wB w) := by
  obtain ⟨t, p, s⟩ := h
  refine ⟨_, pt_val p he, fun c Qp Ep Q ok hw x k => ?_⟩
  exact bl_run s ok hw x fun b c' g e q => ⟨b, rfl, k b c' g e q⟩
def wNotT (w : WT) : WT := fun ρ Q Ep => w ρ (fun b ρ' => Q (!b) ρ') Ep
theorem pt_n {a : Expr} {w : WT} {pos : Pos} (h : PdT X XE a w) : PdT X XE (.UnaryOp .Not a pos) (wNotT w) := by
  obtain ⟨t, p, s⟩ := h
  exact ⟨_, pt_not p, fun c Qp Ep Q ok hw x k => s c _ Ep _ ok hw x fun b c' g e q => k (!b) c' g e q⟩
def wAndT (wa wb : WT) : WT := fun ρ Q Ep => wa ρ (fun b ρ' => if b = true then wb ρ' Q Ep else Q false ρ') Ep
def wOrT (wa wb : WT) : WT := fun ρ Q Ep => wa ρ (fun b ρ' => if b = true then Q true ρ' else wb ρ' Q Ep) Ep
theorem pw_a {a b : Expr} {rest : List Expr} {pos : Pos} {wa wb : WT} (ha : PdT X XE a wa) (hb : PdW X XE (.BoolOp .And (b :: rest) pos) wb) : PdW X XE (.BoolOp .And (a :: b :: rest) pos) (wAndT wa wb) := by
  obtain ⟨ta, pa, sa⟩ := ha
  obtain ⟨tb, pb, sb⟩ := hb
  refine ⟨_, pw_and pa pb, fun c Qp Ep Q ok hw x k => ?_⟩
  refine sa c _ Ep _ ok hw x fun b c1 g1 e1 q => ?_
  cases b with
  | true =>
    rw [if_pos rfl] at q ⊢
    rw [← e1]
    exact sb c1 _ Ep _ g1.ok q (x.go X.K X.mg g1 e1) fun b c2 g2 e2 q2 => k b c2 (g1.trans X.K X.mg g2) (e2.trans e1) q2
  | false =>
    rw [if_neg Bool.false_ne_true] at q ⊢
    exact k false c1 g1 e1 q
theorem pw_a1 {a : Expr} {pos : Pos} {wa : WT} (ha : PdT X XE a wa) : PdW X XE (.BoolOp .And [a] pos) wa := by
  obtain ⟨ta, pa, sa⟩ := ha
  exact ⟨_, pw_and1 pa, sa⟩
theorem pw_o {a b : Expr} {rest : List Expr} {pos : Pos} {wa wb : WT} (ha : PdT X XE a wa) (hb : PdW X XE (.BoolOp .Or (b :: rest) pos) wb) : PdW X XE (.BoolOp .Or (a :: b :: rest) pos) (wOrT wa wb) := by
  obtain ⟨ta, pa, sa⟩ := ha
  obtain ⟨tb, pb, sb⟩ := hb
  refine ⟨_, pw_or pa pb, fun c Qp Ep Q ok hw x k => ?_⟩
  refine sa c _ Ep _ ok hw x fun b c1 g1 e1 q => ?_
  cases b with
  | true =>
    rw [if_pos rfl] at q ⊢
    exact k true c1 g1 e1 q
  | false =>
    rw [if_neg Bool.false_ne_true] at q ⊢
    rw [← e1]
    exact sb c1 _ Ep _ g1.ok q (x.go X.K X.mg g1 e1) fun b c2 g2 e2 q2 => k b c2 (g1.trans X.K X.mg g2) (e2.trans e1) q2
theorem pw_o1 {a : Expr} {pos : Pos} {wa : WT} (ha : PdT X XE a wa) : PdW X XE (.BoolOp .Or [a] pos) wa := by
  obtain ⟨ta, pa, sa⟩ := ha
  exact ⟨_, pw_or1 pa, sa⟩
theorem pt_w {e : Expr} {w : WT} (h : PdW X XE e w) : PdT X XE e w := by
  obtain ⟨t, p, s⟩ := h
  exact ⟨_, p.pt, s⟩

/-! ### and, or, not as values -/
def wVB (w : WT) : WE := fun ρ Q Ep => w ρ (fun b ρ' => Q (.val (.bl b)) ρ') Ep
def wAnd (wa wb : WE) : WE := fun ρ Q Ep => wB wa ρ (fun b ρ' => if b = true then wb ρ' Q Ep else Q (.val (.bl false)) ρ') Ep
def wOr (wa wb : WE) : WE := fun ρ Q Ep => wB wa ρ (fun b ρ' => if b = true then Q (.val (.bl true)) ρ' else wb ρ' Q Ep) Ep
def wNot (wa : WE) : WE := fun ρ Q Ep => wB wa ρ (fun b ρ' => Q (.val (.bl (!b))) ρ') Ep
theorem rr_go {c c1 c2 : Cfg} {r : R} {v : V} (g : Go X.K X.mg c c1) (h : RR X.K X.mg c1 c2 r v) : RR X.K X.mg c c2 r v := by
  cases r with
  | val d => exact h
  | slot i => exact h
  | tmp d =>
    obtain ⟨ft, o, hf⟩ := h
    refine ⟨ft, o, fun b hb => ?_⟩
    obtain ⟨h1, h2, h3, h4⟩ := hf b hb
    refine ⟨h1, h2, ?_, h4⟩
    cases q : c.H b with
    | none => rfl
    | some o => exact absurd h3 (g.fr.grow b (by rw [q]; simp))
theorem pd_and {a b : Expr} {rest : List Expr} {pos : Pos} {wa wb : WE} (ha : PdE X XE a wa) (hb : PdE X XE (.BoolOp .And (b :: rest) pos) wb) : PdE X XE (.BoolOp .And (a :: b :: rest) pos) (wAnd wa wb) := by
  obtain ⟨ta, pa, sa⟩ := ha
  obtain ⟨tb, pb, sb⟩ := hb
  refine ⟨_, pe_and pa pb, fun c Qp Ep Q ok hw x k => ?_⟩
  refine bl_run sa ok hw x fun b c1 g1 e1 q => ⟨b, rfl, ?_⟩
  cases b with
  | true =>
    rw [if_pos rfl] at q ⊢
    rw [← e1]
    exact sb c1 _ Ep _ g1.ok q (x.go X.K X.mg g1 e1) fun v c2 r g2 e2 rr q2 => k v c2 r (g1.trans X.K X.mg g2) (e2.trans e1) (rr_go g1 rr) q2
  | false =>
    rw [if_neg Bool.false_ne_true] at q ⊢
    exact k _ c1 _ g1 e1 rr_bl q
theorem pd_or {a b : Expr} {rest : List Expr} {pos : Pos} {wa wb : WE} (ha : PdE X XE a wa) (hb : PdE X XE (.BoolOp .Or (b :: rest) pos) wb) : PdE X XE (.BoolOp .Or (a :: b :: rest) pos) (wOr wa wb) := by
  obtain ⟨ta, pa, sa⟩ := ha
  obtain ⟨tb, pb, sb⟩ := hb
  refine ⟨_, pe_or pa pb, fun c Qp Ep Q ok hw x k => ?_⟩
  refine bl_run sa ok hw x fun b c1 g1 e1 q => ⟨b, rfl, ?_⟩
  cases b with
  | true =>
    rw [if_pos rfl] at q ⊢
    exact k _ c1 _ g1 e1 rr_bl q
  | false =>
    rw [if_neg Bool.false_ne_true] at q ⊢
    rw [← e1]
    exact sb c1 _ Ep _ g1.ok q (x.go X.K X.mg g1 e1) fun v c2 r g2 e2 rr q2 => k v c2 r (g1.trans X.K X.mg g2) (e2.trans e1) (rr_go g1 rr) q2
theorem pd_one {op : BoolOp} {a : Expr} {pos : Pos} {wa : WE} (ha : PdE X XE a wa) : PdE X XE (.BoolOp op [a] pos) wa := by
  obtain ⟨ta, pa, sa⟩ := ha
  exact ⟨_, pe_one pa, sa⟩
theorem pd_not {a : Expr} {pos : Pos} {wa : WE} (ha : PdE X XE a wa) : PdE X XE (.UnaryOp .Not a pos) (wNot wa) := by
  obtain ⟨ta, pa, sa⟩ := ha
  refine ⟨_, pe_not pa, fun c Qp Ep Q ok hw x k => ?_⟩
  exact bl_run sa ok hw x fun b c1 g1 e1 q => ⟨b, rfl, k _ c1 _ g1 e1 rr_bl q⟩
def wIfE (wt : WT) (wa wb : WE) : WE := fun ρ Q Ep => wt ρ (fun b ρ' => if b = true then wa ρ' Q Ep else wb ρ' Q Ep) Ep
theorem pd_ife {t a b : Expr} {pos : Pos} {wt : WT} {wa wb : WE} (ht : PdT X XE t wt) (ha : PdE X XE a wa) (hb : PdE X XE b wb) : PdE X XE (.IfExp t a b pos) (wIfE wt wa wb) := by
  obtain ⟨tt, pt, s⟩ := ht
  obtain ⟨ta, pa, sa⟩ := ha
  obtain ⟨tb, pb, sb⟩ := hb
  refine ⟨_, pe_ifExp pt pa pb, fun c Qp Ep Q ok hw x k => ?_⟩
  refine s c _ Ep _ ok hw x fun b c1 g1 e1 q => ?_
  cases b with
  | true =>
    rw [if_pos rfl] at q ⊢
    rw [← e1]
    exact sa c1 _ Ep _ g1.ok q (x.go X.K X.mg g1 e1) fun v c2 r g2 e2 rr q2 => k v c2 r (g1.trans X.K X.mg g2) (e2.trans e1) (rr_go g1 rr) q2
  | false =>
    rw [if_neg Bool.false_ne_true] at q ⊢
    rw [← e1]
    exact sb c1 _ Ep _ g1.ok q (x.go X.K X.mg g1 e1) fun v c2 r g2 e2 rr q2 => k v c2 r (g1.trans X.K X.mg g2) (e2.trans e1) (rr_go g1 rr) q2

/-! ### a < b < c -/
def wChain (g h : G2) (wa wb wc : WE) : WE := fun ρ Q Ep => wV wa ρ (fun r ρ1 => wV wb ρ1 (fun s ρ2 => pk1 ρ2 r fun d => pk1 ρ2 s fun e => g d e fun z => match z with
  | .val (.bl true) => wV wc ρ2 (fun u ρ3 => pk1 ρ3 s fun e => pk1 ρ3 u fun f => h e f fun z => Q z ρ3) Ep
  | .val (.bl false) => Q (.val (.bl false)) ρ2
  | _ => False) Ep) Ep
theorem chain_so {r r' : R2} {g h : G2} {a b d : Expr} {wa wb wc : WE} {ta tb tc : TE} (hg : Op2 X.K X.mg r g) (hh : Op2 X.K X.mg r' h) (sa : SoE X XE ta wa) (sb : SoE X XE tb wb) (sc : SoE X XE tc wc) : SoE X XE (tChain r r' ta tb tc) (wChain g h wa wb wc) := by
  intro c Qp Ep Q ok hw x k
  refine runV (e := a) sa ok hw x fun v c1 r1 g1 e1 rr1 h1 => ?_
  rw [← e1]
  refine runV (e := b) sb g1.ok h1 (x.go X.K X.mg g1 e1) fun u c2 r2 g2 e2 rr2 h2 => ?_
  obtain ⟨dd, hd, h2⟩ := pk1_of h2
  obtain ⟨ee, he, h2⟩ := pk1_of h2
  have g12 := g1.trans X.K X.mg g2
  refine hg c2.F c2.H dd ee v u _ _ g2.ok.sub ((rr1.go g2 e2).see g2.ok hd) (rr2.see g2.ok he) h2 fun w F' H' res st nw hq => ?_
  have g3 := st.go g2.ok
  have g123 := g12.trans X.K X.mg g3
  cases res with
  | val dz =>
    cases dz with
    | bl bb =>
      cases (show w = V.bl bb from nw)
      refine ⟨bb, rfl, ?_⟩
      cases bb with
      | true =>
        rw [if_pos rfl]
        have hq' : wV wc c2.ρ (fun u ρ3 => pk1 ρ3 r2 fun e => pk1 ρ3 u fun f => h e f fun z => Qp z ρ3) Ep := hq
        rw [← e2]
        refine runV (c := { c2 with F := F', H := H' }) (e := d) sc g3.ok hq' (x.go X.K X.mg g123 (e2.trans e1)) fun y c4 r4 g4 e4 rr4 h4 => ?_
        obtain ⟨e4', he4, h4⟩ := pk1_of h4
        obtain ⟨f4, hf4, h4⟩ := pk1_of h4
        have rr2' : RRV X.K X.mg { c2 with F := F', H := H' } r2 u := rr2.go g3 rfl
        refine hh c4.F c4.H e4' f4 u y _ _ g4.ok.sub ((rr2'.go g4 e4).see g4.ok he4) (rr4.see g4.ok hf4) h4 fun w' F2 H2 res' st' nw' hq2 => ?_
        have g5 := st'.go g4.ok
        have gg := g123.trans X.K X.mg g4
        exact k w' { c4 with F := F2, H := H2 } res' (gg.trans X.K X.mg g5) (show c4.σ = c.σ from e4.trans (e2.trans e1)) (newR_rr gg st' nw') hq2
      | false =>
        rw [if_neg Bool.false_ne_true]
        exact k _ { c2 with F := F', H := H' } _ g123 (e2.trans e1) rr_bl hq
    | _ => exact hq.elim
  | _ => exact hq.elim
theorem pd_chain {op op' : CmpOp} {r r' : R2} {g h : G2} {a b d : Expr} {wa wb wc : WE} {pos : Pos} (ho : OpR X (compareOp op) r) (ho' : OpR X (compareOp op') r') (hg : Op2 X.K X.mg r g) (hh : Op2 X.K X.mg r' h)
    (ha : PdE X XE a wa) (hb : PdE X XE b wb) (hc : PdE X XE d wc) (hm : lastMarks [op, op'] [b, d] = false := by with_unfolding_all rfl) : PdE X XE (.Compare a [op, op'] [b, d] pos) (wChain g h wa wb wc) := by
  obtain ⟨ta, pa, sa⟩ := ha
  obtain ⟨tb, pb, sb⟩ := hb
  obtain ⟨tc, pc, sc⟩ := hc
  exact ⟨_, pe_chain ho ho' pa pb pc hm, chain_so (a := a) (b := b) (d := d) hg hh sa sb sc⟩

/-! ### lists of values -/
/-- every one frozen -/
abbrev WL := Env → (List D → Env → Prop) → (Ex → Env → Prop) → Prop
def wKn : WL := fun ρ Q _ => Q [] ρ
def wKc (w : WE) (wr : WL) : WL := fun ρ Q Ep => wK w ρ (fun d ρ1 => wr ρ1 (fun ds ρ2 => Q (d :: ds) ρ2) Ep) Ep
def PdK (X : Cx) (XE : XK) (es : List Expr) (w : WL) : Prop := ∃ t, PA X es t ∧ ∀ (c : Cfg) (Qp : List D → Env → Prop) (Ep : Ex → Env → Prop) (Q : List V → Hp → Prop), Ok X.K X.mg c → w c.ρ Qp Ep → XOk X.K X.mg c Ep XE →
  (∀ vs c' ds, Go X.K X.mg c c' → c'.σ = c.σ → RepL X.K X.mg c'.F ds vs → ds.length = es.length → Qp ds c'.ρ → Q vs c'.H) → t c.σ c.H Q
theorem pk_nil : PdK X XE [] wKn := ⟨_, pa_nil, fun c Qp Ep Q ok hw x k => k [] c [] (Go.refl _ _ ok) rfl rfl rfl hw⟩
theorem pk_cons {e : Expr} {es : List Expr} {w : WE} {wr : WL} (h : PdE X XE e w) (hr : PdK X XE es wr) (hs : starEach (e :: es) X.env = (false, eval e X.env) :: starEach es X.env := by rfl) : PdK X XE (e :: es) (wKc w wr) := by
  obtain ⟨t, p, s⟩ := h
  obtain ⟨tr, pr, sr⟩ := hr
  refine ⟨_, pa_cons p pr hs, fun c Qp Ep Q ok hw x k => ?_⟩
  refine runK (e := e) s ok hw x fun v c1 d g1 e1 r1 h1 => ?_
  rw [← e1]
  refine sr c1 _ Ep _ g1.ok h1 (x.go X.K X.mg g1 e1) fun vs c2 ds g2 e2 r2 l2 h2 => ?_
  exact k (v :: vs) c2 (d :: ds) (g1.trans X.K X.mg g2) (e2.trans e1) (RepL.cons X.K X.mg (r1.mono X.K X.mg g2.fr.mono _ _) r2) (by simp [l2]) h2
/-- every one as it lies -/
abbrev WR := Env → (List R → Env → Prop) → (Ex → Env → Prop) → Prop
def wVn : WR := fun ρ Q _ => Q [] ρ
def wVc (w : WE) (wr : WR) : WR := fun ρ Q Ep => wV w ρ (fun d ρ1 => wr ρ1 (fun ds ρ2 => Q (d :: ds) ρ2) Ep) Ep
def RRVs (K : PySem.W.Frag) (mg : Str → Option Value) (c : Cfg) : List R → List V → Prop
  | [], xs => xs = []
  | r :: rs, xs => ∃ x t, xs = x :: t ∧ RRV K mg c r x ∧ RRVs K mg c rs t
def PdV (X : Cx) (XE : XK) (es : List Expr) (w : WR) : Prop := ∃ t, PA X es t ∧ ∀ (c : Cfg) (Qp : List R → Env → Prop) (Ep : Ex → Env → Prop) (Q : List V → Hp → Prop), Ok X.K X.mg c → w c.ρ Qp Ep → XOk X.K X.mg c Ep XE →
  (∀ vs c' rs, Go X.K X.mg c c' → c'.σ = c.σ → RRVs X.K X.mg c' rs vs → rs.length = es.length → Qp rs c'.ρ → Q vs c'.H) → t c.σ c.H Q
theorem pv_nil : PdV X XE [] wVn := ⟨_, pa_nil, fun c Qp Ep Q ok hw x k => k [] c [] (Go.refl _ _ ok) rfl rfl rfl hw⟩
theorem pv_cons {e : Expr} {es : List Expr} {w : WE} {wr : WR} (h : PdE X XE e w) (hr : PdV X XE es wr) (hs : starEach (e :: es) X.env = (false, eval e X.env) :: starEach es X.env := by rfl) : PdV X XE (e :: es) (wVc w wr) := by
  obtain ⟨t, p, s⟩ := h
  obtain ⟨tr, pr, sr⟩ := hr
  refine ⟨_, pa_cons p pr hs, fun c Qp Ep Q ok hw x k => ?_⟩
  refine runV (e := e) s ok hw x fun v c1 d g1 e1 r1 h1 => ?_
  rw [← e1]
  refine sr c1 _ Ep _ g1.ok h1 (x.go X.K X.mg g1 e1) fun vs c2 ds g2 e2 r2 l2 h2 => ?_
  exact k (v :: vs) c2 (d :: ds) (g1.trans X.K X.mg g2) (e2.trans e1) ⟨v, vs, rfl, r1.go g2 e2, r2⟩ (by simp [l2]) h2
def pkL (ρ : Env) : List R → (List D → Prop) → Prop
  | [], k => k []
  | r :: rs, k => pk1 ρ r fun d => pkL ρ rs fun ds => k (d :: ds)
theorem pkL_of {c : Cfg} (ok : Ok X.K X.mg c) : ∀ {rs : List R} {vs : List V} {k : List D → Prop}, RRVs X.K X.mg c rs vs → pkL c.ρ rs k → ∃ ds, SeeL X.K X.mg c.F c.H ds vs ∧ k ds
  | [], _, k, r, h => ⟨[], r, h⟩
  | r :: rs, _, k, hr, h => by
    obtain ⟨x, t, rfl, h1, h2⟩ := hr
    obtain ⟨d, hd, h⟩ := pk1_of h
    obtain ⟨ds, s, q⟩ := pkL_of ok h2 h
    exact ⟨d :: ds, ⟨x, t, rfl, h1.see ok hd, s⟩, q⟩

/-! ### displays -/
def wTup (w : WL) : WE := fun ρ Q Ep => w ρ (fun ds ρ' => Q (.val (.tup ds)) ρ') Ep
def wLst (w : WL) : WE := fun ρ Q Ep => w ρ (fun ds ρ' => Q (.tmp (.lst ds)) ρ') Ep
theorem pd_tup {es : List Expr} {x1} {pos : Pos} {w : WL} (h : PdK X XE es w) (hz : es.length ≤ sizeLine := by show _ ≤ 16777216; decide) : PdE X XE (.Tuple es x1 pos) (wTup w) := by
  obtain ⟨t, p, s⟩ := h
  refine ⟨_, pe_tup p, fun c Qp Ep Q ok hw x k => ?_⟩
  refine s c _ Ep _ ok hw x fun vs c1 ds g1 e1 r1 l1 h1 => ?_
  refine ⟨by rw [← r1.len X.K X.mg, l1]; exact hz, fun p hp => ?_⟩
  have st := Step.tup' (o := .tup vs) g1.ok.sub hp
  exact k _ { c1 with F := upd c1.F p (.tup vs), H := upd c1.H p (.tup vs) } _ (g1.trans X.K X.mg (st.go g1.ok)) e1 (newR_rr g1 st (new_tup hp g1.ok.sub r1)) h1
theorem pd_lst {es : List Expr} {pos : Pos} {w : WL} (h : PdK X XE es w) (hz : es.length ≤ sizeLine := by show _ ≤ 16777216; decide) : PdE X XE (.List es pos) (wLst w) := by
  obtain ⟨t, p, s⟩ := h
  refine ⟨_, pe_lst p, fun c Qp Ep Q ok hw x k => ?_⟩
  refine s c _ Ep _ ok hw x fun vs c1 ds g1 e1 r1 l1 h1 => ?_
  refine ⟨by rw [← r1.len X.K X.mg, l1]; exact hz, fun p hp => ?_⟩
  have st := Step.new (o := .lst vs) g1.ok.sub hp
  exact k _ { c1 with F := c1.F, H := upd c1.H p (.lst vs) } _ (g1.trans X.K X.mg (st.go g1.ok)) e1 (newR_rr g1 st (new_lst hp g1.ok.sub r1)) h1

/-! ### slices -/
abbrev WO := Env → (Option Int → Env → Prop) → (Ex → Env → Prop) → Prop
def PdO (X : Cx) (XE : XK) (e : Option Expr) (w : WO) : Prop := ∃ t, PO X e t ∧ ∀ (c : Cfg) (Qp : Option Int → Env → Prop) (Ep : Ex → Env → Prop) (Q : Option Int → Hp → Prop), Ok X.K X.mg c → w c.ρ Qp Ep → XOk X.K X.mg c Ep XE →
  (∀ o c', Go X.K X.mg c c' → c'.σ = c.σ → Qp o c'.ρ → Q o c'.H) → t c.σ c.H Q
def wNone : WO := fun ρ Q _ => Q none ρ
def wSome (w : WE) : WO := fun ρ Q Ep => w ρ (fun r ρ' => match r with
  | .val (.int i) => Q (some i) ρ'
  | _ => False) Ep
theorem pso_none : PdO X XE none wNone := ⟨_, po_none, fun c Qp Ep Q ok hw x k => k none c (Go.refl _ _ ok) rfl hw⟩
theorem pso_some {e : Expr} {w : WE} (h : PdE X XE e w) : PdO X XE (some e) (wSome w) := by
  obtain ⟨t, p, s⟩ := h
  refine ⟨_, po_some p, fun c Qp Ep Q ok hw x k => ?_⟩
  refine s c _ Ep _ ok hw x fun v c1 r g1 e1 rr q => ?_
  cases r with
  | val d =>
    cases d with
    | int i => exact ⟨i, rr, k (some i) c1 g1 e1 q⟩
    | _ => exact q.elim
  | _ => exact q.elim
def cut {α : Type} (xs : List α) (lo hi : Option Int) : List α := (xs.drop (HT.sIx xs.length 0 lo)).take (HT.sIx xs.length xs.length hi - HT.sIx xs.length 0 lo)
def gSl : D → Option Int → Option Int → (R → Prop) → Prop := fun d lo hi Q => match d with
  | .lst xs => Q (.tmp (.lst (cut xs lo hi)))
  | .tup xs => Q (.val (.tup (cut xs lo hi)))
  | _ => False
def wSl (w : WE) (wl wh : WO) : WE := fun ρ Q Ep => wV w ρ (fun r ρ1 => wl ρ1 (fun lo ρ2 => wh ρ2 (fun hi ρ3 => pk1 ρ3 r fun d => gSl d lo hi fun z => Q z ρ3) Ep) Ep) Ep
theorem cut_rep {K : PySem.W.Frag} {mg : Str → Option Value} {F : Hp} {ds : List D} {xs : List V} {lo hi : Option Int} (r : RepL K mg F ds xs) : RepL K mg F (cut ds lo hi) (cutV xs lo hi) := by
  unfold cut cutV
  rw [r.len K mg]
  exact RepL.take K mg _ (RepL.drop K mg _ r)
def rSl2 (K : PySem.W.Frag) : V → Option Int → Option Int → Hp → VK → Prop := fun x lo hi H Q => rSlL K x lo hi H Q ∨ rSlA K x lo hi H Q
theorem pd_slice {e : Expr} {lo hi : Option Expr} {p2 pos : Pos} {w : WE} {wl wh : WO} (h : PdE X XE e w) (hl : PdO X XE lo wl) (hh : PdO X XE hi wh) : PdE X XE (.Subscript e (.Slice lo hi none p2) pos) (wSl w wl wh) := by
  obtain ⟨t, p, s⟩ := h
  obtain ⟨tl, pl, sl⟩ := hl
  obtain ⟨th, ph, sh⟩ := hh
  refine ⟨_, pe_slice (r := rSl2 X.K) (sl_list.or sl_tupA) p pl ph, fun c Qp Ep Q ok hw x k => ?_⟩
  refine runV (e := e) s ok hw x fun v c1 r1 g1 e1 rr1 h1 => ?_
  rw [← e1]
  refine sl c1 _ Ep _ g1.ok h1 (x.go X.K X.mg g1 e1) fun lo' c2 g2 e2 h2 => ?_
  rw [← e2]
  have g12 := g1.trans X.K X.mg g2
  refine sh c2 _ Ep _ g2.ok h2 (x.go X.K X.mg g12 (e2.trans e1)) fun hi' c3 g3 e3 h3 => ?_
  have g := g12.trans X.K X.mg g3
  obtain ⟨d, hd, h3⟩ := pk1_of h3
  have see := ((rr1.go g2 e2).go g3 e3).see g3.ok hd
  cases d with
  | lst ds =>
    obtain ⟨a, xs, rfl, ha, ra⟩ := see.lst g3.ok.sub
    refine .inl ⟨a, xs, rfl, SqL.of ha, fun p hp => ?_⟩
    have st := Step.new (o := .lst (cutV xs lo' hi')) g3.ok.sub hp
    exact k _ { c3 with F := c3.F, H := upd c3.H p (.lst (cutV xs lo' hi')) } _ (g.trans X.K X.mg (st.go g3.ok)) (e3.trans (e2.trans e1)) (newR_rr g st (new_lst hp g3.ok.sub (cut_rep ra))) h3
  | tup ds =>
    obtain ⟨a, xs, rfl, ha, ra⟩ := see.tup
    refine .inr ⟨a, xs, rfl, g3.ok.sub.sqT X.K ha, fun hw => ?_, fun _ p hp => ?_⟩
    · have e : cut ds lo' hi' = ds := by
        have l := ra.len X.K X.mg
        unfold cut
        rw [l, hw.1, hw.2]
        simp [← l]
      refine k _ c3 (.val (.tup (cut ds lo' hi'))) g (e3.trans (e2.trans e1)) ?_ h3
      rw [e]
      exact ⟨a, xs, rfl, ha, ra⟩
    · have st := Step.tup' (o := .tup (cutV xs lo' hi')) g3.ok.sub hp
      exact k _ { c3 with F := upd c3.F p (.tup (cutV xs lo' hi')), H := upd c3.H p (.tup (cutV xs lo' hi')) } _ (g.trans X.K X.mg (st.go g3.ok)) (e3.trans (e2.trans e1)) (newR_rr g st (new_tup hp g3.ok.sub (cut_rep ra))) h3
  | _ => exact h3.elim

/-! ### built-in calls -/
def wCall (g : GN) (w : WR) : WE := fun ρ Q Ep => w ρ (fun rs ρ' => pkL ρ' rs fun ds => g ds fun z => Q z ρ') Ep
theorem call_run {es : List Expr} {t : TA} {r : List V → Hp → VK → Prop} {g : GN} {w : WR} (hg : OpN X.K X.mg r g)
    (s : ∀ (c : Cfg) (Qp : List R → Env → Prop) (Ep : Ex → Env → Prop) (Q : List V → Hp → Prop), Ok X.K X.mg c → w c.ρ Qp Ep → XOk X.K X.mg c Ep XE → (∀ vs c' rs, Go X.K X.mg c c' → c'.σ = c.σ → RRVs X.K X.mg c' rs vs → rs.length = es.length → Qp rs c'.ρ → Q vs c'.H) → t c.σ c.H Q) :
    SoE X XE (tCB r t) (wCall g w) := by
  intro c Qp Ep Q ok hw x k
  refine s c _ Ep _ ok hw x fun vs c1 rs g1 e1 r1 _ h1 => ?_
  obtain ⟨ds, sl, h1⟩ := pkL_of g1.ok r1 h1
  refine hg c1.F c1.H ds vs _ _ g1.ok.sub sl h1 fun w' F' H' res st nw hq => ?_
  exact k w' { c1 with F := F', H := H' } res (g1.trans X.K X.mg (st.go g1.ok)) e1 (newR_rr g1 st nw) hq
theorem pd_callB {x : Str} {bid : String} {p pos : Pos} {e : Expr} {es : List Expr} {r : List V → Hp → VK → Prop} {g : GN} {w : WR} (hc : CallR X (.builtin bid) r) (hg : OpN X.K X.mg r g) (gl : Gl X x) (hm : X.mg x = none) (hv : bootBuiltins x = some (.builtin bid)) (ha : PdV X XE (e :: es) w)
    (hn : x ≠ "__name__" := by decide) (hdb : (x == ("__debug__" : Str)) = false := by decide)
    (he : starEach (e :: es) X.env = (false, eval e X.env) :: starEach es X.env := by rfl) (hpl : (backTo pos (starEach es X.env)).any (·.1) = false := by rfl) : PdE X XE (.Call (.Name x p) (e :: es) [] pos) (wCall g w) := by
  obtain ⟨t, pa, s⟩ := ha
  exact ⟨_, pe_callB hc gl hm hv pa hn hdb he hpl, call_run (es := e :: es) hg s⟩
theorem pd_callTy {x : Str} {T : String} {p pos : Pos} {e : Expr} {es : List Expr} {r : List V → Hp → VK → Prop} {g : GN} {w : WR} (hc : CallR X (.type T) r) (hg : OpN X.K X.mg r g) (gl : Gl X x) (hm : X.mg x = none) (hv : bootBuiltins x = some (.type T)) (ha : PdV X XE (e :: es) w)
    (hn : x ≠ "__name__" := by decide) (hdb : (x == ("__debug__" : Str)) = false := by decide)
    (he : starEach (e :: es) X.env = (false, eval e X.env) :: starEach es X.env := by rfl) (hpl : (backTo pos (starEach es X.env)).any (·.1) = false := by rfl) : PdE X XE (.Call (.Name x p) (e :: es) [] pos) (wCall g w) := by
  obtain ⟨t, pa, s⟩ := ha
  exact ⟨_, pe_callTy hc gl hm hv pa hn hdb he hpl, call_run (es := e :: es) hg s⟩
end
end PL
/-! PL5: built-in functions by data; isinstance. -/
namespace PL
open PySem PySem.Spec PyProof.Rows L2
variable [HasT]

section
variable {K : PySem.W.Frag} {mg : Str → Option Value}
theorem seeL1 {F H : Hp} {d : D} {vs : List V} (h : SeeL K mg F H [d] vs) : ∃ v, vs = [v] ∧ See K mg F H d v := by
  obtain ⟨x, r, rfl, h1, h2⟩ := h
  rw [show r = [] from h2]
  exact ⟨x, rfl, h1⟩
theorem seeL2 {F H : Hp} {d e : D} {vs : List V} (h : SeeL K mg F H [d, e] vs) : ∃ v u, vs = [v, u] ∧ See K mg F H d v ∧ See K mg F H e u := by
  obtain ⟨x, r, rfl, h1, y, t, rfl, h2, h3⟩ := h
  rw [show t = [] from h3]
  exact ⟨x, y, rfl, h1, h2⟩
/-- len -/
def gLen : GN := fun ds Q => match ds with
  | [.str z] => z.length ≤ sizeLine ∧ Q (.val (.int z.length))
  | [.lst xs] => Q (.val (.int xs.length))
  | [.kst xs] => Q (.val (.int xs.length))
  | [.tup xs] => Q (.val (.int xs.length))
  | _ => False
theorem opn_len : OpN K mg (fun xs H Q => ∃ x n, xs = [x] ∧ LenV K x H n ∧ Q (.int n) H) gLen := by
  intro F H ds vs Qg Q s h hg k
  unfold gLen at hg
  split at hg
  next z =>
    obtain ⟨v, rfl, h1⟩ := seeL1 h
    rw [h1.str]
    exact ⟨_, _, rfl, ⟨hg.1, rfl⟩, fin_val s k (d := .int _) rfl hg.2⟩
  next ds =>
    obtain ⟨v, rfl, h1⟩ := seeL1 h
    obtain ⟨a, xs, rfl, ha, ra⟩ := h1.lst s
    exact ⟨_, _, rfl, .inl ⟨xs, SqL.of ha, rfl⟩, fin_val s k (d := .int xs.length) rfl (by rw [← ra.len K mg]; exact hg)⟩
  next ds =>
    obtain ⟨v, rfl, h1⟩ := seeL1 h
    obtain ⟨a, xs, rfl, ha, ra⟩ := h1.kst
    exact ⟨_, _, rfl, .inl ⟨xs, s.sqL K ha, rfl⟩, fin_val s k (d := .int xs.length) rfl (by rw [← ra.len K mg]; exact hg)⟩
  next ds =>
    obtain ⟨v, rfl, h1⟩ := seeL1 h
    obtain ⟨a, xs, rfl, ha, ra⟩ := h1.tup
    exact ⟨_, _, rfl, .inr ⟨xs, s.sqT K ha, rfl⟩, fin_val s k (d := .int xs.length) rfl (by rw [← ra.len K mg]; exact hg)⟩
  next => exact hg.elim
/-- all bools of a list -/
def blsD : List D → Option (List Bool)
  | [] => some []
  | .bl b :: r => (blsD r).map (b :: ·)
  | _ => none
def intsD : List D → Option (List Int)
  | [] => some []
  | .int b :: r => (intsD r).map (b :: ·)
  | _ => none
theorem blsD_map : ∀ (l : List Bool), blsD (l.map .bl) = some l
  | [] => rfl
  | b :: l => by simp [blsD, blsD_map l]
theorem intsD_map : ∀ (l : List Int), intsD (l.map .int) = some l
  | [] => rfl
  | b :: l => by simp [intsD, intsD_map l]
theorem blsD_rep {F : Hp} : ∀ {ds : List D} {xs : List V} {bs : List Bool}, RepL K mg F ds xs → blsD ds = some bs → xs = bs.map V.bl
  | [], _, _, h, e => by cases e; rw [show _ = [] from h]; rfl
  | d :: ds, _, bs, h, e => by
    obtain ⟨x, r, rfl, h1, h2⟩ := h
    cases d with
    | bl b =>
      cases q : blsD ds with
      | none => simp [blsD, q] at e
      | some bs' =>
        simp [blsD, q] at e
        subst e
        rw [show x = V.bl b from h1, blsD_rep h2 q]; rfl
    | _ => cases e
theorem intsD_rep {F : Hp} : ∀ {ds : List D} {xs : List V} {bs : List Int}, RepL K mg F ds xs → intsD ds = some bs → xs = bs.map V.int
  | [], _, _, h, e => by cases e; rw [show _ = [] from h]; rfl
  | d :: ds, _, bs, h, e => by
    obtain ⟨x, r, rfl, h1, h2⟩ := h
    cases d with
    | int b =>
      cases q : intsD ds with
      | none => simp [intsD, q] at e
      | some bs' =>
        simp [intsD, q] at e
        subst e
        rw [show x = V.int b from h1, intsD_rep h2 q]; rfl
    | _ => cases e
def gAll : GN := fun ds Q => match ds with
  | [.lst xs] => match blsD xs with
    | some bs => Q (.val (.bl (bs.all id)))
    | none => False
  | _ => False
def gAny : GN := fun ds Q => match ds with
  | [.lst xs] => match blsD xs with
    | some bs => Q (.val (.bl (bs.any id)))
    | none => False
  | _ => False
def gSum : GN := fun ds Q => match ds with
  | [.lst xs] => match intsD xs with
    | some bs => Q (.val (.int bs.sum))
    | none => False
  | _ => False
theorem opn_all : OpN K mg (rAll K) gAll := by
  intro F H ds vs Qg Q s h hg k
  unfold gAll at hg
  split at hg
  next ds =>
    obtain ⟨v, rfl, h1⟩ := seeL1 h
    obtain ⟨a, xs, rfl, ha, ra⟩ := h1.lst s
    split at hg
    next bs q =>
      cases blsD_rep ra q
      exact ⟨a, bs, rfl, SqL.of ha, fin_val s k (d := .bl _) rfl hg⟩
    next => exact hg.elim
  next => exact hg.elim
theorem opn_any : OpN K mg (rAny K) gAny := by
  intro F H ds vs Qg Q s h hg k
  unfold gAny at hg
  split at hg
  next ds =>
    obtain ⟨v, rfl, h1⟩ := seeL1 h
    obtain ⟨a, xs, rfl, ha, ra⟩ := h1.lst s
    split at hg
    next bs q =>
      cases blsD_rep ra q
      exact ⟨a, bs, rfl, SqL.of ha, fin_val s k (d := .bl _) rfl hg⟩
    next => exact hg.elim
  next => exact hg.elim
theorem opn_sum : OpN K mg (rSum K) gSum := by
  intro F H ds vs Qg Q s h hg k
  unfold gSum at hg
  split at hg
  next ds =>
    obtain ⟨v, rfl, h1⟩ := seeL1 h
    obtain ⟨a, xs, rfl, ha, ra⟩ := h1.lst s
    split at hg
    next bs q =>
      cases intsD_rep ra q
      exact ⟨a, bs, rfl, SqL.of ha, fin_val s k (d := .int _) rfl hg⟩
    next => exact hg.elim
  next => exact hg.elim
def gII (f : Int → Int → Int) : GN := fun ds Q => match ds with
  | [.int i, .int j] => Q (.val (.int (f i j)))
  | _ => False
theorem opn_ii {f : Int → Int → Int} : OpN K mg (fun xs H Q => ∃ i j, xs = [.int i, .int j] ∧ Q (.int (f i j)) H) (gII f) := by
  intro F H ds vs Qg Q s h hg k
  unfold gII at hg
  split at hg
  next i j =>
    obtain ⟨v, u, rfl, h1, h2⟩ := seeL2 h
    rw [h1.int, h2.int]
    exact ⟨i, j, rfl, fin_val s k (d := .int _) rfl hg⟩
  next => exact hg.elim
def gAbs : GN := fun ds Q => match ds with
  | [.int i] => Q (.val (.int (if i < 0 then -i else i)))
  | _ => False
theorem opn_abs : OpN K mg (fun xs H Q => ∃ i, xs = [V.int i] ∧ Q (.int (if i < 0 then -i else i)) H) gAbs := by
  intro F H ds vs Qg Q s h hg k
  unfold gAbs at hg
  split at hg
  next i =>
    obtain ⟨v, rfl, h1⟩ := seeL1 h
    rw [h1.int]
    exact ⟨i, rfl, fin_val s k (d := .int _) rfl hg⟩
  next => exact hg.elim
/-- tuple(xs), list(xs) -/
def gTuple : GN := fun ds Q => match ds with
  | [.lst xs] => Q (.val (.tup xs))
  | [.tup xs] => Q (.val (.tup xs))
  | _ => False
theorem opn_tuple : OpN K mg (fun xs H Q => ∃ p ys, xs = [.ref p] ∧ ((SqL K H p ys ∧ ∀ l, H l = none → Q (.ref l) (upd H l (.tup ys))) ∨ (SqT K H p ys ∧ Q (.ref p) H))) gTuple := by
  intro F H ds vs Qg Q s h hg k
  unfold gTuple at hg
  split at hg
  next ds =>
    obtain ⟨v, rfl, h1⟩ := seeL1 h
    obtain ⟨a, xs, rfl, ha, ra⟩ := h1.lst s
    exact ⟨a, xs, rfl, .inl ⟨SqL.of ha, fun p hp => k _ _ _ _ (Step.tup' s hp) (new_tup hp s ra) hg⟩⟩
  next ds =>
    obtain ⟨v, rfl, h1⟩ := seeL1 h
    obtain ⟨a, xs, rfl, ha, ra⟩ := h1.tup
    exact ⟨a, xs, rfl, .inr ⟨s.sqT K ha, fin_val s k (d := .tup ds) ⟨a, xs, rfl, ha, ra⟩ hg⟩⟩
  next => exact hg.elim
def gList : GN := fun ds Q => match ds with
  | [.lst xs] => Q (.tmp (.lst xs))
  | [.tup xs] => Q (.tmp (.lst xs))
  | _ => False
theorem opn_list : OpN K mg (fun xs H Q => ∃ p ys, xs = [.ref p] ∧ (SqL K H p ys ∨ SqT K H p ys) ∧ ∀ l, H l = none → Q (.ref l) (upd H l (.lst ys))) gList := by
  intro F H ds vs Qg Q s h hg k
  unfold gList at hg
  split at hg
  next ds =>
    obtain ⟨v, rfl, h1⟩ := seeL1 h
    obtain ⟨a, xs, rfl, ha, ra⟩ := h1.lst s
    exact ⟨a, xs, rfl, .inl (SqL.of ha), fun p hp => k _ _ _ _ (Step.new s hp) (new_lst hp s ra) hg⟩
  next ds =>
    obtain ⟨v, e, h'⟩ := seeL1 h
    subst e
    obtain ⟨a, xs, rfl, ha, ra⟩ := h'.tup
    exact ⟨a, xs, rfl, .inr (s.sqT K ha), fun p hp => k _ _ _ _ (Step.new s hp) (new_lst hp s ra) hg⟩
  next => exact hg.elim

/-! ### isinstance -/
inductive Ty where | non | bl | int | str | tup | lst | dic
def Ty.name : Ty → String
  | .non => "NoneType" | .bl => "bool" | .int => "int" | .str => "str" | .tup => "tuple" | .lst => "list" | .dic => "dict"
def isT : Ty → Ty → Bool
  | .non, .non => true | .bl, .bl => true | .bl, .int => true | .int, .int => true | .str, .str => true | .tup, .tup => true | .lst, .lst => true | .dic, .dic => true
  | _, _ => false
theorem kit_T : ∀ a b : Ty, kitB a.name b.name = some (isT a b) := by
  intro a b
  cases a <;> cases b <;> decide +kernel
def tyD : D → Option Ty
  | .non => some .non | .bl _ => some .bl | .int _ => some .int | .str _ => some .str | .tup _ => some .tup | .lst _ => some .lst | .dic _ _ => some .dic | .dit _ _ => none | .obj _ _ _ => none | .exc _ _ _ => none | .kst _ => none | .draw => some .dic | .box _ => none
theorem see_ty {F H : Hp} {d : D} {v : V} {t : Ty} (s : Mono F H) (h : See K mg F H d v) (e : tyD d = some t) : TyX K H v (.type t.name) := by
  cases d with
  | non => cases e; rw [h.non]; exact .base .non
  | bl b => cases e; rw [h.bl]; exact .base (.bl _)
  | int b => cases e; rw [h.int]; exact .base (.int _)
  | str b => cases e; rw [h.str]; exact .base (.str _)
  | tup ds =>
    cases e
    obtain ⟨a, xs, rfl, h1, _⟩ := h.tup
    rcases s.sqT K h1 with (h1 | ⟨o, h1⟩) | ⟨o, its, n, h1, h2, _⟩
    · exact .base (.tup h1)
    · exact .fTuple h1
    · exact .kTuple h1 h2
  | lst ds =>
    cases e
    obtain ⟨a, xs, rfl, h1, _⟩ := h.lst s
    exact .base (.lst h1)
  | dic ks ds =>
    cases e
    rcases h with ⟨a, kvs, rfl, h1, _⟩ | ⟨ft, a, kvs, rfl, _, h1, _⟩
    · rcases s.rd h1 with h1 | ⟨o, h1⟩
      · exact .base (.dK h1)
      · exact .fDict h1
    · exact .base (.dK h1)
  | dit ks ds => cases e
  | obj c fs ds => cases e
  | exc c fs ds => cases e
  | kst ds => cases e
  | box d => cases e
  | draw =>
    cases e
    rcases h with h | ⟨ft, a, l, rfl, _, ⟨_, ⟨c, rest, turn, mix, h1, _⟩, _⟩⟩
    · exact h.elim
    · exact .base (.dK h1)
end
def wIsi (f : D → Option Bool) (w : WE) : WE := fun ρ Q Ep => wV w ρ (fun r ρ' => pk1 ρ' r fun d => match f d with
  | some b => Q (.val (.bl b)) ρ'
  | none => False) Ep
section
variable {X : Cx} {XE : XK}
theorem pd_isi {f : D → Option Bool} {cv : V} {u : Value} {p pos : Pos} {a ec : Expr} {w : WE} (hf : ∀ F H d v b, Mono F H → See X.K X.mg F H d v → f d = some b → ∃ t, TyX X.K H v t ∧ PySem.W.kitOne X.K t u = some b)
    (hc : PE X ec (tC cv)) (hk : ClsV cv u) (gl : Gl X "isinstance") (hm : X.mg "isinstance" = none) (ha : PdE X XE a w)
    (he : starEach [a, ec] X.env = (false, eval a X.env) :: starEach [ec] X.env := by rfl) (he2 : starEach [ec] X.env = (false, eval ec X.env) :: starEach [] X.env := by rfl)
    (hpl : (backTo pos (starEach [ec] X.env)).any (·.1) = false := by rfl) : PdE X XE (.Call (.Name "isinstance" p) [a, ec] [] pos) (wIsi f w) := by
  obtain ⟨t, pa, s⟩ := ha
  refine ⟨_, pe_callB call_isi gl hm (by decide +kernel) (pa_cons pa (pa_cons hc pa_nil he2) he) (by decide) (by decide) he hpl, fun c Qp Ep Q ok hw x k => ?_⟩
  refine runV (e := a) s ok hw x fun v c1 r1 g1 e1 rr1 h1 => ?_
  obtain ⟨d, hd, h1⟩ := pk1_of h1
  split at h1
  next b hb =>
    obtain ⟨t, ty, kt⟩ := hf c1.F c1.H d v b g1.ok.sub (rr1.see g1.ok hd) hb
    exact ⟨v, cv, t, u, b, rfl, hk, ty, kt, k _ c1 _ g1 e1 rr_bl h1⟩
  next => exact h1.elim
theorem pd_isiT {f : D → Option Bool} {cs : List V} {us : List Value} {p pos p2 : Pos} {a : Expr} {es : List Expr} {x1} {t2 : TA} {w : WE} (hf : ∀ F H d v b, Mono F H → See X.K X.mg F H d v → f d = some b → ∃ t, TyX X.K H v t ∧ PySem.W.kitAny X.K t us = some b)
    (hc : PA X es t2) (ht2 : ∀ σ H Q, Q cs H → t2 σ H Q) (hk : Paired ClsV cs us) (hz : cs.length ≤ sizeLine) (gl : Gl X "isinstance") (hm : X.mg "isinstance" = none) (ha : PdE X XE a w)
    (he : starEach [a, .Tuple es x1 p2] X.env = (false, eval a X.env) :: starEach [.Tuple es x1 p2] X.env := by rfl) (he2 : starEach [.Tuple es x1 p2] X.env = (false, eval (.Tuple es x1 p2) X.env) :: starEach [] X.env := by rfl)
    (hpl : (backTo pos (starEach [.Tuple es x1 p2] X.env)).any (·.1) = false := by rfl) : PdE X XE (.Call (.Name "isinstance" p) [a, .Tuple es x1 p2] [] pos) (wIsi f w) := by
  obtain ⟨t, pa, s⟩ := ha
  refine ⟨_, pe_callB call_isiT gl hm (by decide +kernel) (pa_cons pa (pa_cons (pe_tup hc) pa_nil he2) he) (by decide) (by decide) he hpl, fun c Qp Ep Q ok hw x k => ?_⟩
  refine runV (e := a) s ok hw x fun v c1 r1 g1 e1 rr1 h1 => ?_
  obtain ⟨d, hd, h1⟩ := pk1_of h1
  split at h1
  next b hb =>
    refine ht2 _ _ _ ⟨hz, fun q hq => ?_⟩
    have st := Step.tup' (o := .tup cs) g1.ok.sub hq
    have g2 := st.go g1.ok
    obtain ⟨t, ty, kt⟩ := hf (upd c1.F q (.tup cs)) (upd c1.H q (.tup cs)) d v b st.sub ((rr1.go g2 rfl).see (c := { c1 with F := upd c1.F q (.tup cs), H := upd c1.H q (.tup cs) }) g2.ok hd) hb
    exact ⟨v, q, cs, t, us, b, rfl, upd_same, hk, ty, kt, k _ { c1 with F := upd c1.F q (.tup cs), H := upd c1.H q (.tup cs) } _ (g1.trans X.K X.mg g2) e1 rr_bl h1⟩
  next => exact h1.elim
def fT (t : Ty) : D → Option Bool := fun d => (tyD d).map fun s => isT s t
theorem fT_ok (t : Ty) (F H : Hp) (d : D) (v : V) (b : Bool) (s : Mono F H) (h : See X.K X.mg F H d v) (e : fT t d = some b) : ∃ u, TyX X.K H v u ∧ PySem.W.kitOne X.K u (.type t.name) = some b := by
  unfold fT at e
  cases q : tyD d with
  | none => rw [q] at e; cases e
  | some y =>
    rw [q] at e; cases e
    exact ⟨_, see_ty s h q, kit_ty (kit_T y t)⟩
def fT2 (t t' : Ty) : D → Option Bool := fun d => (tyD d).map fun s => isT s t || isT s t'
theorem fT2_ok (t t' : Ty) (F H : Hp) (d : D) (v : V) (b : Bool) (s : Mono F H) (h : See X.K X.mg F H d v) (e : fT2 t t' d = some b) : ∃ u, TyX X.K H v u ∧ PySem.W.kitAny X.K u [.type t.name, .type t'.name] = some b := by
  unfold fT2 at e
  cases q : tyD d with
  | none => rw [q] at e; cases e
  | some y =>
    rw [q] at e; cases e
    show ∃ u, TyX X.K H v u ∧ PySem.W.kitAny X.K u [.type t.name, .type t'.name] = some (isT y t || isT y t')
    refine ⟨_, see_ty s h q, kitAny_cons (kit_ty (kit_T y t)) (fun h => kitAny_cons (kit_ty (kit_T y t')) (fun h' => ?_) fun h' => ?_) fun h => ?_⟩
    · rw [h, h']; exact kitAny_nil
    · rw [h']; simp
    · rw [h]; simp
end
end PL
/-! PL6: statements, targets, loops. -/
namespace PL
open PySem PySem.Spec PyProof.Rows L2
variable [HasT]

/-- what every rule may ask of the context -/
structure Cc (X : Cx) (XE : XK) (k : Nat) : Prop where
  calm : X.calm = true
  own : PassesOwn (model X.prog X.w) X.A X.env X.xe
  pas : Passes (L2.CX X.prog X.w) X XE
  tak : Takes X (fun cls d _ H => XE cls d H)
  room : Room k X.A

section
variable {K : PySem.W.Frag} {mg : Str → Option Value}
theorem RT.go {c c1 c2 : Cfg} {r : R} {v : V} (g : Go K mg c c1) (h : RT K mg c1 c2 r v) : RT K mg c c2 r v := by
  cases r with
  | val d => exact h
  | slot i => exact h
  | tmp d =>
    obtain ⟨ft, o, hf⟩ := h
    refine ⟨ft, o, fun b hb => ?_⟩
    obtain ⟨h1, h2, h3, h4⟩ := hf b hb
    refine ⟨h1, h2, ?_, h4⟩
    rcases h3 with ⟨j, hj⟩ | e
    · exact g.orig j b hj
    · refine .inr ?_
      cases q : c.H b with
      | none => rfl
      | some o => exact absurd e (g.fr.grow b (by rw [q]; simp))
theorem RR.rt {c c2 : Cfg} {r : R} {v : V} (h : RR K mg c c2 r v) (ns : ∀ i, r ≠ .slot i) : RT K mg c c2 r v := by
  cases r with
  | val d => exact h
  | slot i => exact absurd rfl (ns i)
  | tmp d =>
    obtain ⟨ft, o, hf⟩ := h
    refine ⟨ft, o, fun b hb => ?_⟩
    obtain ⟨h1, h2, h3, h4⟩ := hf b hb
    exact ⟨h1, h2, .inr h3, h4⟩
theorem POk.go {c c1 : Cfg} {Dp : PEnds} {D : Ends} {XE : XK} (h : POk K mg c Dp D XE) (g : Go K mg c c1) : POk K mg c1 Dp D XE :=
  ⟨fun c' g' q => h.1 c' (g.trans K mg g') q, fun v c' r g' rr q => h.2.1 v c' r (g.trans K mg g') (rr.go g) q, fun c' g' q => h.2.2.1 c' (g.trans K mg g') q, fun c' g' q => h.2.2.2.1 c' (g.trans K mg g') q, h.2.2.2.2.go K mg g⟩
theorem POk.nx {c : Cfg} {Dp : PEnds} {D : Ends} {XE : XK} {n : Env → Prop} {N : L2.St → Hp → Prop} (h : POk K mg c Dp D XE) (hn : ∀ c', Go K mg c c' → n c'.ρ → N c'.σ c'.H) : POk K mg c { Dp with nx := n } { D with nx := N } XE :=
  ⟨hn, h.2.1, h.2.2.1, h.2.2.2.1, h.2.2.2.2⟩
/-- slot i forgets -/
theorem drop_slot {c : Cfg} (ok : Ok K mg c) {i : Nat} (nb : ∀ d, c.ρ[i]? ≠ some (some (.own true d))) : Go K mg c { c with ρ := c.ρ.set i none, fp := fpSet c.fp i [] } := by
  refine ⟨⟨ok.tabs, ok.sub, by simpa using ok.len, fun j x q => ?_, fun j q => ?_, fun j b hb => ?_, fun j k b h1 h2 => ?_, ok.tf⟩, Frm.refl _ _ _, fun j b hb => ?_, fun j y q => ?_⟩
  · rcases set_get q with ⟨rfl, ex⟩ | ⟨hj, q'⟩
    · cases ex
    · obtain ⟨w, hw, eo⟩ := ok.slot j x q'
      refine ⟨w, hw, ?_⟩
      show EntOk K mg c.F c.H x w (fpSet c.fp i [] j)
      rw [fpSet_ne hj]; exact eo
  · show fpSet c.fp i [] j = []
    by_cases hj : j = i
    · subst hj; exact fpSet_same
    · rw [fpSet_ne hj]
      exact ok.non j fun e z => q e (by show (c.ρ.set i _)[j]? = _; rw [List.getElem?_set_ne (Ne.symm hj)]; exact z)
  · replace hb : b ∈ fpSet c.fp i [] j := hb
    have hj : j ≠ i := fun z => by
      subst z
      rw [show fpSet c.fp j [] j = [] from fpSet_same] at hb; cases hb
    rw [show fpSet c.fp i [] j = c.fp j from fpSet_ne hj] at hb
    exact ok.out j b hb
  · replace h1 : b ∈ fpSet c.fp i [] j := h1
    replace h2 : b ∈ fpSet c.fp i [] k := h2
    by_cases hj : j = i
    · subst hj
      rw [show fpSet c.fp j [] j = [] from fpSet_same] at h1; cases h1
    · by_cases hk : k = i
      · subst hk
        rw [show fpSet c.fp k [] k = [] from fpSet_same] at h2; cases h2
      · rw [show fpSet c.fp i [] j = c.fp j from fpSet_ne hj] at h1
        rw [show fpSet c.fp i [] k = c.fp k from fpSet_ne hk] at h2
        exact ok.disj j k b h1 h2
  · replace hb : b ∈ fpSet c.fp i [] j := hb
    by_cases hj : j = i
    · subst hj
      rw [show fpSet c.fp j [] j = [] from fpSet_same] at hb; cases hb
    · rw [show fpSet c.fp i [] j = c.fp j from fpSet_ne hj] at hb
      exact .inl ⟨j, hb⟩
  · have hj : j ≠ i := fun z => by subst z; exact nb y q
    exact ⟨y, by show (c.ρ.set i _)[j]? = _; rw [List.getElem?_set_ne (Ne.symm hj)]; exact q, by rw [show ({ c with ρ := c.ρ.set i none, fp := fpSet c.fp i [] } : Cfg).fp j = c.fp j from fpSet_ne hj]; exact Grw.refl _ _, rfl⟩
end

def wSeq (a b : WS) : WS := fun D ρ => a { D with nx := fun ρ' => b D ρ' } ρ
def wNext : WS := fun D ρ => D.nx ρ
def wNever : WS := fun _ _ => False
def wBreak : WS := fun D ρ => D.bk ρ
def wCont : WS := fun D ρ => D.ct ρ
def wExpr (w : WE) : WS := fun D ρ => w ρ (fun _ ρ' => D.nx ρ') D.ex
def wRet (w : WE) : WS := fun D ρ => w ρ (fun r ρ' => match r with
  | .slot i => match ρ'[i]? with
    | some (some (.val d)) => D.rt (.val d) ρ'
    | some (some (.own false d)) => D.rt (.tmp d) (ρ'.set i none)
    | _ => False
  | r => D.rt r ρ') D.ex
def wRetN : WS := fun D ρ => D.rt (.val .non) ρ
def wIf (wt : WT) (wa wb : WS) : WS := fun D ρ => wt ρ (fun b ρ' => if b = true then wa D ρ' else wb D ρ') D.ex
abbrev WG := D → Env → (Env → Prop) → Prop
abbrev WGs := List D → Env → (Env → Prop) → Prop
def wName (i : Nat) : WG := fun d ρ Q => match ρ[i]? with
  | some (some (.own true _)) => False
  | some _ => Q (ρ.set i (some (.val d)))
  | none => False
def wGn : WGs := fun ds ρ Q => match ds with
  | [] => Q ρ
  | _ => False
def wGc (w : WG) (wr : WGs) : WGs := fun ds ρ Q => match ds with
  | d :: r => w d ρ fun ρ' => wr r ρ' Q
  | [] => False
/-- a, b = .. -/
def wUnp (n : Nat) (ws : WGs) : WG := fun d ρ Q => match d with
  | .tup ds => ds.length = n ∧ ws ds ρ Q
  | .lst ds => ds.length = n ∧ ws ds ρ Q
  | _ => False
def wAsg (w : WE) (g : WG) : WS := fun D ρ => wK w ρ (fun d ρ' => g d ρ' D.nx) D.ex
/-- x = e -/
def wSet (i : Nat) (w : WE) : WS := fun D ρ => w ρ (fun r ρ' => match ρ'[i]? with
  | some (some (.own true _)) => False
  | some _ => match r with
    | .val d => D.nx (ρ'.set i (some (.val d)))
    | .tmp d => D.nx (ρ'.set i (some (.own false d)))
    | .slot j => match ρ'[j]? with
      | some (some (.val d)) => D.nx (ρ'.set i (some (.val d)))
      | some (some (.own false d)) => frz d (D.nx ((ρ'.set j (some (.val d))).set i (some (.val d))))
      | _ => False
  | none => False) D.ex
def wForL (wt : WG) (wb : WS) : List D → PEnds → Env → Prop
  | [], Dp, ρ => Dp.nx ρ
  | d :: ds, Dp, ρ => wt d ρ fun ρ1 => wb { Dp with nx := fun ρ' => wForL wt wb ds Dp ρ', ct := fun ρ' => wForL wt wb ds Dp ρ', bk := Dp.nx } ρ1
abbrev WI := Env → (List D → Env → Prop) → (Ex → Env → Prop) → Prop
def wFor (wi : WI) (wt : WG) (wb : WS) : WS := fun Dp ρ => wi ρ (fun ds ρ1 => wForL wt wb ds Dp ρ1) Dp.ex
def wWhileN (wt : WT) (wb : WS) : Nat → PEnds → Env → Prop
  | 0, _, _ => False
  | n + 1, Dp, ρ => wt ρ (fun b ρ' => if b = true then wb { Dp with nx := fun ρ' => wWhileN wt wb n Dp ρ', ct := fun ρ' => wWhileN wt wb n Dp ρ', bk := Dp.nx } ρ' else Dp.nx ρ') Dp.ex
def wWhile (wt : WT) (wb : WS) : WS := fun Dp ρ => ∃ n, wWhileN wt wb n Dp ρ

section
variable {X : Cx} {XE : XK}
theorem pss_c {a : Stmt} {r : List Stmt} {wa wr : WS} (ha : PdS X XE a wa) (hr : PdSs X XE r wr) : PdSs X XE (a :: r) (wSeq wa wr) := by
  obtain ⟨ta, pa, sa⟩ := ha
  obtain ⟨tr, pr, sr⟩ := hr
  refine ⟨_, pss_cons pa pr, fun c Dp D ok hw P => ?_⟩
  exact sa c _ _ ok hw (P.nx fun c1 g1 h1 => sr c1 Dp D g1.ok h1 (P.go g1))
theorem pss_1 {a : Stmt} {wa : WS} (ha : PdS X XE a wa) : PdSs X XE [a] wa := by
  obtain ⟨ta, pa, sa⟩ := ha
  exact ⟨_, pss_one pa, sa⟩
theorem pss_0 : PdSs X XE [] wNext := ⟨_, pss_nil, fun c Dp D ok hw P => P.1 c (Go.refl _ _ ok) hw⟩
theorem pst_never {a : Stmt} : PdS X XE a wNever := ⟨_, ps_never, fun c Dp D ok hw P => hw.elim⟩
theorem pst_pass {pos : Pos} : PdS X XE (.Pass pos) wNext := ⟨_, ps_pass, fun c Dp D ok hw P => P.1 c (Go.refl _ _ ok) hw⟩
theorem pst_break {pos : Pos} : PdS X XE (.Break pos) wBreak := ⟨_, ps_break, fun c Dp D ok hw P => P.2.2.1 c (Go.refl _ _ ok) hw⟩
theorem pst_expr {e : Expr} {pos : Pos} {w : WE} (h : PdE X XE e w) (hs : swapsWith e none pos.line X.env = pure false := by rfl) : PdS X XE (.Expr e pos) (wExpr w) := by
  obtain ⟨t, p, s⟩ := h
  exact ⟨_, ps_expr p hs, fun c Dp D ok hw P => s c _ _ _ ok hw (P.2.2.2.2.ex X.K X.mg) fun v c' r g e rr q => by rw [← e]; exact P.1 c' g q⟩
theorem pst_ret {e : Expr} {pos : Pos} {w : WE} (h : PdE X XE e w) : PdS X XE (.Return (some e) pos) (wRet w) := by
  obtain ⟨t, p, s⟩ := h
  refine ⟨_, ps_ret p, fun c Dp D ok hw P => s c _ _ _ ok hw (P.2.2.2.2.ex X.K X.mg) fun v c' r g e rr q => ?_⟩
  cases r with
  | val d => exact P.2.1 v c' (.val d) g rr q
  | tmp d => exact P.2.1 v c' (.tmp d) g (rr.rt fun i => R.noConfusion) q
  | slot i =>
    have hv : c'.σ[i]? = some (some v) := rr
    dsimp only at q
    split at q
    next d hd =>
      obtain ⟨w', hw', rp, _⟩ := g.ok.val hd
      rw [hw'] at hv; cases hv
      exact P.2.1 _ c' (.val d) g rp q
    next d hd =>
      obtain ⟨w', hw', o⟩ := g.ok.own hd
      rw [hw'] at hv; cases hv
      have g2 := drop_slot g.ok (i := i) fun d' z => by rw [hd] at z; cases z
      refine P.2.1 _ { c' with ρ := c'.ρ.set i none, fp := fpSet c'.fp i [] } (.tmp d) (g.trans X.K X.mg g2) ⟨c'.fp i, o, fun b hb => ?_⟩ q
      obtain ⟨h1, h2⟩ := g.ok.out i b hb
      refine ⟨h1, h2, g.orig i b hb, fun j hj => ?_⟩
      replace hj : b ∈ fpSet c'.fp i [] j := hj
      by_cases hji : j = i
      · subst hji
        rw [show fpSet c'.fp j [] j = [] from fpSet_same] at hj; cases hj
      · rw [show fpSet c'.fp i [] j = c'.fp j from fpSet_ne hji] at hj
        exact hji (g.ok.disj j i b hj hb)
    next => exact q.elim
theorem pst_retN {pos : Pos} : PdS X XE (.Return none pos) wRetN := ⟨_, ps_retN, fun c Dp D ok hw P => P.2.1 .non c (.val .non) (Go.refl _ _ ok) rfl hw⟩
theorem pst_if {t : Expr} {a b : List Stmt} {pos : Pos} {wt : WT} {wa wb : WS} (ht : PdT X XE t wt) (ha : PdSs X XE a wa) (hb : PdSs X XE b wb) : PdS X XE (.If t a b pos) (wIf wt wa wb) := by
  obtain ⟨tt, pt, st⟩ := ht
  obtain ⟨ta, pa, sa⟩ := ha
  obtain ⟨tb, pb, sb⟩ := hb
  refine ⟨_, ps_if pt pa pb, fun c Dp D ok hw P => ?_⟩
  refine st c _ _ _ ok hw (P.2.2.2.2.ex X.K X.mg) fun b c' g e q => ?_
  rw [← e]
  cases b with
  | true =>
    rw [if_pos rfl] at q ⊢
    exact sa c' Dp D g.ok q (P.go g)
  | false =>
    rw [if_neg Bool.false_ne_true] at q ⊢
    exact sb c' Dp D g.ok q (P.go g)

/-! ### targets: is_, the slots that are stored -/
def PdG (X : Cx) (tg : Expr) (is_ : List Nat) (w : WG) : Prop := ∃ g, PG X tg g ∧ ∀ (c : Cfg) (d : D) (v : V) (Qp : Env → Prop) (Q : L2.St → Hp → Prop), Ok X.K X.mg c → Rep X.K X.mg c.F d v → w d c.ρ Qp →
  (∀ c', Go X.K X.mg c c' → Mono c.F c'.F → (∀ vs, (∀ i ∈ is_, i ∈ vs) → wipe c'.σ vs = wipe c.σ vs) → Qp c'.ρ → Q c'.σ c'.H) → g v c.σ c.H Q
def PdGs (X : Cx) (tg : List Expr) (is_ : List Nat) (w : WGs) : Prop := ∃ g, PGs X tg g ∧ ∀ (c : Cfg) (d : List D) (v : List V) (Qp : Env → Prop) (Q : L2.St → Hp → Prop), Ok X.K X.mg c → RepL X.K X.mg c.F d v → w d c.ρ Qp →
  (∀ c', Go X.K X.mg c c' → Mono c.F c'.F → (∀ vs, (∀ i ∈ is_, i ∈ vs) → wipe c'.σ vs = wipe c.σ vs) → Qp c'.ρ → Q c'.σ c'.H) → g v c.σ c.H Q
theorem wipe_set {σ : L2.St} {i : Nat} {x : Option V} : ∀ {vs : List Nat}, i ∈ vs → wipe (σ.set i x) vs = wipe σ vs
  | [], h => by cases h
  | v :: vs, h => by
    unfold wipe
    by_cases hv : i ∈ vs
    · rw [wipe_set hv]
    · have e : i = v := by
        rcases List.mem_cons.mp h with h | h
        · exact h
        · exact absurd h hv
      subst e
      have aux : ∀ (l : List Nat) (σ : L2.St), i ∉ l → wipe (σ.set i x) l = (wipe σ l).set i x := by
        intro l
        induction l with
        | nil => intro σ _; rfl
        | cons a l ih =>
          intro σ ha
          simp only [List.mem_cons, not_or] at ha
          unfold wipe
          rw [ih σ ha.2, List.set_comm _ _ ha.1]
      rw [aux vs σ hv, List.set_set]
theorem name_go {c : Cfg} {i : Nat} {d : D} {v : V} {Q : Env → Prop} (ok : Ok X.K X.mg c) (r : Rep X.K X.mg c.F d v) (h : wName i d c.ρ Q) :
    Q (c.ρ.set i (some (.val d))) ∧ Go X.K X.mg c { c with σ := c.σ.set i (some v), ρ := c.ρ.set i (some (.val d)), fp := fpSet c.fp i [] } := by
  unfold wName at h
  split at h
  next => exact h.elim
  next x hx e =>
    exact ⟨h, set_slot (Go.refl _ _ ok) (List.getElem?_eq_some_iff.mp e).1 (fun d' z => hx d' (by rw [e] at z; cases z; rfl)) (show EntOk X.K X.mg c.F c.H (.val d) v [] from ⟨r, rfl⟩) (fun d z => by cases z) fun b hb => by cases hb⟩
  next => exact h.elim
theorem pg_n {i : Nat} {x : Str} {pos : Pos} (hN : X.N.Nodup) (hi : X.N[i]? = some x := by rfl) (hx : Loc X.env.scope x := by first | exact Or.inl rfl | exact Or.inr rfl) (hf : X.fn x = true ∨ X.env.scope.names.lookup x = some .local := by first | exact .inl rfl | exact .inr rfl | assumption) : PdG X (.Name x pos) [i] (wName i) := by
  refine ⟨_, pg_name hN hi hx hf, fun c d v Qp Q ok r h k => ?_⟩
  obtain ⟨q, g⟩ := name_go ok r h
  exact k _ g (Mono.refl _) (fun vs h => wipe_set (h i (by simp))) q
theorem pgs_0 : PdGs X [] [] wGn := ⟨_, pgs_nil, fun c d v Qp Q ok r h k => by
  cases d with
  | nil => exact ⟨r, k c (Go.refl _ _ ok) (Mono.refl _) (fun _ _ => rfl) h⟩
  | cons => exact h.elim⟩
theorem pgs_c {e : Expr} {es : List Expr} {i1 i2 : List Nat} {w : WG} {wr : WGs} (h1 : PdG X e i1 w) (h2 : PdGs X es i2 wr) (hs : (assignEach (e :: es) X.env).map (·.2) = assign e X.env :: (assignEach es X.env).map (·.2) := by rfl) : PdGs X (e :: es) (i1 ++ i2) (wGc w wr) := by
  obtain ⟨t, p, s⟩ := h1
  obtain ⟨tr, pr, sr⟩ := h2
  refine ⟨_, pgs_cons p pr hs, fun c d v Qp Q ok r h k => ?_⟩
  cases d with
  | nil => exact h.elim
  | cons d ds =>
    obtain ⟨x, xs, rfl, r1, r2⟩ := r
    refine ⟨x, xs, rfl, s c d x _ _ ok r1 h fun c1 g1 e1 w1 q1 => ?_⟩
    exact sr c1 ds xs _ _ g1.ok (r2.mono X.K X.mg e1 _ _) q1 fun c2 g2 e2 w2 q2 => k c2 (g1.trans X.K X.mg g2) (e1.trans e2) (fun vs h => (w2 vs fun i hi => h i (List.mem_append_right _ hi)).trans (w1 vs fun i hi => h i (List.mem_append_left _ hi))) q2
theorem PG.or {tg : Expr} {a b : TG} (h1 : PG X tg a) (h2 : PG X tg b) : PG X tg (fun v σ H Q => a v σ H Q ∨ b v σ H Q) :=
  ⟨fun pins s σ H v u Q I r hw => by
    rcases hw with hw | hw
    · exact h1.run pins s σ H v u Q I r hw
    · exact h2.run pins s σ H v u Q I r hw⟩
theorem pg_u {es : List Expr} {kk n : Nat} {is_ : List Nat} {pos : Pos} {ws : WGs} (hc : X.calm = true) (h : PdGs X es is_ ws) (hn : (assignEach es X.env).length = n := by rfl) (hst : (assignEach es X.env).findIdx? (·.1) = none := by rfl) : PdG X (.Tuple es kk pos) is_ (wUnp n ws) := by
  obtain ⟨t, p, s⟩ := h
  refine ⟨_, PG.or (pg_tup hc p hn hst) (pg_unl hc p hn hst), fun c d v Qp Q ok r h k => ?_⟩
  cases d with
  | tup ds =>
    obtain ⟨a, xs, rfl, ha, ra⟩ := r
    exact .inl ⟨a, xs, rfl, ok.sub.sqT X.K ha, by rw [← ra.len X.K X.mg]; exact h.1, s c ds xs _ _ ok ra h.2 k⟩
  | lst ds =>
    obtain ⟨a, xs, rfl, ha, ra⟩ := r
    exact .inr ⟨a, xs, rfl, SqL.of (ok.sub.lst ha), by rw [← ra.len X.K X.mg]; exact h.1, s c ds xs _ _ ok ra h.2 k⟩
  | _ => exact h.elim
theorem pst_asg {tg e : Expr} {pos : Pos} {is_ : List Nat} {w : WE} {g : WG} (h : PdE X XE e w) (hg : PdG X tg is_ g) (hs : swapsWithSole [tg] e pos.line X.env = pure false := by rfl) (hw : swappedStores [tg] e X.env = pure none := by rfl) (ha : (assignEach [tg] X.env).map (·.2) = [assign tg X.env] := by rfl) : PdS X XE (.Assign [tg] e pos) (wAsg w g) := by
  obtain ⟨t, p, s⟩ := h
  obtain ⟨tg', pg, sg⟩ := hg
  refine ⟨_, ps_asg p pg hs hw ha, fun c Dp D ok hw P => ?_⟩
  refine runK (e := e) s ok hw (P.2.2.2.2.ex X.K X.mg) fun v c1 d g1 e1 r1 h1 => ?_
  rw [← e1]
  exact sg c1 d v _ _ g1.ok r1 h1 fun c2 g2 _ _ q => P.1 c2 (g1.trans X.K X.mg g2) q
theorem set_run {i : Nat} {t : TE} {w : WE} (s : SoE X XE t w) {c : Cfg} {Dp : PEnds} {D : Ends} (ok : Ok X.K X.mg c) (hw : wSet i w Dp c.ρ) (P : POk X.K X.mg c Dp D XE) : t c.σ c.H (fun v H' => D.nx (c.σ.set i (some v)) H') := by
  refine s c _ _ _ ok hw (P.2.2.2.2.ex X.K X.mg) fun v c' r g e rr q => ?_
  rw [← e]
  split at q
  next => exact q.elim
  next y hy ey =>
    have il := (List.getElem?_eq_some_iff.mp ey).1
    have nb : ∀ d', c'.ρ[i]? ≠ some (some (.own true d')) := fun d' z => hy d' (by rw [ey] at z; cases z; rfl)
    cases r with
    | val d => exact P.1 { c' with σ := c'.σ.set i (some v), ρ := c'.ρ.set i (some (.val d)), fp := fpSet c'.fp i [] } (set_slot g il nb (show EntOk X.K X.mg c'.F c'.H (.val d) v [] from ⟨rr, rfl⟩) (fun d z => by cases z) fun b hb => by cases hb) q
    | tmp d =>
      obtain ⟨ft, o, hf'⟩ := rr
      exact P.1 { c' with σ := c'.σ.set i (some v), ρ := c'.ρ.set i (some (.own false d)), fp := fpSet c'.fp i ft } (set_slot g il nb (show EntOk X.K X.mg c'.F c'.H (.own false d) v ft from o) (fun d z => by cases z) hf') q
    | slot j =>
      have hv : c'.σ[j]? = some (some v) := rr
      dsimp only at q
      split at q
      next d hd =>
        obtain ⟨w', hw', rp, _⟩ := g.ok.val hd
        rw [hw'] at hv; cases hv
        exact P.1 { c' with σ := c'.σ.set i (some _), ρ := c'.ρ.set i (some (.val d)), fp := fpSet c'.fp i [] } (set_slot g il nb (show EntOk X.K X.mg c'.F c'.H (.val d) _ [] from ⟨rp, rfl⟩) (fun d z => by cases z) fun b hb => by cases hb) q
      next d hd =>
        obtain ⟨q', w', F', hw', rp, g'⟩ := freeze_slot g.ok hd q
        rw [hw'] at hv; cases hv
        have gg := g.trans X.K X.mg g'
        refine P.1 { c' with F := F', σ := c'.σ.set i (some _), ρ := (c'.ρ.set j (some (.val d))).set i (some (.val d)), fp := fpSet (fpSet c'.fp j []) i [] } (set_slot (c1 := { c' with F := F', ρ := c'.ρ.set j (some (.val d)), fp := fpSet c'.fp j [] }) gg (by simpa using il) (fun d' z => ?_) (show EntOk X.K X.mg F' c'.H (.val d) _ [] from ⟨rp, rfl⟩) (fun d z => by cases z) fun b hb => by cases hb) q'
        rcases set_get z with ⟨_, z'⟩ | ⟨_, z'⟩
        · cases z'
        · exact nb d' z'
      next => exact q.elim
  next => exact q.elim
theorem pst_set {i : Nat} {x : Str} {e : Expr} {pos' pos : Pos} {w : WE} (hN : X.N.Nodup) (h : PdE X XE e w) (hi : X.N[i]? = some x := by rfl) (hx : Loc X.env.scope x := by first | exact Or.inl rfl | exact Or.inr rfl) (hs : swapsWith e (some (.Name x pos')) pos.line X.env = pure false := by rfl)
    (hf : X.fn x = true ∨ X.env.scope.names.lookup x = some .local := by first | exact .inl rfl | exact .inr rfl | assumption) : PdS X XE (.Assign [.Name x pos'] e pos) (wSet i w) := by
  obtain ⟨t, p, s⟩ := h
  exact ⟨_, ps_set hN hi hx p hs hf, fun c Dp D ok hw P => set_run s ok hw P⟩
end
end PL
/-! PL7: what is walked; for, while, list comprehensions. -/
namespace PL
open PySem PySem.Spec PyProof.Rows L2
variable [HasT]

section
variable {K : PySem.W.Frag} {mg : Str → Option Value}
/-- the walk J goes through these items wherever P holds of the frozen heap -/
structure ItOk (K : PySem.W.Frag) (mg : Str → Option Value) (J : It) (items : List D) (P : Hp → Prop) : Prop where
  item : ∀ (F H : Hp) i d, Mono F H → TupF F H → P F → items[i]? = some d → J.go i H ∧ ∀ x H', J.yld i H x H' → ∃ F', Step F H F' H' ∧ Rep K mg F' d x
  stop : ∀ (F H : Hp), Mono F H → P F → J.stop items.length H
  mono : ∀ F F', Mono F F' → P F → P F'
  len : items.length ≤ sizeLine
def HLen (H : Hp) : Prop := (∀ a xs, H a = some (.lst xs) → xs.length ≤ sizeLine) ∧ (∀ a xs, H a = some (.tup xs) → xs.length ≤ sizeLine)
theorem hlen_of {P : Program} {w : World} {H : Hp} {h : Heap} (x : HOk P w H h) : HLen H :=
  ⟨fun a xs e => (x a _ e).1, fun a xs e => (x a _ e).1⟩
theorem len_sqT {H : Hp} {a : Addr} {xs : List V} (hl : HLen H) (hf : ∀ a o xs, H a = some (.frz o (.tup xs)) → xs.length ≤ sizeLine) (h : SqT K H a xs) : xs.length ≤ sizeLine := by
  rcases h with (h | ⟨o, h⟩) | ⟨o, its, n, h1, h2, h3, h4, h5⟩
  · exact hl.2 a xs h
  · exact hf a o xs h
  · have := h5.length
    simp only [Array.length_toList] at this
    omega
theorem it_list {a : Addr} {xs : List V} {ds : List D} (hl : ds.length ≤ sizeLine) : ItOk K mg (Itl K a) ds (fun F => ∃ xs, F a = some (.lst xs) ∧ RepL K mg F ds xs) := by
  refine ⟨fun F H i d s _ ⟨xs, h, r⟩ e => ?_, fun F H s ⟨xs, h, r⟩ => ⟨xs, SqL.of (s.lst h), by rw [r.len K mg]; exact Nat.le_refl _⟩, fun F F' m ⟨xs, h, r⟩ => ⟨xs, m.lst h, r.mono K mg m _ _⟩, hl⟩
  obtain ⟨x, hx, rx⟩ := r.get K mg e
  refine ⟨⟨xs, x, SqL.of (s.lst h), hx⟩, fun y H' q => ?_⟩
  obtain ⟨rfl, q⟩ := q
  have := q xs (SqL.of (s.lst h))
  rw [hx] at this; cases this
  exact ⟨F, Step.refl s, rx⟩
theorem it_tup {a : Addr} {ds : List D} (hl : ds.length ≤ sizeLine) : ItOk K mg (Itt K a) ds (fun F => ∃ xs, SqT K F a xs ∧ RepL K mg F ds xs) := by
  refine ⟨fun F H i d s _ ⟨xs, h, r⟩ e => ?_, fun F H s ⟨xs, h, r⟩ => ⟨xs, s.sqT K h, by rw [r.len K mg]; exact Nat.le_refl _⟩, fun F F' m ⟨xs, h, r⟩ => ⟨xs, m.sqT K h, r.mono K mg m _ _⟩, hl⟩
  obtain ⟨x, hx, rx⟩ := r.get K mg e
  refine ⟨⟨xs, x, s.sqT K h, hx⟩, fun y H' q => ?_⟩
  obtain ⟨rfl, q⟩ := q
  have := q xs (s.sqT K h)
  rw [hx] at this; cases this
  exact ⟨F, Step.refl s, rx⟩
theorem it_range {lo : Int} {n : Nat} (hl : n ≤ sizeLine) : ItOk K mg (Itr lo n) ((List.range n).map fun i : Nat => D.int (lo + i)) (fun _ => True) := by
  refine ⟨fun F H i d s _ _ e => ?_, fun F H s _ => ?_, fun _ _ _ _ => True.intro, by simpa using hl⟩
  · have hi : i < n := by
      have := (List.getElem?_eq_some_iff.mp e).1
      simpa using this
    rw [List.getElem?_map, List.getElem?_range hi] at e
    cases e
    refine ⟨hi, fun x H' q => ?_⟩
    obtain ⟨rfl, rfl⟩ := q
    exact ⟨F, Step.refl s, rfl⟩
  · show n ≤ _
    simp
theorem it_str {z : Str} (hl : z.cps.size ≤ sizeLine) : ItOk K mg (Its z) (z.cps.toList.map fun c => D.str ⟨#[c]⟩) (fun _ => True) := by
  refine ⟨fun F H i d s _ _ e => ?_, fun F H s _ => ?_, fun _ _ _ _ => True.intro, by simpa using hl⟩
  · rw [List.getElem?_map] at e
    cases q : z.cps.toList[i]? with
    | none => rw [q] at e; cases e
    | some c =>
      rw [q] at e; cases e
      have hi := (List.getElem?_eq_some_iff.mp q).1
      have hi' : i < z.cps.size := by simpa using hi
      refine ⟨hi', fun x H' y => ?_⟩
      obtain ⟨rfl, c', hc, rfl⟩ := y
      have q' : z.cps[i]? = some c := by simpa using q
      rw [q'] at hc; cases hc
      exact ⟨F, Step.refl s, rfl⟩
  · show z.cps.size ≤ _
    simp
theorem step_pair {F H : Hp} (s : Mono F H) {T : Addr} {x y : V} {d e : D} (h : H T = none) (r1 : Rep K mg F d x) (r2 : Rep K mg F e y) : ∃ F', Step F H F' (upd H T (.tup [x, y])) ∧ Rep K mg F' (.tup [d, e]) (.ref T) := by
  refine ⟨upd F T (.tup [x, y]), Step.tup' s h, T, [x, y], rfl, SqT.of upd_same, ?_⟩
  exact RepL.mono K mg (mono_upd (fresh_F s h)) _ _ (RepL.cons K mg r1 (RepL.one K mg r2))
theorem it_enum {a : Addr} {ds : List D} (hl : ds.length ≤ sizeLine) : ItOk K mg (Ite K a) (ds.zipIdx.map fun p => D.tup [.int (p.2 : Nat), p.1]) (fun F => ∃ xs, F a = some (.lst xs) ∧ RepL K mg F ds xs) := by
  refine ⟨fun F H i d s _ ⟨xs, h, r⟩ e => ?_, fun F H s ⟨xs, h, r⟩ => ⟨xs, SqL.of (s.lst h), by simp [r.len K mg]⟩, fun F F' m ⟨xs, h, r⟩ => ⟨xs, m.lst h, r.mono K mg m _ _⟩, by simpa using hl⟩
  rw [List.getElem?_map, List.getElem?_zipIdx] at e
  cases q : ds[i]? with
  | none => rw [q] at e; cases e
  | some d' =>
    rw [q] at e
    simp only [Option.map_some, Option.some.injEq] at e
    subst e
    obtain ⟨x, hx, rx⟩ := r.get K mg q
    refine ⟨⟨xs, x, SqL.of (s.lst h), hx⟩, fun y H' z => ?_⟩
    obtain ⟨T, x', rfl, hT, rfl, hxs⟩ := z
    have := hxs xs (SqL.of (s.lst h))
    rw [hx] at this; cases this
    have r0 : Rep K mg F (.int ((0 + i : Nat) : Int)) (V.int (i : Nat)) := by show V.int _ = V.int _; simp
    exact step_pair s hT r0 rx
theorem get_zip {α β : Type} : ∀ {l : List α} {m : List β} {i : Nat} {p : α × β}, (l.zip m)[i]? = some p → l[i]? = some p.1 ∧ m[i]? = some p.2
  | [], _, _, _, e => by simp at e
  | _ :: _, [], _, _, e => by simp at e
  | a :: l, b :: m, 0, p, e => by simp at e; subst e; exact ⟨rfl, rfl⟩
  | a :: l, b :: m, i + 1, p, e => by
    have := get_zip (l := l) (m := m) (i := i) (p := p) (by simpa using e)
    simpa using this
theorem it_zipT {a b : Addr} {ds es : List D} (hl : ds.length ≤ sizeLine) : ItOk K mg (RZ.ItzT K a b) ((ds.zip es).map fun p => D.tup [p.1, p.2]) (fun F => (∃ xs, SqT K F a xs ∧ RepL K mg F ds xs) ∧ ∃ ys, SqT K F b ys ∧ RepL K mg F es ys) := by
  refine ⟨fun F H i d s _ ⟨⟨xs, h, r⟩, ys, h', r'⟩ e => ?_, fun F H s ⟨⟨xs, h, r⟩, ys, h', r'⟩ => ?_, fun F F' m ⟨⟨xs, h, r⟩, ys, h', r'⟩ => ⟨⟨xs, m.sqT K h, r.mono K mg m _ _⟩, ys, m.sqT K h', r'.mono K mg m _ _⟩, by simp; omega⟩
  · rw [List.getElem?_map] at e
    cases q : (ds.zip es)[i]? with
    | none => rw [q] at e; cases e
    | some p =>
      rw [q] at e; cases e
      obtain ⟨q1, q2⟩ := get_zip q
      obtain ⟨x, hx, rx⟩ := r.get K mg q1
      obtain ⟨y, hy, ry⟩ := r'.get K mg q2
      refine ⟨⟨xs, ys, x, y, s.sqT K h, s.sqT K h', hx, hy⟩, fun v H' z => ?_⟩
      obtain ⟨T, x', y', rfl, hT, rfl, hxs, hys⟩ := z
      have e1 := hxs xs (s.sqT K h)
      have e2 := hys ys (s.sqT K h')
      rw [hx] at e1; cases e1
      rw [hy] at e2; cases e2
      exact step_pair s hT rx ry
  · refine ⟨xs, ys, s.sqT K h, s.sqT K h', ?_⟩
    have l1 := r.len K mg
    have l2 := r'.len K mg
    simp only [List.length_map, List.length_zip]
    omega
theorem it_zipL {a b : Addr} {ds es : List D} (hl : ds.length ≤ sizeLine) : ItOk K mg (Itz K a b) ((ds.zip es).map fun p => D.tup [p.1, p.2]) (fun F => (∃ xs, F a = some (.lst xs) ∧ RepL K mg F ds xs) ∧ ∃ ys, F b = some (.lst ys) ∧ RepL K mg F es ys) := by
  refine ⟨fun F H i d s _ ⟨⟨xs, h, r⟩, ys, h', r'⟩ e => ?_, fun F H s ⟨⟨xs, h, r⟩, ys, h', r'⟩ => ?_, fun F F' m ⟨⟨xs, h, r⟩, ys, h', r'⟩ => ⟨⟨xs, m.lst h, r.mono K mg m _ _⟩, ys, m.lst h', r'.mono K mg m _ _⟩, by simp; omega⟩
  · rw [List.getElem?_map] at e
    cases q : (ds.zip es)[i]? with
    | none => rw [q] at e; cases e
    | some p =>
      rw [q] at e; cases e
      obtain ⟨q1, q2⟩ := get_zip q
      obtain ⟨x, hx, rx⟩ := r.get K mg q1
      obtain ⟨y, hy, ry⟩ := r'.get K mg q2
      refine ⟨⟨xs, ys, x, y, SqL.of (s.lst h), SqL.of (s.lst h'), hx, hy⟩, fun v H' z => ?_⟩
      obtain ⟨T, x', y', rfl, hT, rfl, hxs, hys⟩ := z
      have e1 := hxs xs (SqL.of (s.lst h))
      have e2 := hys ys (SqL.of (s.lst h'))
      rw [hx] at e1; cases e1
      rw [hy] at e2; cases e2
      exact step_pair s hT rx ry
  · refine ⟨xs, ys, SqL.of (s.lst h), SqL.of (s.lst h'), ?_⟩
    have l1 := r.len K mg
    have l2 := r'.len K mg
    simp only [List.length_map, List.length_zip]
    omega
end

/-! ### what a for walks -/
def PdI (X : Cx) (XE : XK) (tg iter : Expr) (w : WI) : Prop := ∃ t, PI X tg iter t ∧ ∀ (c : Cfg) (Qp : List D → Env → Prop) (Ep : Ex → Env → Prop) (R : It → Hp → Prop), Ok X.K X.mg c → w c.ρ Qp Ep → XOk X.K X.mg c Ep XE →
  (∀ J items P c', Go X.K X.mg c c' → c'.σ = c.σ → ItOk X.K X.mg J items P → P c'.F → Qp items c'.ρ → R J c'.H) → t c.σ c.H R
section
variable {X : Cx} {XE : XK}
theorem PI.or {tg iter : Expr} {a b : TI} (h1 : PI X tg iter a) (h2 : PI X tg iter b) : PI X tg iter (fun σ H R => a σ H R ∨ b σ H R) :=
  ⟨fun pins s σ H R I hw => by
    rcases hw with hw | hw
    · exact h1.run pins s σ H R I hw
    · exact h2.run pins s σ H R I hw⟩
/-- lists and tuples have a largest length -/
def LenH (H : Hp) : Prop := HLen H ∧ ∀ a o xs, H a = some (.frz o (.tup xs)) → xs.length ≤ sizeLine
theorem PI.len {tg iter : Expr} {a : TI} (h : PI X tg iter a) : PI X tg iter (fun σ H R => a σ H fun J H1 => LenH H1 → R J H1) :=
  ⟨fun pins s σ H R I hw => by
    refine thn (h.run pins s σ H _ I hw) fun v s1 q => thn q fun itv s2 ⟨it, fp, tn, J, H', e, I', T, t0, hf, q⟩ => ?_
    exact ⟨it, fp, tn, J, H', e, I', T, t0, hf, q ⟨hlen_of I'.hok, fun a o xs e => by
      have := I'.hok a _ e
      exact this.2.1⟩⟩⟩
/-- over a list, a tuple, a text -/
def iAny (K : PySem.W.Frag) (tl : TE) : TI := fun σ H R => tl σ H fun x H1 => (∃ a xs, x = .ref a ∧ SqL K H1 a xs ∧ (LenH H1 → R (Itl K a) H1)) ∨ (∃ a xs, x = .ref a ∧ SqT K H1 a xs ∧ (LenH H1 → R (Itt K a) H1)) ∨ ∃ z, x = .str z ∧ R (Its z) H1
theorem lenH_of {pins : List (Addr × Obj)} {σ : L2.St} {H : Hp} {s : Shared} (I : Inv X pins σ H s) : LenH H := ⟨hlen_of I.hok, fun a o xs e => (I.hok a _ e).2.1⟩
theorem pi_any {tg l : Expr} {tl : TE} (hl : PE X l tl) : PI X tg l (iAny X.K tl) := by
  refine ⟨fun pins s σ H R I h => ?_⟩
  refine thn (hl.run pins s σ H _ I h) fun v s1 ⟨x, H1, I1, r1, q1⟩ => ?_
  have LH := lenH_of I1
  rcases q1 with ⟨a, xs, e, hq, q⟩ | ⟨a, xs, e, hq, q⟩ | ⟨z, e, q⟩
  · subst e
    cases r1
    obtain ⟨its, rv, p, hz⟩ := I1.list hq
    refine wpAny_pyIter_list p.isList ?_
    refine ⟨s1.heap.objs.size, [s1.heap.objs.size], _, _, H1, rfl, I1.kept (t' := s1.toks) fun b o e => Heap.get?_push_of_some _ e, turn_list a _, ⟨_, Heap.get?_push_size _ rfl, rfl, rfl⟩, fun b hb => ?_, q LH⟩
    have e : b = s1.heap.objs.size := by simpa using hb
    subst e
    exact I1.fpOk (Nat.le_refl _) (I1.hok.fresh (Nat.le_refl _))
  · subst e
    cases r1
    obtain ⟨its, rv, p, hz⟩ := I1.tuple hq
    refine wpAny_pyIter_tuple (show s1.heap.IsTuple a its.toArray from p) ?_
    refine ⟨s1.heap.objs.size, [s1.heap.objs.size], _, _, H1, rfl, I1.kept (t' := s1.toks) fun b o e => Heap.get?_push_of_some _ e, turn_tuple a _, ⟨_, Heap.get?_push_size _ rfl, rfl, rfl⟩, fun b hb => ?_, q LH⟩
    have e : b = s1.heap.objs.size := by simpa using hb
    subst e
    exact I1.fpOk (Nat.le_refl _) (I1.hok.fresh (Nat.le_refl _))
  · subst e
    obtain ⟨t, rfl⟩ := r1
    cases ha : z.cps.all (· < 128)
    · exact wpAny_pyIter_wide ha (pi_one (tk := s1.toks) I1 _ (turn_str _ z t "str_iterator" (.inr rfl)) ⟨_, Heap.get?_push_size _ rfl, rfl, rfl⟩ q)
    · exact wpAny_pyIter_ascii ha (pi_one (tk := s1.toks) I1 _ (turn_str _ z t "str_ascii_iterator" (.inl rfl)) ⟨_, Heap.get?_push_size _ rfl, rfl, rfl⟩ q)
def wSrc (w : WE) : WI := fun ρ Q Ep => wK w ρ (fun d ρ' => match d with
  | .lst ds => Q ds ρ'
  | .tup ds => Q ds ρ'
  | .str z => z.cps.size ≤ sizeLine ∧ Q (z.cps.toList.map fun c => D.str ⟨#[c]⟩) ρ'
  | _ => False) Ep
theorem LenH.lst {H : Hp} (h : LenH H) {F : Hp} (s : Mono F H) {a : Addr} {xs : List V} {ds : List D} (e : F a = some (.lst xs)) (r : RepL X.K X.mg F ds xs) : ds.length ≤ sizeLine := by
  rw [r.len X.K X.mg]; exact h.1.1 a xs (s.lst e)
theorem LenH.tup {H : Hp} (h : LenH H) {F : Hp} (s : Mono F H) {a : Addr} {xs : List V} {ds : List D} (e : SqT X.K F a xs) (r : RepL X.K X.mg F ds xs) : ds.length ≤ sizeLine := by
  rw [r.len X.K X.mg]; exact len_sqT h.1 h.2 (s.sqT X.K e)
theorem pi_src {tg e : Expr} {w : WE} (h : PdE X XE e w) : PdI X XE tg e (wSrc w) := by
  obtain ⟨t, p, s⟩ := h
  refine ⟨_, pi_any p, fun c Qp Ep R ok hw x k => ?_⟩
  refine runK (e := e) s ok hw x fun v c1 d g1 e1 r1 h1 => ?_
  cases d with
  | lst ds =>
    obtain ⟨a, xs, rfl, ha, ra⟩ := r1
    exact .inl ⟨a, xs, rfl, SqL.of (g1.ok.sub.lst ha), fun L => k _ ds _ c1 g1 e1 (it_list (xs := xs) (L.lst g1.ok.sub ha ra)) ⟨xs, ha, ra⟩ h1⟩
  | tup ds =>
    obtain ⟨a, xs, rfl, ha, ra⟩ := r1
    exact .inr (.inl ⟨a, xs, rfl, g1.ok.sub.sqT X.K ha, fun L => k _ ds _ c1 g1 e1 (it_tup (L.tup g1.ok.sub ha ra)) ⟨xs, ha, ra⟩ h1⟩)
  | str z => exact .inr (.inr ⟨z, r1, k _ _ _ c1 g1 e1 (it_str h1.1) True.intro h1.2⟩)
  | _ => exact h1.elim
/-- range(n), range(a, b) -/
def rangeD (lo hi : Int) : List D := (List.range (hi - lo).toNat).map fun i : Nat => D.int (lo + i)
def wRng1 (w : WE) : WI := fun ρ Q Ep => wK w ρ (fun d ρ' => match d with
  | .int j => (-(2 ^ 62) ≤ j ∧ j < 2 ^ 62 ∧ j.toNat ≤ sizeLine) ∧ Q (rangeD 0 j) ρ'
  | _ => False) Ep
def wRng2 (w u : WE) : WI := fun ρ Q Ep => wK w ρ (fun d ρ1 => wK u ρ1 (fun e ρ2 => match d, e with
  | .int i, .int j => (-(2 ^ 62) ≤ i ∧ i < 2 ^ 62 ∧ -(2 ^ 62) ≤ j ∧ j < 2 ^ 62 ∧ (j - i).toNat ≤ sizeLine) ∧ Q (rangeD i j) ρ2
  | _, _ => False) Ep) Ep
theorem pi_rng1 {tg a : Expr} {w : WE} {p pos : Pos} (hg : Gl X "range") (hm : X.mg "range" = none) (h : PdE X XE a w) (hs : starEach [a] X.env = (false, eval a X.env) :: starEach [] X.env := by rfl) (hs' : starEach [a] X.env = [(false, eval a X.env)] := by rfl) :
    PdI X XE tg (.Call (.Name "range" p) [a] [] pos) (wRng1 w) := by
  obtain ⟨t, pa, s⟩ := h
  refine ⟨_, pi_range1 hg hm (pa_cons pa pa_nil hs) hs', fun c Qp Ep R ok hw x k => ?_⟩
  refine runK (e := a) s ok hw x fun v c1 d g1 e1 r1 h1 => ?_
  cases d with
  | int j =>
    rw [show v = V.int j from r1]
    refine ⟨j, rfl, h1.1.1, h1.1.2.1, k _ (rangeD 0 j) (fun _ => True) c1 g1 e1 ?_ True.intro h1.2⟩
    unfold rangeD
    rw [Int.sub_zero]
    exact it_range h1.1.2.2
  | _ => exact h1.elim
theorem pi_rng2 {tg a b : Expr} {w u : WE} {p pos : Pos} (hg : Gl X "range") (hm : X.mg "range" = none) (h : PdE X XE a w) (h' : PdE X XE b u) (hs0 : starEach [a, b] X.env = (false, eval a X.env) :: starEach [b] X.env := by rfl) (hs1 : starEach [b] X.env = (false, eval b X.env) :: starEach [] X.env := by rfl)
    (hs : starEach [a, b] X.env = [(false, eval a X.env), (false, eval b X.env)] := by rfl) (hs2 : starEach [b] X.env = [(false, eval b X.env)] := by rfl) :
    PdI X XE tg (.Call (.Name "range" p) [a, b] [] pos) (wRng2 w u) := by
  obtain ⟨t, pa, s⟩ := h
  obtain ⟨t', pa', s'⟩ := h'
  refine ⟨_, pi_range2 hg hm (pa_cons pa (pa_cons pa' pa_nil hs1) hs0) hs hs2, fun c Qp Ep R ok hw x k => ?_⟩
  refine runK (e := a) s ok hw x fun v c1 d g1 e1 r1 h1 => ?_
  rw [← e1]
  refine runK (e := b) s' g1.ok h1 (x.go X.K X.mg g1 e1) fun v' c2 d' g2 e2 r2 h2 => ?_
  cases d with
  | int i =>
    cases d' with
    | int j =>
      rw [show v = V.int i from r1, show v' = V.int j from r2]
      exact ⟨i, j, rfl, ⟨h2.1.1, h2.1.2.1, h2.1.2.2.1, h2.1.2.2.2.1⟩, k _ (rangeD i j) _ c2 (g1.trans X.K X.mg g2) (e2.trans e1) (it_range h2.1.2.2.2.2) True.intro h2.2⟩
    | _ => exact h2.elim
  | _ => cases d' <;> exact h2.elim
/-- zip(a, b) of two lists, of two tuples -/
def zipD (xs ys : List D) : List D := (xs.zip ys).map fun p => D.tup [p.1, p.2]
def wZip (w u : WE) : WI := fun ρ Q Ep => wK w ρ (fun d ρ1 => wK u ρ1 (fun e ρ2 => match d, e with
  | .lst xs, .lst ys => Q (zipD xs ys) ρ2
  | .tup xs, .tup ys => Q (zipD xs ys) ρ2
  | _, _ => False) Ep) Ep
theorem pi_zip2 {a b : Expr} {w u : WE} {p pos tpos : Pos} {elts : List Expr} {kk : Nat} (hg : Gl X "zip") (hm : X.mg "zip" = none) (h : PdE X XE a w) (h' : PdE X XE b u)
    (hs : starEach [a, b] X.env = (false, eval a X.env) :: starEach [b] X.env := by rfl) (hs1 : starEach [b] X.env = (false, eval b X.env) :: starEach [] X.env := by rfl) (hpl : (backTo pos (starEach [b] X.env)).any (·.1) = false := by rfl) :
    PdI X XE (.Tuple elts kk tpos) (.Call (.Name "zip" p) [a, b] [] pos) (wZip w u) := by
  obtain ⟨t, pa, s⟩ := h
  obtain ⟨t', pa', s'⟩ := h'
  refine ⟨_, PI.len (RZ.pi_zipA hg hm (pa_cons pa (pa_cons pa' pa_nil hs1) hs) hs hpl), fun c Qp Ep R ok hw x k => ?_⟩
  refine runK (e := a) s ok hw x fun v c1 d g1 e1 r1 h1 => ?_
  rw [← e1]
  refine runK (e := b) s' g1.ok h1 (x.go X.K X.mg g1 e1) fun v' c2 d' g2 e2 r2 h2 => ?_
  have g := g1.trans X.K X.mg g2
  have r1' := Rep.mono X.K X.mg g2.fr.mono _ _ r1
  cases d with
  | lst ds =>
    cases d' with
    | lst es =>
      obtain ⟨a', xs, rfl, ha, ra⟩ := r1'
      obtain ⟨b', ys, rfl, hb, rb⟩ := r2
      exact ⟨a', b', xs, ys, rfl, .inl ⟨SqL.of (g2.ok.sub.lst ha), SqL.of (g2.ok.sub.lst hb), fun L => k _ (zipD ds es) _ c2 g (e2.trans e1) (it_zipL (L.lst g2.ok.sub ha ra)) ⟨⟨xs, ha, ra⟩, ys, hb, rb⟩ h2⟩⟩
    | _ => exact h2.elim
  | tup ds =>
    cases d' with
    | tup es =>
      obtain ⟨a', xs, rfl, ha, ra⟩ := r1'
      obtain ⟨b', ys, rfl, hb, rb⟩ := r2
      exact ⟨a', b', xs, ys, rfl, .inr ⟨g2.ok.sub.sqT X.K ha, g2.ok.sub.sqT X.K hb, fun L => k _ (zipD ds es) _ c2 g (e2.trans e1) (it_zipT (L.tup g2.ok.sub ha ra)) ⟨⟨xs, ha, ra⟩, ys, hb, rb⟩ h2⟩⟩
    | _ => exact h2.elim
  | _ => cases d' <;> exact h2.elim

/-! ### for, while -/
theorem pst_for {k : Nat} {tg iter : Expr} {body : List Stmt} {pos : Pos} {is_ : List Nat} {wi : WI} {wt : WG} {wb : WS} (C : Cc X XE k) (hi : PdI X XE tg iter wi) (hg : PdG X tg is_ wt) (hb : PdSs X XE body wb)
    (hs : ∀ x, foldedSetIterable iter X.env x = pure x := by intro _; rfl) : PdS X XE (.For tg iter body [] pos) (wFor wi wt wb) := by
  obtain ⟨ti, pi, si⟩ := hi
  obtain ⟨g, pg, sg⟩ := hg
  obtain ⟨tb, pb, sb⟩ := hb
  refine ⟨_, ps_for C.own C.calm pi pg pb hs, fun c Dp D ok hw P => ?_⟩
  refine si c _ Dp.ex _ ok hw (P.2.2.2.2.ex X.K X.mg) fun J items Pi c1 g1 e1 it p1 h1 => ?_
  rw [← e1]
  refine ⟨fun i m σ H => ∃ c', Go X.K X.mg c c' ∧ c'.σ = σ ∧ c'.H = H ∧ m = items.length - i ∧ i ≤ items.length ∧ Pi c'.F ∧ wForL wt wb (items.drop i) Dp c'.ρ, ⟨_, c1, g1, rfl, rfl, rfl, Nat.zero_le _, p1, h1⟩, ?_⟩
  rintro i m σ H ⟨c', g', rfl, rfl, rfl, hi, p', h'⟩
  by_cases hlt : i < items.length
  · have ed : items.drop i = items[i] :: items.drop (i + 1) := by rw [List.drop_eq_getElem_cons hlt]
    rw [ed] at h'
    have gi : items[i]? = some items[i] := by simp [hlt]
    obtain ⟨q1, q2⟩ := it.item c'.F c'.H i items[i] g'.ok.sub g'.ok.tf p' gi
    refine .inr ⟨q1, fun σ2 H2 => ∃ c2, Go X.K X.mg c c2 ∧ c2.σ = σ2 ∧ c2.H = H2 ∧ Pi c2.F ∧ wForL wt wb (items.drop (i + 1)) Dp c2.ρ, fun σ2 H2 ⟨c2, a1, a2, a3, a4, a5⟩ => ⟨items.length - (i + 1), by omega, c2, a1, a2, a3, rfl, hlt, a4, a5⟩, fun v H' y => ?_⟩
    obtain ⟨F', st, r⟩ := q2 v H' y
    have g2 := st.go g'.ok
    have gg := g'.trans X.K X.mg g2
    refine sg { c' with F := F', H := H' } items[i] v _ _ g2.ok r h' fun c3 g3 e3 _ h3 => ?_
    have gg3 := gg.trans X.K X.mg g3
    have p3 : Pi c3.F := it.mono _ _ (st.mono.trans e3) p'
    have keepP : ∀ c4, Go X.K X.mg c3 c4 → Pi c4.F := fun c4 g4 => it.mono _ _ g4.fr.mono p3
    refine sb c3 _ _ g3.ok h3 ⟨fun c4 g4 h4 => ⟨c4, gg3.trans X.K X.mg g4, rfl, rfl, keepP c4 g4, h4⟩, fun v' c4 r' g4 rr h4 => P.2.1 v' c4 r' (gg3.trans X.K X.mg g4) (rr.go gg3) h4, fun c4 g4 h4 => P.1 c4 (gg3.trans X.K X.mg g4) h4, fun c4 g4 h4 => ⟨c4, gg3.trans X.K X.mg g4, rfl, rfl, keepP c4 g4, h4⟩, P.2.2.2.2.go X.K X.mg gg3⟩
  · have e : i = items.length := by omega
    subst e
    rw [List.drop_length] at h'
    exact .inl ⟨it.stop c'.F c'.H g'.ok.sub p', P.1 c' g' h'⟩
theorem pst_while {k : Nat} {t : Expr} {body : List Stmt} {pos : Pos} {wt : WT} {wb : WS} (C : Cc X XE k) (ht : PdT X XE t wt) (hb : PdSs X XE body wb) : PdS X XE (.While t body [] pos) (wWhile wt wb) := by
  obtain ⟨tt, pt, st⟩ := ht
  obtain ⟨tb, pb, sb⟩ := hb
  refine ⟨_, ps_while C.own pt pb, fun c Dp D ok hw P => ?_⟩
  obtain ⟨n, hw⟩ := hw
  refine ⟨fun m σ H => ∃ c', Go X.K X.mg c c' ∧ c'.σ = σ ∧ c'.H = H ∧ wWhileN wt wb m Dp c'.ρ, ⟨n, c, Go.refl _ _ ok, rfl, rfl, hw⟩, ?_⟩
  rintro m σ H ⟨c', g', rfl, rfl, h'⟩
  cases m with
  | zero => exact h'.elim
  | succ m =>
    refine st c' _ Dp.ex _ g'.ok h' ((P.2.2.2.2.go X.K X.mg g').ex X.K X.mg) fun b c2 g2 e2 h2 => ?_
    have gg := g'.trans X.K X.mg g2
    cases b with
    | true =>
      rw [if_pos rfl] at h2 ⊢
      refine ⟨fun σ2 H2 => ∃ c3, Go X.K X.mg c c3 ∧ c3.σ = σ2 ∧ c3.H = H2 ∧ wWhileN wt wb m Dp c3.ρ, fun σ2 H2 h3 => ⟨m, Nat.lt_succ_self _, h3⟩, ?_⟩
      rw [← e2]
      exact sb c2 _ _ g2.ok h2 ⟨fun c4 g4 h4 => ⟨c4, gg.trans X.K X.mg g4, rfl, rfl, h4⟩, fun v' c4 r' g4 rr h4 => P.2.1 v' c4 r' (gg.trans X.K X.mg g4) (rr.go gg) h4, fun c4 g4 h4 => P.1 c4 (gg.trans X.K X.mg g4) h4, fun c4 g4 h4 => ⟨c4, gg.trans X.K X.mg g4, rfl, rfl, h4⟩, P.2.2.2.2.go X.K X.mg gg⟩
    | false =>
      rw [if_neg Bool.false_ne_true] at h2 ⊢
      rw [← e2]
      exact P.1 c2 gg h2
end

/-! ### list comprehensions -/
structure BI where
  s : Shared
  H : Hp
  C : Addr
  cl : List (Str × Addr)
  fp : List Addr
abbrev bx (X : Cx) (scope : Scope) (i : BI) : Cx := X.blk i.s i.H scope (compEnvC scope i.cl i.C X.env) i.fp
section
variable {X : Cx} {XE : XK} {scope : Scope}
theorem Cc.blk {k : Nat} (C : Cc X XE k) (i : BI) : Cc (bx X scope i) E0 k := ⟨C.calm, PassesOwn.never, passL, fun _ _ ⟨_, _, _, _, _, _, _, _, _, _, _, _, _, _, _, _, z⟩ => False.elim z, C.room⟩
theorem uniE {e : Expr} {w : WE} (h : ∀ i, PdE (bx X scope i) E0 e w) : ∃ t, (∀ i, PE (bx X scope i) e t) ∧ SoE X E0 t w :=
  ⟨fun σ H Q => ∀ i, Classical.choose (h i) σ H Q, fun i => ⟨fun pins s σ H Q I hq => (Classical.choose_spec (h i)).1.run pins s σ H Q I (hq i)⟩,
    fun c Qp Ep Q ok hw x k i => (Classical.choose_spec (h i)).2 c Qp Ep Q ok hw x k⟩
theorem uniG {e : Expr} {is_ : List Nat} {w : WG} (h : ∀ i, PdG (bx X scope i) e is_ w) : ∃ t, (∀ i, PG (bx X scope i) e t) ∧ ∀ (c : Cfg) (d : D) (v : V) (Qp : Env → Prop) (Q : L2.St → Hp → Prop), Ok X.K X.mg c → Rep X.K X.mg c.F d v → w d c.ρ Qp →
    (∀ c', Go X.K X.mg c c' → Mono c.F c'.F → (∀ vs, (∀ i ∈ is_, i ∈ vs) → wipe c'.σ vs = wipe c.σ vs) → Qp c'.ρ → Q c'.σ c'.H) → t v c.σ c.H Q :=
  ⟨fun v σ H Q => ∀ i, Classical.choose (h i) v σ H Q, fun i => ⟨fun pins s σ H v u Q I r hq => (Classical.choose_spec (h i)).1.run pins s σ H v u Q I r (hq i)⟩,
    fun c d v Qp Q ok r hw k i => (Classical.choose_spec (h i)).2 c d v Qp Q ok r hw k⟩
def PdTs (X : Cx) (XE : XK) (es : List Expr) (w : WT) : Prop := ∃ t, PTs X es t ∧ SoT X XE t w
def wYes : WT := fun ρ Q _ => Q true ρ
theorem pts_0 : PdTs X XE [] wYes := ⟨_, pts_nil, fun c Qp Ep Q ok hw x k => k true c (Go.refl _ _ ok) rfl hw⟩
theorem pts_1 {e : Expr} {w : WT} (h : PdT X XE e w) : PdTs X XE [e] w := by
  obtain ⟨t, p, s⟩ := h
  exact ⟨_, pts_one p, s⟩
theorem uniT {es : List Expr} {w : WT} (h : ∀ i, PdTs (bx X scope i) E0 es w) : ∃ t, (∀ i, PTs (bx X scope i) es t) ∧ SoT X E0 t w :=
  ⟨fun σ H Q => ∀ i, Classical.choose (h i) σ H Q, fun i => ⟨fun pins s σ H Q I hq => (Classical.choose_spec (h i)).1.run pins s σ H Q I (hq i)⟩,
    fun c Qp Ep Q ok hw x k i => (Classical.choose_spec (h i)).2 c Qp Ep Q ok hw x k⟩
end
def wipeE : Env → List Nat → Env
  | ρ, [] => ρ
  | ρ, v :: vs => (wipeE ρ vs).set v none
def restE (ρ ρ1 : Env) : List Nat → Env
  | [] => ρ
  | v :: vs => (restE ρ ρ1 vs).set v ((ρ1[v]?).getD none)
def okW (ρ : Env) (vs : List Nat) : Bool := vs.all fun i => match ρ[i]? with
  | some none => true
  | some (some (.val _)) => true
  | _ => false
def wLcL (wt : WG) (tt : WT) (we : WE) (vs : List Nat) : List D → List D → Env → (R → Env → Prop) → Prop
  | [], acc, ρ, Q => Q (.tmp (.lst acc)) ρ
  | d :: ds, acc, ρ, Q => wt d ρ fun ρ1 => tt ρ1 (fun b ρ2 => if b = true then wK we ρ2 (fun y ρ3 => wLcL wt tt we vs ds (acc ++ [y]) (wipeE ρ3 vs) Q) (fun _ _ => False) else wLcL wt tt we vs ds acc (wipeE ρ2 vs) Q) (fun _ _ => False)
def wLc (wi : WI) (wt : WG) (tt : WT) (we : WE) (vs : List Nat) : WE := fun ρ Q Ep => wi ρ (fun ds ρ1 => okW ρ1 vs = true ∧ wLcL wt tt we vs ds [] (wipeE ρ1 vs) fun r ρ' => Q r (restE ρ' ρ1 vs)) Ep
theorem wipeE_len (ρ : Env) : ∀ vs, (wipeE ρ vs).length = ρ.length
  | [] => rfl
  | v :: vs => by unfold wipeE; rw [List.length_set, wipeE_len ρ vs]
theorem wipeE_out {ρ : Env} {i : Nat} : ∀ {vs : List Nat}, i ∉ vs → (wipeE ρ vs)[i]? = ρ[i]?
  | [], _ => rfl
  | v :: vs, h => by
    simp only [List.mem_cons, not_or] at h
    unfold wipeE
    rw [List.getElem?_set_ne (fun z => h.1 z.symm), wipeE_out h.2]
theorem wipeE_in {ρ : Env} {i : Nat} {e : Ent} : ∀ {vs : List Nat}, i ∈ vs → (wipeE ρ vs)[i]? ≠ some (some e)
  | [], h => by cases h
  | v :: vs, h => by
    unfold wipeE
    intro z
    rcases set_get z with ⟨rfl, z'⟩ | ⟨hn, z'⟩
    · cases z'
    · rcases List.mem_cons.mp h with h | h
      · exact hn h
      · exact wipeE_in h z'
theorem wipe_out {σ : L2.St} {i : Nat} : ∀ {vs : List Nat}, i ∉ vs → (wipe σ vs)[i]? = σ[i]?
  | [], _ => rfl
  | v :: vs, h => by
    simp only [List.mem_cons, not_or] at h
    unfold wipe
    rw [List.getElem?_set_ne (fun z => h.1 z.symm), wipe_out h.2]
theorem restE_len (ρ ρ1 : Env) : ∀ vs, (restE ρ ρ1 vs).length = ρ.length
  | [] => rfl
  | v :: vs => by unfold restE; rw [List.length_set, restE_len ρ ρ1 vs]
theorem restE_out {ρ ρ1 : Env} {i : Nat} : ∀ {vs : List Nat}, i ∉ vs → (restE ρ ρ1 vs)[i]? = ρ[i]?
  | [], _ => rfl
  | v :: vs, h => by
    simp only [List.mem_cons, not_or] at h
    unfold restE
    rw [List.getElem?_set_ne (fun z => h.1 z.symm), restE_out h.2]
theorem restE_in {ρ ρ1 : Env} {i : Nat} {e : Ent} : ∀ {vs : List Nat}, i ∈ vs → (restE ρ ρ1 vs)[i]? = some (some e) → ρ1[i]? = some (some e)
  | [], h, _ => by cases h
  | v :: vs, h, z => by
    unfold restE at z
    rcases set_get z with ⟨rfl, z'⟩ | ⟨hn, z'⟩
    · cases q : ρ1[i]? with
      | none => rw [q] at z'; cases z'
      | some o => rw [q] at z'; rw [show o = some e from z'.symm]
    · rcases List.mem_cons.mp h with h | h
      · exact absurd h hn
      · exact restE_in h z'
theorem okW_of {ρ : Env} {vs : List Nat} {i : Nat} {e : Ent} (h : okW ρ vs = true) (hi : i ∈ vs) (he : ρ[i]? = some (some e)) : ∃ d, e = .val d := by
  have := List.all_eq_true.mp h i hi
  rw [he] at this
  cases e with
  | val d => exact ⟨d, rfl⟩
  | own b d => cases this
def fpW (fp : Nat → List Addr) (vs : List Nat) : Nat → List Addr := fun j => if j ∈ vs then [] else fp j
section
variable {K : PySem.W.Frag} {mg : Str → Option Value}
/-- the slots vs are forgotten, the others are as they were -/
theorem wipe_go {c0 c : Cfg} {vs : List Nat} {σ' : L2.St} (g : Go K mg c0 c) (h0 : ∀ i ∈ vs, ∀ d, c0.ρ[i]? ≠ some (some (.own true d))) (hl : σ'.length = c.σ.length) (hs : ∀ i, i ∉ vs → σ'[i]? = c.σ[i]?) :
    Go K mg c0 { c with σ := σ', ρ := wipeE c.ρ vs, fp := fpW c.fp vs } := by
  have hin : ∀ j, j ∈ vs → fpW c.fp vs j = [] := fun j hj => by unfold fpW; rw [if_pos hj]
  have hout : ∀ j, j ∉ vs → fpW c.fp vs j = c.fp j := fun j hj => by unfold fpW; rw [if_neg hj]
  have mem : ∀ j b, b ∈ fpW c.fp vs j → j ∉ vs ∧ b ∈ c.fp j := fun j b hb => by
    by_cases hj : j ∈ vs
    · rw [hin j hj] at hb; cases hb
    · rw [hout j hj] at hb; exact ⟨hj, hb⟩
  refine ⟨⟨g.ok.tabs, g.ok.sub, by rw [wipeE_len, hl]; exact g.ok.len, fun i e h => ?_, fun i h => ?_, fun i b hb => g.ok.out i b (mem i b hb).2, fun i j b h1 h2 => g.ok.disj i j b (mem i b h1).2 (mem j b h2).2, g.ok.tf⟩, g.fr, fun i b hb => g.orig i b (mem i b hb).2, fun i d h => ?_⟩
  · by_cases hi : i ∈ vs
    · exact absurd h (wipeE_in hi)
    · have h' : c.ρ[i]? = some (some e) := by rw [← wipeE_out (vs := vs) hi]; exact h
      obtain ⟨v, hv, eo⟩ := g.ok.slot i e h'
      refine ⟨v, by show σ'[i]? = _; rw [hs i hi]; exact hv, ?_⟩
      show EntOk K mg c.F c.H e v (fpW c.fp vs i)
      rw [hout i hi]; exact eo
  · show fpW c.fp vs i = []
    by_cases hi : i ∈ vs
    · exact hin i hi
    · rw [hout i hi]
      exact g.ok.non i fun e z => h e (by show (wipeE c.ρ vs)[i]? = _; rw [wipeE_out hi]; exact z)
  · have hi : i ∉ vs := fun z => h0 i z d h
    obtain ⟨d', h1, h2, h3⟩ := g.bor i d h
    exact ⟨d', by show (wipeE c.ρ vs)[i]? = _; rw [wipeE_out hi]; exact h1, by rw [show ({ c with σ := σ', ρ := wipeE c.ρ vs, fp := fpW c.fp vs } : Cfg).fp i = c.fp i from hout i hi]; exact h2, (hs i hi).trans h3⟩
/-- the new list at D, which nobody knows yet, is changed -/
theorem list_go {c0 c : Cfg} {A : Addr} {o : HO} (g : Go K mg c0 c) (h0 : c0.H A = none) (hF : c.F A = none) (hfp : ∀ i, A ∉ c.fp i) (hpl : ∀ u, c.H A = some u → Pl u) (hnt : ∀ xs, o ≠ .tup xs := by intro xs z; cases z) : Go K mg c0 { c with H := upd c.H A o } := by
  have ne : ∀ i b, b ∈ c.fp i → b ≠ A := fun i b hb z => by subst z; exact hfp i hb
  refine ⟨⟨tabs_upd g.ok.tabs hpl, sub_upd_r g.ok.sub hF, g.ok.len, fun i e h => ?_, g.ok.non, fun i b hb => ?_, g.ok.disj, fun a xs e => by
    by_cases z : a = A
    · subst z
      have e' : upd c.H a o a = some (.tup xs) := e
      rw [upd_same] at e'; exact absurd (Option.some.inj e') (hnt xs)
    · have e' : upd c.H A o a = some (.tup xs) := e
      rw [upd_ne z] at e'; exact g.ok.tf a xs e'⟩, ⟨g.fr.mono, fun a h1 h2 h3 h4 => ?_, fun a h => ?_⟩, g.orig, g.bor⟩
  · obtain ⟨v, hv, eo⟩ := g.ok.slot i e h
    exact ⟨v, hv, eo.frame (Mono.refl _) fun b hb => upd_ne (ne i b hb)⟩
  · obtain ⟨q1, q2⟩ := g.ok.out i b hb
    exact ⟨q1, by show upd c.H A o b ≠ none; rw [upd_ne (ne i b hb)]; exact q2⟩
  · obtain ⟨q1, q2⟩ := g.fr.keep a h1 h2 h3 h4
    have hne : a ≠ A := fun z => by subst z; exact h2 h0
    exact ⟨q1, by show upd c.H A o a = _; rw [upd_ne hne]; exact q2⟩
  · show upd c.H A o a ≠ none
    have hne : a ≠ A := fun z => by subst z; exact h h0
    rw [upd_ne hne]; exact g.fr.grow a h
/-- the slots vs are as they were ahead -/
theorem rest_go {c c1 ce : Cfg} {vs : List Nat} (gc : Go K mg c c1) (g : Go K mg c1 ce) (ow : okW c1.ρ vs = true) (e1 : c1.σ = c.σ) (hn : ∀ i ∈ vs, ∀ e, ce.ρ[i]? ≠ some (some e)) (hl : c1.σ.length = ce.σ.length) (hs : ∀ i, i ∉ vs → c1.σ[i]? = ce.σ[i]?) :
    Go K mg c { ce with σ := c1.σ, ρ := restE ce.ρ c1.ρ vs } := by
  have gg := gc.trans K mg g
  refine ⟨⟨g.ok.tabs, g.ok.sub, by rw [restE_len, hl]; exact g.ok.len, fun i e h => ?_, fun i h => ?_, g.ok.out, g.ok.disj, g.ok.tf⟩, gg.fr, gg.orig, fun i d h => ?_⟩
  · by_cases hi : i ∈ vs
    · have h' := restE_in hi h
      obtain ⟨d, rfl⟩ := okW_of ow hi h'
      obtain ⟨v, hv, r, _⟩ := gc.ok.val h'
      exact ⟨v, hv, r.mono K mg g.fr.mono _ _, g.ok.non i (hn i hi)⟩
    · have h' : ce.ρ[i]? = some (some e) := by rw [← restE_out (vs := vs) hi]; exact h
      obtain ⟨v, hv, eo⟩ := g.ok.slot i e h'
      exact ⟨v, by show c1.σ[i]? = _; rw [hs i hi]; exact hv, eo⟩
  · by_cases hi : i ∈ vs
    · exact g.ok.non i (hn i hi)
    · exact g.ok.non i fun e z => h e (by show (restE ce.ρ c1.ρ vs)[i]? = _; rw [restE_out hi]; exact z)
  · obtain ⟨d1, h1, f1, s1⟩ := gc.bor i d h
    have hi : i ∉ vs := fun z => by
      obtain ⟨d', e⟩ := okW_of ow z h1
      cases e
    obtain ⟨d2, h2, f2, s2⟩ := g.bor i d1 h1
    exact ⟨d2, by show (restE ce.ρ c1.ρ vs)[i]? = _; rw [restE_out hi]; exact h2, f1.trans f2 fun x h => gc.fr.grow x h, by show c1.σ[i]? = _; rw [e1]⟩
end
section
variable {X : Cx} {XE : XK}
theorem lc_so {k : Nat} {elt : Expr} {own : List (Str × Nat)} {is_ : List Nat} {ti : TI} {g : TG} {t : TT} {te : TE} {wi : WI} {wt : WG} {tt : WT} {we : WE} (C : Cc X XE k)
    (si : ∀ (c : Cfg) (Qp : List D → Env → Prop) (Ep : Ex → Env → Prop) (R : It → Hp → Prop), Ok X.K X.mg c → wi c.ρ Qp Ep → XOk X.K X.mg c Ep XE →
      (∀ J items P c', Go X.K X.mg c c' → c'.σ = c.σ → ItOk X.K X.mg J items P → P c'.F → Qp items c'.ρ → R J c'.H) → ti c.σ c.H R)
    (sg : ∀ (c : Cfg) (d : D) (v : V) (Qp : Env → Prop) (Q : L2.St → Hp → Prop), Ok X.K X.mg c → Rep X.K X.mg c.F d v → wt d c.ρ Qp →
      (∀ c', Go X.K X.mg c c' → Mono c.F c'.F → (∀ vs, (∀ i ∈ is_, i ∈ vs) → wipe c'.σ vs = wipe c.σ vs) → Qp c'.ρ → Q c'.σ c'.H) → g v c.σ c.H Q)
    (st : SoT X E0 t tt) (se : SoE X E0 te we) (hv : ∀ i ∈ is_, i ∈ own.map (·.2)) : SoE X XE (tLc ti g t te (own.map (·.2))) (wLc wi wt tt we (own.map (·.2))) := by
  intro c Qp Ep Q okc hw x k
  generalize hvs : own.map (·.2) = vs at hv hw
  refine si c _ Ep _ okc hw x fun J items Pi c1 g1 e1 it p1 h1 => ?_
  obtain ⟨ow, h1⟩ := h1
  intro A hA
  have fA : c1.F A = none := fresh_F g1.ok.sub hA
  have nfp : ∀ i, A ∉ c1.fp i := fun i z => (g1.ok.out i A z).2 hA
  have g0 : Go X.K X.mg c1 { c1 with H := upd c1.H A (.lst []) } := list_go (Go.refl _ _ g1.ok) hA fA nfp (pl_none hA)
  have nbor : ∀ i ∈ vs, ∀ d, c1.ρ[i]? ≠ some (some (.own true d)) := fun i hi d z => by
    obtain ⟨d', e⟩ := okW_of ow hi z
    cases e
  have gw : Go X.K X.mg c1 { c1 with H := upd c1.H A (.lst []), σ := wipe c.σ vs, ρ := wipeE c1.ρ vs, fp := fpW c1.fp vs } :=
    wipe_go g0 nbor (by rw [wipe_length]; exact congrArg _ e1.symm) fun i hi => by rw [wipe_out hi]; exact congrArg (fun l : L2.St => l[i]?) e1.symm
  refine ⟨fun i m H => ∃ c' acc xs, Go X.K X.mg c1 c' ∧ c'.σ = wipe c.σ vs ∧ c'.H = H ∧ m = items.length - i ∧ i ≤ items.length ∧ Pi c'.F ∧ (∀ j ∈ vs, ∀ e, c'.ρ[j]? ≠ some (some e)) ∧ H A = some (.lst xs) ∧ RepL X.K X.mg c'.F acc xs ∧ c'.F A = none ∧ (∀ j, A ∉ c'.fp j) ∧ xs.length ≤ i ∧
    wLcL wt tt we vs (items.drop i) acc c'.ρ fun r ρ' => Qp r (restE ρ' c1.ρ vs),
    ⟨_, _, [], [], gw, rfl, rfl, rfl, Nat.zero_le _, p1, fun j hj e => wipeE_in hj, upd_same, rfl, fA, fun j z => ?_, Nat.le_refl _, h1⟩, ?_⟩
  · have z' : A ∈ fpW c1.fp vs j := z
    unfold fpW at z'
    split at z'
    · cases z'
    · exact nfp j z'
  rintro i m H ⟨c', acc, xs, g', es, rfl, rfl, hi, p', hn', hA', ra, fA', nf', hx', h'⟩
  by_cases hlt : i < items.length
  · have ed : items.drop i = items[i] :: items.drop (i + 1) := by rw [List.drop_eq_getElem_cons hlt]
    rw [ed] at h'
    have gi : items[i]? = some items[i] := by simp [hlt]
    obtain ⟨q1, q2⟩ := it.item c'.F c'.H i items[i] g'.ok.sub g'.ok.tf p' gi
    refine .inr ⟨q1, fun H2 => ∃ c2 acc2 xs2, Go X.K X.mg c1 c2 ∧ c2.σ = wipe c.σ vs ∧ c2.H = H2 ∧ Pi c2.F ∧ (∀ j ∈ vs, ∀ e, c2.ρ[j]? ≠ some (some e)) ∧ H2 A = some (.lst xs2) ∧ RepL X.K X.mg c2.F acc2 xs2 ∧ c2.F A = none ∧ (∀ j, A ∉ c2.fp j) ∧ xs2.length ≤ i + 1 ∧
      wLcL wt tt we vs (items.drop (i + 1)) acc2 c2.ρ fun r ρ' => Qp r (restE ρ' c1.ρ vs), fun H2 ⟨c2, a2, x2, b1, b2, b3, b4, b5, b6, b7, b8, b9, b10, b11⟩ => ⟨items.length - (i + 1), by omega, c2, a2, x2, b1, b2, b3, rfl, hlt, b4, b5, b6, b7, b8, b9, b10, b11⟩, fun v H' y => ?_⟩
    obtain ⟨F', stp, r⟩ := q2 v H' y
    have g2 := stp.go g'.ok
    have gg := g'.trans X.K X.mg g2
    have ew : wipe (wipe c.σ vs) vs = wipe c.σ vs := by
      have aux : ∀ (l : List Nat) (σ : L2.St), (∀ j ∈ l, ∀ y, σ[j]? ≠ some (some y)) → wipe σ l = σ := by
        intro l
        induction l with
        | nil => intro σ _; rfl
        | cons a l ih =>
          intro σ h
          unfold wipe
          rw [ih σ fun j hj => h j (List.mem_cons_of_mem _ hj)]
          apply List.ext_getElem?
          intro j
          by_cases hj : a = j
          · subst hj
            by_cases hl : a < σ.length
            · rw [List.getElem?_set_self hl]
              have e1 : σ[a]? = some σ[a] := by simp [hl]
              cases q : σ[a] with
              | none => rw [e1, q]
              | some y => exact absurd (e1.trans (congrArg some q)) (h a List.mem_cons_self y)
            · rw [List.getElem?_eq_none (by simpa using hl), List.getElem?_eq_none (by omega)]
          · rw [List.getElem?_set_ne hj]
      exact aux vs _ fun j hj y z => (wipe_some z).2 hj
    rw [← es]
    refine sg { c' with F := F', H := H' } items[i] v _ _ g2.ok r h' fun c3 g3 e3 w3 h3 => ?_
    have gg3 := gg.trans X.K X.mg g3
    have w3' : wipe c3.σ vs = wipe c.σ vs := (w3 vs hv).trans (by show wipe c'.σ vs = _; rw [es, ew])
    refine ⟨by rw [w3', es], ?_⟩
    refine st c3 _ _ _ g3.ok h3 (XOk.none X.K X.mg) fun b c4 g4 e4 h4 => ?_
    have gg4 := gg3.trans X.K X.mg g4
    -- what stands at A still stands
    have stay : ∀ c5, Go X.K X.mg { c' with F := F', H := H' } c5 → c5.F A = none ∧ c5.H A = some (.lst xs) ∧ ∀ j, A ∉ c5.fp j := fun c5 g5 => by
      have g6 := g2.trans X.K X.mg g5
      obtain ⟨k1, k2⟩ := g6.fr.keep A fA' (by rw [hA']; simp) nf' (nt_of hA' True.intro)
      refine ⟨k1, k2.trans hA', fun j z => ?_⟩
      rcases g6.orig j A z with ⟨j', hj⟩ | e
      · exact nf' j' hj
      · rw [hA'] at e; cases e
    have keepP : ∀ c5, Go X.K X.mg { c' with F := F', H := H' } c5 → Pi c5.F := fun c5 g5 => it.mono _ _ g5.fr.mono (it.mono _ _ stp.mono p')
    have hlen : ∀ c5, Go X.K X.mg c1 c5 → c5.σ.length = (wipe c.σ vs).length → True := fun _ _ _ => True.intro
    cases b with
    | true =>
      rw [if_pos rfl] at h4 ⊢
      rw [← e4]
      refine runK (e := elt) se g4.ok h4 (XOk.none X.K X.mg) fun v5 c5 d5 g5 e5 r5 h5 => ?_
      have gx := (g3.trans X.K X.mg g4).trans X.K X.mg g5
      have gg5 := gg4.trans X.K X.mg g5
      obtain ⟨s1, s2, s3⟩ := stay c5 gx
      refine ⟨xs, s2, Nat.lt_of_lt_of_le (Nat.lt_of_le_of_lt hx' hlt) it.len, ?_⟩
      have eσ : c5.σ = c3.σ := e5.trans e4
      have gl : Go X.K X.mg c1 { c5 with H := upd c5.H A (.lst (xs ++ [v5])) } := list_go gg5 hA s1 s3 (pl_some s2 True.intro)
      have w5 : wipe c5.σ vs = wipe c.σ vs := by rw [eσ, w3']
      have gw5 : Go X.K X.mg c1 { c5 with H := upd c5.H A (.lst (xs ++ [v5])), σ := wipe c.σ vs, ρ := wipeE c5.ρ vs, fp := fpW c5.fp vs } :=
        wipe_go gl nbor (by rw [← w5, wipe_length]) fun j hj => by rw [← w5, wipe_out hj]
      refine ⟨_, acc ++ [d5], xs ++ [v5], gw5, es.symm, rfl, keepP c5 gx, fun j hj e => wipeE_in hj, upd_same, ?_, s1, fun j z => ?_, by simp; omega, h5⟩
      · exact RepL.app X.K X.mg (ra.mono X.K X.mg (stp.mono.trans gx.fr.mono) _ _) (RepL.one X.K X.mg r5)
      · have z' : A ∈ fpW c5.fp vs j := z
        unfold fpW at z'
        split at z'
        · cases z'
        · exact s3 j z'
    | false =>
      rw [if_neg Bool.false_ne_true] at h4 ⊢
      have gx := g3.trans X.K X.mg g4
      obtain ⟨s1, s2, s3⟩ := stay c4 gx
      have w5 : wipe c4.σ vs = wipe c.σ vs := by rw [e4, w3']
      have gw5 : Go X.K X.mg c1 { c4 with σ := wipe c.σ vs, ρ := wipeE c4.ρ vs, fp := fpW c4.fp vs } :=
        wipe_go gg4 nbor (by rw [← w5, wipe_length]) fun j hj => by rw [← w5, wipe_out hj]
      refine ⟨_, acc, xs, gw5, es.symm, rfl, keepP c4 gx, fun j hj e => wipeE_in hj, s2, ra.mono X.K X.mg (stp.mono.trans gx.fr.mono) _ _, s1, fun j z => ?_, by omega, h4⟩
      have z' : A ∈ fpW c4.fp vs j := z
      unfold fpW at z'
      split at z'
      · cases z'
      · exact s3 j z'
  · have e : i = items.length := by omega
    subst e
    rw [List.drop_length] at h'
    refine .inl ⟨it.stop c'.F c'.H g'.ok.sub p', ?_⟩
    have ls : c1.σ.length = c'.σ.length := by rw [es, wipe_length, e1]
    have gr := rest_go g1 g' ow e1 hn' ls fun j hj => by rw [es, wipe_out hj, e1]
    refine k _ { c' with σ := c1.σ, ρ := restE c'.ρ c1.ρ vs } (.tmp (.lst acc)) gr e1 ⟨[A], ⟨A, xs, rfl, rfl, hA', ra⟩, fun b hb => ?_⟩ h'
    have eb : b = A := by simpa using hb
    subst eb
    refine ⟨fA', by show c'.H b ≠ none; rw [hA']; simp, ?_, nf'⟩
    cases q : c.H b with
    | none => rfl
    | some o => exact absurd hA (g1.fr.grow b (by rw [q]; simp))
theorem pd_lc {k : Nat} {elt tg iter : Expr} {ifs : List Expr} {scope : Scope} {own : List (Str × Nat)} {pos : Pos} {is_ : List Nat} {wi : WI} {wt : WG} {tt : WT} {we : WE} (C : Cc X XE k) (hN : X.N.Nodup) (hi : PdI X XE tg iter wi) (ok : BlkOk X.N X.env.scope scope own)
    (hg : ∀ i, PdG (bx X scope i) tg is_ wt) (ht : ∀ i, PdTs (bx X scope i) E0 ifs tt) (he : ∀ i, PdE (bx X scope i) E0 elt we) (hv : ∀ i ∈ is_, i ∈ own.map (·.2) := by decide) (hs : ∀ x, foldedSetIterable iter X.env x = pure x := by intro _; rfl) :
    PdE X XE (.ListComp elt [⟨tg, iter, ifs, 0⟩] scope pos) (wLc wi wt tt we (own.map (·.2))) := by
  obtain ⟨ti, pi, si⟩ := hi
  obtain ⟨g, pg, sg⟩ := uniG hg
  obtain ⟨t, pt, st⟩ := uniT ht
  obtain ⟨te, pe, se⟩ := uniE he
  exact ⟨_, pe_lc C.calm hN pi ok (fun s H C cl fp => pg ⟨s, H, C, cl, fp⟩) (fun s H C cl fp => pt ⟨s, H, C, cl, fp⟩) (fun s H C cl fp => pe ⟨s, H, C, cl, fp⟩) hs, lc_so (elt := elt) C si sg st se hv⟩
/-- x = [e for ..] -/
theorem pst_setLc {k i : Nat} {y : Str} {py : Pos} {elt tg iter : Expr} {ifs : List Expr} {scope : Scope} {own : List (Str × Nat)} {pos spos : Pos} {is_ : List Nat} {wi : WI} {wt : WG} {tt : WT} {we : WE} (C : Cc X XE k) (hN : X.N.Nodup) (hi : PdI X XE tg iter wi) (ok : BlkOk X.N X.env.scope scope own)
    (hg : ∀ i, PdG (bx X scope i) tg is_ wt) (ht : ∀ i, PdTs (bx X scope i) E0 ifs tt) (he : ∀ i, PdE (bx X scope i) E0 elt we)
    (hsw : swapsWith (.ListComp elt [⟨tg, iter, ifs, 0⟩] scope pos) (some (.Name y py)) spos.line X.env = pure true)
    (hy : X.N[i]? = some y := by rfl) (hyl : X.env.scope.names.lookup y = some .local := by rfl) (hv : ∀ i ∈ is_, i ∈ own.map (·.2) := by decide) (hs : ∀ x, foldedSetIterable iter X.env x = pure x := by intro _; rfl) :
    PdS X XE (.Assign [.Name y py] (.ListComp elt [⟨tg, iter, ifs, 0⟩] scope pos) spos) (wSet i (wLc wi wt tt we (own.map (·.2)))) := by
  obtain ⟨ti, pi, si⟩ := hi
  obtain ⟨g, pg, sg⟩ := uniG hg
  obtain ⟨t, pt, st⟩ := uniT ht
  obtain ⟨te, pe, se⟩ := uniE he
  exact ⟨_, ps_setLc C.calm hN hy hyl hsw pi ok (fun s H C cl fp => pg ⟨s, H, C, cl, fp⟩) (fun s H C cl fp => pt ⟨s, H, C, cl, fp⟩) (fun s H C cl fp => pe ⟨s, H, C, cl, fp⟩) hs, fun c Dp D okc hw P => set_run (lc_so (elt := elt) C si sg st se hv) okc hw P⟩
end
end PL
/-! PL8: defs: their promises over pure data, their bodies, their calls. -/
namespace PL
open PySem PySem.Spec PyProof.Rows L2
variable [HasT]

/-- what a def does, over pure data: arguments (frozen, or lent), what is handed back with the arguments as they are then, what is raised -/
abbrev FS := List Ent → (R → List Ent → Prop) → (Ex → List Ent → Prop) → Prop
def isOwn : Ent → Bool
  | .own _ _ => true
  | _ => false
section
variable (K : PySem.W.Frag) (mg : Str → Option Value)
/-- what is handed back; fp what the lent arguments own then -/
def RF (H F' H' : Hp) (fp : Nat → List Addr) : R → V → Prop
  | .val d, v => Rep K mg F' d v
  | .tmp d, v => ∃ ft, Own K mg F' H' d v ft ∧ ∀ b ∈ ft, F' b = none ∧ H' b ≠ none ∧ H b = none ∧ ∀ i, b ∉ fp i
  | .slot _, _ => False
/-- the arguments behind the call -/
structure CArgs (c : Cfg) (F' H' : Hp) (args args' : List Ent) (fp : Nat → List Addr) : Prop where
  len : args'.length = args.length
  own : ∀ i d, args[i]? = some (.own true d) → ∃ d' v, args'[i]? = some (.own true d') ∧ c.σ[i]? = some (some v) ∧ Own K mg F' H' d' v (fp i) ∧ (∀ b ∈ fp i, F' b = none ∧ H' b ≠ none) ∧ Grw (c.fp i) (fp i) c.H
  disj : ∀ i j b, b ∈ fp i → b ∈ fp j → i = j
def spOf (fs : FS) (n : Nat) : Sp := fun vs H Q E => ∃ (c : Cfg) (args : List Ent) (Qp : R → List Ent → Prop) (Ep : Ex → List Ent → Prop), Ok K mg c ∧ c.H = H ∧ c.σ = vs.map some ∧ c.ρ = args.map some ∧ args.length = n ∧ (∀ e ∈ args, ∀ d, e ≠ .own false d) ∧
  fs args Qp Ep ∧ (∀ x cls d F' H' args' fp, Frm c.fp c.F c.H F' H' → Mono F' H' → TupF F' H' → LamX.Tabs HasT.T H' → CArgs K mg c F' H' args args' fp → ExOk K mg F' H' x cls d → XNew c.H F' fp d → Ep x args' → E cls d H') ∧ ∀ v F' H' r args' fp, Frm c.fp c.F c.H F' H' → Mono F' H' → TupF F' H' → LamX.Tabs HasT.T H' → CArgs K mg c F' H' args args' fp → RF K mg c.H F' H' fp r v → Qp r args' → Q v H'
end
def outA : List Ent → Env → List Ent
  | [], _ => []
  | .val d :: r, ρ => .val d :: outA r ρ.tail
  | .own b d :: r, ρ => (match ρ with
    | some e :: _ => e
    | _ => .own b d) :: outA r ρ.tail
theorem outA_len : ∀ (args : List Ent) (ρ : Env), (outA args ρ).length = args.length
  | [], _ => rfl
  | .val d :: r, ρ => by simp [outA, outA_len r]
  | .own b d :: r, ρ => by simp [outA, outA_len r]
theorem outA_own : ∀ (args : List Ent) (ρ : Env) (i : Nat) (b : Bool) (d : D) (e : Ent), args[i]? = some (.own b d) → ρ[i]? = some (some e) → (outA args ρ)[i]? = some e
  | [], _, _, _, _, _, h, _ => by simp at h
  | .val d :: r, ρ, 0, b, d', e, h, _ => by simp at h
  | .own b d :: r, ρ, 0, b', d', e, h, h' => by
    cases ρ with
    | nil => simp at h'
    | cons x ρ => simp at h'; subst h'; rfl
  | .val d :: r, ρ, i + 1, b, d', e, h, h' => by
    cases ρ with
    | nil => simp at h'
    | cons x ρ => exact outA_own r ρ i b d' e (by simpa using h) (by simpa using h')
  | .own b d :: r, ρ, i + 1, b', d', e, h, h' => by
    cases ρ with
    | nil => simp at h'
    | cons x ρ => exact outA_own r ρ i b' d' e (by simpa using h) (by simpa using h')
def envOf (args : List Ent) (m : Nat) : Env := args.map some ++ List.replicate (m - args.length) none

section
variable {P : Program} {w : World} {K : PySem.W.Frag} {mg : Str → Option Value} {base : Heap}
theorem toFunD {x qual : Str} {st : Stmt} {f : Addr} {fd : FuncData} (F : Fun K x qual st f fd) : FunD K x qual (defArgs st) (defBody st) (defScope st) [] [] f fd := by
  obtain ⟨⟨oc, od, kV, doc, pm, an, cdv, ct, osl, e, lk, hcd⟩, kp⟩ := F
  exact ⟨⟨oc, od, .none, kV, doc, pm, an, cdv, ct, osl, e, lk, hcd, .inl ⟨rfl, rfl⟩, .inl rfl⟩, kp⟩
/-- a body over pure data keeps the def's promise -/
theorem fn_core {X : Cx} {E : XK} {N ps : List Str} {ws : WS} {fs : FS} {t : TS} (so : ∀ (c : Cfg) (Dp : PEnds) (De : Ends), Ok X.K X.mg c → ws Dp c.ρ → POk X.K X.mg c Dp De E → t De c.σ c.H)
    (spec : ∀ args Qp Ep, fs args Qp Ep → args.length = ps.length ∧ ws { nx := fun ρ => Qp (.val .non) (outA args ρ), rt := fun r ρ => Qp r (outA args ρ), ex := fun x ρ => Ep x (outA args ρ) } (envOf args N.length))
    {vs : List V} {H : Hp} {Q : VK} (h : spOf X.K X.mg fs ps.length vs H Q E) : t { nx := fun _ H' => Q .non H', rt := Q } (L2.start N vs) H := by
    obtain ⟨c, args, Qp, Ep, ok, rfl, h1, h2, h3, h4, h5, h6, h7⟩ := h
    obtain ⟨l1, l2⟩ := spec args Qp Ep h5
    have lv : vs.length = args.length := by
      have := ok.len
      rw [h1, h2] at this
      simpa using this.symm
    let c0 : Cfg := { c with σ := L2.start N vs, ρ := envOf args N.length }
    have pre1 : ∀ (i : Nat) (e : Ent), c0.ρ[i]? = some (some e) → c.ρ[i]? = some (some e) := fun i e q => by
      have q' : (envOf args N.length)[i]? = some (some e) := q
      unfold envOf at q'
      by_cases hi : i < args.length
      · rw [List.getElem?_append_left (by simpa using hi)] at q'
        rw [h2]; exact q'
      · rw [List.getElem?_append_right (by simpa using hi), List.getElem?_replicate] at q'
        split at q' <;> cases q'
    have pre2 : ∀ (i : Nat) (e : Ent), c.ρ[i]? = some (some e) → c0.ρ[i]? = some (some e) := fun i e q => by
      show (envOf args N.length)[i]? = _
      unfold envOf
      rw [h2] at q
      have hi : i < (args.map some).length := (List.getElem?_eq_some_iff.mp q).1
      rw [List.getElem?_append_left hi]; exact q
    have preσ : ∀ i : Nat, i < args.length → c0.σ[i]? = c.σ[i]? := fun i hi => by
      show (L2.start N vs)[i]? = _
      unfold L2.start
      rw [h1, List.getElem?_append_left (by simp; omega)]
    have ilt : ∀ (i : Nat) (e : Ent), c.ρ[i]? = some (some e) → i < args.length := fun i e q => by
      rw [h2] at q
      have := (List.getElem?_eq_some_iff.mp q).1
      simpa using this
    have ok0 : Ok X.K X.mg c0 := by
      refine ⟨ok.tabs, ok.sub, ?_, fun i e q => ?_, fun i q => ok.non i fun e z => q e (pre2 i e z), ok.out, ok.disj, ok.tf⟩
      · show (envOf args N.length).length = (L2.start N vs).length
        unfold envOf L2.start
        simp [lv]
      · obtain ⟨v, hv, eo⟩ := ok.slot i e (pre1 i e q)
        exact ⟨v, by rw [preσ i (ilt i e (pre1 i e q))]; exact hv, eo⟩
    have cargs : ∀ c', Go X.K X.mg c0 c' → CArgs X.K X.mg c c'.F c'.H args (outA args c'.ρ) c'.fp := fun c' g => by
      refine ⟨outA_len _ _, fun i d hd => ?_, g.ok.disj⟩
      have hρ : c.ρ[i]? = some (some (.own true d)) := by rw [h2, List.getElem?_map, hd]; rfl
      obtain ⟨d', e1, e2, e3⟩ := g.bor i d (pre2 i _ hρ)
      obtain ⟨v', hv', o⟩ := g.ok.own e1
      refine ⟨d', v', outA_own args c'.ρ i true d _ hd e1, ?_, o, fun b hb => g.ok.out i b hb, e2⟩
      rw [← preσ i (ilt i _ hρ), ← e3]; exact hv'
    have fin : ∀ v c' r, Go X.K X.mg c0 c' → RT X.K X.mg c0 c' r v → Qp r (outA args c'.ρ) → Q v c'.H := fun v c' r g rr q => by
      refine h7 v c'.F c'.H r (outA args c'.ρ) c'.fp g.fr g.ok.sub g.ok.tf g.ok.tabs (cargs c' g) ?_ q
      · cases r with
        | val d => exact rr
        | slot i => exact rr.elim
        | tmp d =>
          obtain ⟨ft, o, hf⟩ := rr
          refine ⟨ft, o, fun b hb => ?_⟩
          obtain ⟨k1, k2, k3, k4⟩ := hf b hb
          refine ⟨k1, k2, ?_, k4⟩
          rcases k3 with ⟨j, hj⟩ | e
          · exfalso
            have : ∃ e, c.ρ[j]? = some (some e) := Classical.byContradiction fun z => by
              have := ok.non j fun e q => z ⟨e, q⟩
              rw [show c0.fp j = c.fp j from rfl, this] at hj; cases hj
            obtain ⟨e, he⟩ := this
            cases e with
            | val d' =>
              obtain ⟨_, _, _, hz⟩ := ok.val he
              rw [show c0.fp j = c.fp j from rfl, hz] at hj; cases hj
            | own bb d' =>
              cases bb with
              | false =>
                have hm : Ent.own false d' ∈ args := by
                  rw [h2] at he
                  rw [List.getElem?_map] at he
                  cases q : args[j]? with
                  | none => rw [q] at he; cases he
                  | some a => rw [q] at he; cases he; exact List.mem_of_getElem? q
                exact h4 _ hm d' rfl
              | true =>
                obtain ⟨d2, _, e2, _⟩ := g.bor j d' (pre2 j _ he)
                exact k4 j (e2.1 b hj)
          · exact e
    refine so c0 _ _ ok0 l2 ⟨fun c' g q => fin .non c' (.val .non) g rfl q, fin, fun _ _ q => q.elim, fun _ _ q => q.elim, fun x cls d c' g o n q => h6 x cls d c'.F c'.H (outA args c'.ρ) c'.fp g.fr g.ok.sub g.ok.tf g.ok.tabs (cargs c' g) o n q⟩
/-- a def keeps its promise, by its body over pure data -/
theorem fn_pdC {x qual : Str} {prm : Arguments} {st : Stmt} {dvs0 : List V} {kws0 : List (Str × V)} {f : Addr} {fd : FuncData} {N ps : List Str} {k : Nat} {ws : WS} {fs : FS} (F : FunD K x qual prm (defBody st) (defScope st) dvs0 kws0 f fd) (S : FnScope N ps (defScope st))
    (body : ∀ (A : Around) (outer : List PySem.Env) (s : Shared) (H : Hp) (E : XK), Cc (cxOf (L2.CX P w) P w K mg base N qual (defScope st) f fd.code A outer s H E) E k → PdSs (cxOf (L2.CX P w) P w K mg base N qual (defScope st) f fd.code A outer s H E) E (defBody st) ws)
    (spec : ∀ args Qp Ep, fs args Qp Ep → args.length = ps.length ∧ ws { nx := fun ρ => Qp (.val .non) (outA args ρ), rt := fun r ρ => Qp r (outA args ρ), ex := fun x ρ => Ep x (outA args ρ) } (envOf args N.length)) :
    FnOk P w K mg base (L2.CX P w) (k + 1) f fd ps (spOf K mg fs ps.length) := by
  obtain ⟨oc, od, dV, kV, doc, pm, an, cdv, ct, osl, rfl, lk, hcd, _, _⟩ := F.ex
  refine fn_of (CX := L2.CX P w) lk hcd S (fun vs H Q E h => ?_) (fun A outer s H vs Q E hr h => ?_)
  · obtain ⟨c, args, Qp, Ep, ok, rfl, h1, h2, h3, _⟩ := h
    have := ok.len
    rw [h1, h2] at this
    simp at this
    omega
  · obtain ⟨t, ht, so⟩ := body A outer s H E
      ⟨rfl, passes_of rfl, fun pins σ H' s' e s'' I q => passes_call (takes_of rfl rfl rfl rfl) (fun _ _ _ _ z => z) pins σ H' s' e s'' I q, takes_of rfl rfl rfl rfl, hr⟩
    exact ⟨t, ht, fn_core so spec h⟩
/-- a def keeps its promise, by its body over pure data -/
theorem fn_pd {x qual : Str} {prm : Arguments} {st : Stmt} {dvs0 : List V} {kws0 : List (Str × V)} {f : Addr} {fd : FuncData} {N ps : List Str} {k : Nat} {ws : WS} {fs : FS} (F : FunD K x qual prm (defBody st) (defScope st) dvs0 kws0 f fd) (S : FnScope N ps (defScope st))
    (body : ∀ (cdv : Value) (A : Around) (outer : List PySem.Env) (s : Shared) (H : Hp) (E : XK), Cc (cxOf (L2.CX P w) P w K mg base N qual (defScope st) f cdv A outer s H E) E k → PdSs (cxOf (L2.CX P w) P w K mg base N qual (defScope st) f cdv A outer s H E) E (defBody st) ws)
    (spec : ∀ args Qp Ep, fs args Qp Ep → args.length = ps.length ∧ ws { nx := fun ρ => Qp (.val .non) (outA args ρ), rt := fun r ρ => Qp r (outA args ρ), ex := fun x ρ => Ep x (outA args ρ) } (envOf args N.length)) :
    FnOk P w K mg base (L2.CX P w) (k + 1) f fd ps (spOf K mg fs ps.length) := by
  exact fn_pdC F S (fun A outer s H E => body fd.code A outer s H E) spec
end

/-! ### calls -/
def argOf (ρ : Env) : R → Option Ent
  | .val d => some (.val d)
  | .tmp _ => none
  | .slot j => match ρ[j]? with
    | some (some (.val d)) => some (.val d)
    | some (some (.own _ d)) => some (.own true d)
    | _ => none
def toArgs (ρ : Env) : List R → (List Ent → Prop) → Prop
  | [], k => k []
  | r :: rs, k => match argOf ρ r with
    | some a => toArgs ρ rs fun as => k (a :: as)
    | none => False
def isSlot (j : Nat) : R → Bool
  | .slot i => i == j
  | _ => false
def anySlot : R → Bool
  | .slot _ => true
  | _ => false
/-- no slot twice -/
def ndS : List R → Bool
  | [] => true
  | .slot j :: rs => !(rs.any (isSlot j)) && ndS rs
  | _ :: rs => ndS rs
def findOwn : List R → List Ent → Nat → Option D
  | .slot i :: rs, .own _ d :: as, j => if i = j then some d else findOwn rs as j
  | _ :: rs, _ :: as, j => findOwn rs as j
  | _, _, _ => none
theorem findOwn_tl {i j : Nat} {rs : List R} (h : i ≠ j) : ∀ {as : List Ent}, findOwn (.slot i :: rs) as j = findOwn rs as.tail j
  | [] => by
    cases rs with
    | nil => rfl
    | cons r rs => cases r <;> rfl
  | .val d :: as => rfl
  | .own _ d :: as => by
    show (if i = j then some d else findOwn rs as j) = _
    rw [if_neg h]; rfl
def backE (rs : List R) (as : List Ent) (j : Nat) : Option Ent → Option Ent
  | some (.own b d) => match findOwn rs as j with
    | some d' => some (.own b d')
    | none => some (.own b d)
  | e => e
def backA (rs : List R) (as : List Ent) (ρ : Env) : Env := match rs.any anySlot with
  | true => ρ.mapIdx (backE rs as)
  | false => ρ
theorem ndS_of : ∀ {rs : List R} {i i' : Nat} {j : Nat}, ndS rs = true → rs[i]? = some (.slot j) → rs[i']? = some (.slot j) → i = i'
  | [], _, _, _, _, h, _ => by simp at h
  | r :: rs, 0, 0, _, _, _, _ => rfl
  | r :: rs, i + 1, i' + 1, j, h, h1, h2 => by
    have hn : ndS rs = true := by
      cases r with
      | slot k => simp [ndS] at h; exact h.2
      | _ => exact h
    exact congrArg Nat.succ (ndS_of (j := j) hn (by simpa using h1) (by simpa using h2))
  | r :: rs, 0, i' + 1, j, h, h1, h2 => by
    simp at h1; subst h1
    simp only [ndS, Bool.and_eq_true, Bool.not_eq_true', List.any_eq_false] at h
    have := h.1 (.slot j) (List.mem_of_getElem? (by simpa using h2))
    simp [isSlot] at this
  | r :: rs, i + 1, 0, j, h, h1, h2 => by
    simp at h2; subst h2
    simp only [ndS, Bool.and_eq_true, Bool.not_eq_true', List.any_eq_false] at h
    have := h.1 (.slot j) (List.mem_of_getElem? (by simpa using h1))
    simp [isSlot] at this
theorem findOwn_some : ∀ {rs : List R} {as : List Ent} {j : Nat} {d : D}, findOwn rs as j = some d → ∃ (i : Nat) (b : Bool), rs[i]? = some (.slot j) ∧ as[i]? = some (.own b d)
  | [], _, _, _, h => by simp [findOwn] at h
  | r :: rs, [], _, _, h => by cases r <;> simp [findOwn] at h
  | r :: rs, a :: as, j, d, h => by
    by_cases hc : ∃ i b d', r = .slot i ∧ a = .own b d'
    · obtain ⟨i, b, d', rfl, rfl⟩ := hc
      unfold findOwn at h
      by_cases e : i = j
      · rw [if_pos e] at h; cases h
        exact ⟨0, b, by rw [e]; rfl, rfl⟩
      · rw [if_neg e] at h
        obtain ⟨i', b', h1, h2⟩ := findOwn_some h
        exact ⟨i' + 1, b', by simpa using h1, by simpa using h2⟩
    · have e : findOwn (r :: rs) (a :: as) j = findOwn rs as j := by
        cases r with
        | slot i =>
          cases a with
          | own b d' => exact absurd ⟨i, b, d', rfl, rfl⟩ hc
          | val d' => rfl
        | _ => rfl
      rw [e] at h
      obtain ⟨i', b', h1, h2⟩ := findOwn_some h
      exact ⟨i' + 1, b', by simpa using h1, by simpa using h2⟩
theorem findOwn_none : ∀ {rs : List R} {as : List Ent} {j i : Nat} {b : Bool} {d : D}, findOwn rs as j = none → rs[i]? = some (.slot j) → as[i]? ≠ some (.own b d)
  | [], _, _, _, _, _, _, h => by simp at h
  | r :: rs, [], _, i, _, _, _, _ => by simp
  | r :: rs, a :: as, j, 0, b, d, h, h1 => by
    intro z
    simp at h1 z
    subst h1 z
    simp [findOwn] at h
  | r :: rs, a :: as, j, i + 1, b, d, h, h1 => by
    intro z
    have h' : findOwn rs as j = none := by
      cases r with
      | slot k =>
        cases a with
        | own b' d' =>
          unfold findOwn at h
          split at h
          · cases h
          · exact h
        | val d' => exact h
      | _ => exact h
    exact findOwn_none h' (by simpa using h1) (by simpa using z)
theorem backA_get {rs : List R} {as : List Ent} {ρ : Env} {j : Nat} : (backA rs as ρ)[j]? = (ρ[j]?).map (backE rs as j) := by
  unfold backA
  split
  · rw [List.getElem?_mapIdx]
  · rename_i h
    have nof : findOwn rs as j = none := by
      cases q : findOwn rs as j with
      | none => rfl
      | some d =>
        obtain ⟨i, b, h1, _⟩ := findOwn_some q
        have := List.any_eq_false.mp h (.slot j) (List.mem_of_getElem? h1)
        simp [anySlot] at this
    cases q : ρ[j]? with
    | none => rfl
    | some e =>
      cases e with
      | none => rfl
      | some e =>
        cases e with
        | val d => rfl
        | own b d => simp [backE, nof]
theorem backA_len {rs : List R} {as : List Ent} {ρ : Env} : (backA rs as ρ).length = ρ.length := by
  unfold backA
  split
  · simp
  · rfl
section
variable {K : PySem.W.Frag} {mg : Str → Option Value}
def ArgRel (K : PySem.W.Frag) (mg : Str → Option Value) (c : Cfg) : R → V → Ent → Prop
  | .val d, v, a => a = .val d ∧ Rep K mg c.F d v
  | .tmp _, _, _ => False
  | .slot j, v, a => c.σ[j]? = some (some v) ∧ ((∃ d, c.ρ[j]? = some (some (.val d)) ∧ a = .val d) ∨ ∃ b d, c.ρ[j]? = some (some (.own b d)) ∧ a = .own true d)
theorem toArgs_of {c : Cfg} : ∀ {rs : List R} {vs : List V} {k : List Ent → Prop}, RRVs K mg c rs vs → toArgs c.ρ rs k → ∃ args, k args ∧ args.length = rs.length ∧ vs.length = rs.length ∧ ∀ (i : Nat) (r : R), rs[i]? = some r → ∃ v a, vs[i]? = some v ∧ args[i]? = some a ∧ ArgRel K mg c r v a
  | [], _, k, r, h => ⟨[], h, rfl, by rw [show _ = [] from r]; rfl, fun i r e => by simp at e⟩
  | r :: rs, _, k, hr, h => by
    obtain ⟨x, t, rfl, h1, h2⟩ := hr
    unfold toArgs at h
    split at h
    next a ha =>
      obtain ⟨args, q, l1, l2, q2⟩ := toArgs_of h2 h
      refine ⟨a :: args, q, by simp [l1], by simp [l2], fun i r' e => ?_⟩
      cases i with
      | zero =>
        simp at e; subst e
        refine ⟨x, a, rfl, rfl, ?_⟩
        cases r with
        | val d => cases ha; exact ⟨rfl, h1⟩
        | tmp d => cases ha
        | slot j =>
          unfold argOf at ha
          simp only at ha
          split at ha
          next d hd => cases ha; exact ⟨h1, .inl ⟨d, hd, rfl⟩⟩
          next b d hd => cases ha; exact ⟨h1, .inr ⟨b, d, hd, rfl⟩⟩
          next => cases ha
      | succ i =>
        obtain ⟨v, a', e1, e2, e3⟩ := q2 i r' (by simpa using e)
        exact ⟨v, a', by simpa using e1, by simpa using e2, e3⟩
    next => exact h.elim
/-- the call itself: from the caller's configuration to the callee's promise, and back -/
theorem call_coreP {fs : FS} {n : Nat} {c : Cfg} {rs : List R} {vs dvs : List V} {dds : List D} {Pp : R → List Ent → Prop} {Xp : Ex → List Ent → Prop} {Q : VK} {E : XK} (ok : Ok K mg c) (hr : RRVs K mg c rs vs) (hd : ∀ F, RepL K mg F dds dvs) (hn : rs.length + dds.length = n)
    (h : toArgs c.ρ rs fun args => ndS rs = true ∧ fs (args ++ dds.map .val) Pp Xp)
    (x : ∀ y cls d c' args', Go K mg c c' → c'.σ = c.σ → ExOk K mg c'.F c'.H y cls d → XNew c.H c'.F c'.fp d → c'.ρ = backA rs args' c.ρ → Xp y args' → E cls d c'.H)
    (k : ∀ v c' r args', Go K mg c c' → c'.σ = c.σ → RR K mg c c' r v → c'.ρ = backA rs args' c.ρ → Pp r args' → Q v c'.H) : spOf K mg fs n (vs ++ dvs) c.H Q E := by
  obtain ⟨args, ⟨nd, hf⟩, la, lv, pw⟩ := toArgs_of hr h
  have ld := (hd c.F).len K mg
  let fpc : Nat → List Addr := fun i => match rs[i]? with
    | some (.slot j) => c.fp j
    | _ => []
  have fpc_slot : ∀ i j : Nat, rs[i]? = some (.slot j) → fpc i = c.fp j := fun i j e => by show (match rs[i]? with | some (.slot j) => c.fp j | _ => []) = _; rw [e]
  have fpc_mem : ∀ i b, b ∈ fpc i → ∃ j, rs[i]? = some (.slot j) ∧ b ∈ c.fp j := fun i b hb => by
    have hb' : b ∈ (match rs[i]? with | some (.slot j) => c.fp j | _ => []) := hb
    split at hb'
    next j e => exact ⟨j, e, hb'⟩
    next => cases hb'
  have getA : ∀ i, i < rs.length → (args ++ dds.map Ent.val)[i]? = args[i]? := fun i hi => List.getElem?_append_left (by omega)
  have getV : ∀ i, i < rs.length → (vs ++ dvs)[i]? = vs[i]? := fun i hi => List.getElem?_append_left (by omega)
  let cc : Cfg := { F := c.F, H := c.H, σ := (vs ++ dvs).map some, ρ := (args ++ dds.map Ent.val).map some, fp := fpc }
  have okc : Ok K mg cc := by
    refine ⟨ok.tabs, ok.sub, by show (List.map some (args ++ dds.map Ent.val)).length = (List.map some (vs ++ dvs)).length; simp [la, lv, ld], fun i e q => ?_, fun i q => ?_, fun i b hb => ?_, fun i j b h1 h2 => ?_, ok.tf⟩
    · have q' : (args ++ dds.map Ent.val)[i]? = some e := by
        have q0 : (List.map some (args ++ dds.map Ent.val))[i]? = some (some e) := q
        rw [List.getElem?_map] at q0
        cases z : (args ++ dds.map Ent.val)[i]? with
        | none => rw [z] at q0; cases q0
        | some a => rw [z] at q0; cases q0; rfl
      by_cases hi : i < rs.length
      · obtain ⟨v, a, e1, e2, e3⟩ := pw i rs[i] (by simp [hi])
        rw [getA i hi, e2] at q'; cases q'
        refine ⟨v, by show (List.map some (vs ++ dvs))[i]? = _; rw [List.getElem?_map, getV i hi, e1]; rfl, ?_⟩
        cases hr' : rs[i] with
        | val d =>
          rw [hr'] at e3
          obtain ⟨rfl, rp⟩ := e3
          refine ⟨rp, ?_⟩
          show (match rs[i]? with | some (.slot j) => c.fp j | _ => []) = []
          rw [show rs[i]? = some (.val d) by simp [hi, hr']]
        | tmp d => rw [hr'] at e3; exact e3.elim
        | slot j =>
          rw [hr'] at e3
          obtain ⟨hv, e3⟩ := e3
          have hs : rs[i]? = some (.slot j) := by simp [hi, hr']
          rcases e3 with ⟨d, hd', rfl⟩ | ⟨b, d, hd', rfl⟩
          · obtain ⟨v', hv', rp, hz⟩ := ok.val hd'
            rw [hv] at hv'; cases hv'
            exact ⟨rp, (fpc_slot i j hs).trans hz⟩
          · obtain ⟨v', hv', o⟩ := ok.own hd'
            rw [hv] at hv'; cases hv'
            show Own K mg c.F c.H d v (fpc i)
            rw [fpc_slot i j hs]; exact o
      · rw [List.getElem?_append_right (by omega), List.getElem?_map] at q'
        cases z : dds[i - args.length]? with
        | none => rw [z] at q'; cases q'
        | some d =>
          rw [z] at q'; cases q'
          obtain ⟨v, hv, rv⟩ := (hd c.F).get K mg z
          refine ⟨v, ?_, rv, ?_⟩
          · show (List.map some (vs ++ dvs))[i]? = _
            rw [List.getElem?_map, List.getElem?_append_right (by omega), show i - vs.length = i - args.length by omega, hv]; rfl
          · show (match rs[i]? with | some (.slot j) => c.fp j | _ => []) = []
            rw [List.getElem?_eq_none (by omega)]
    · show (match rs[i]? with | some (.slot j) => c.fp j | _ => []) = []
      split
      next j hs =>
        have hi := (List.getElem?_eq_some_iff.mp hs).1
        obtain ⟨v, a, e1, e2, e3⟩ := pw i _ hs
        exact absurd (show (List.map some (args ++ dds.map Ent.val))[i]? = some (some a) by rw [List.getElem?_map, getA i hi, e2]; rfl) (q a)
      next => rfl
    · obtain ⟨j, _, hb'⟩ := fpc_mem i b hb
      exact ok.out j b hb'
    · obtain ⟨j1, s1, m1⟩ := fpc_mem i b h1
      obtain ⟨j2, s2, m2⟩ := fpc_mem j b h2
      have := ok.disj j1 j2 b m1 m2
      subst this
      exact ndS_of nd s1 s2
  have key : ∀ (F' H' : Hp) (args' : List Ent) (fpa : Nat → List Addr), Frm cc.fp cc.F cc.H F' H' → Mono F' H' → TupF F' H' → LamX.Tabs HasT.T H' → CArgs K mg cc F' H' (args ++ dds.map Ent.val) args' fpa →
      ∃ fpn : Nat → List Addr, Go K mg c { c with F := F', H := H', ρ := backA rs args' c.ρ, fp := fpn } ∧ ∀ j b, b ∈ fpn j → (∃ i, rs[i]? = some (R.slot j) ∧ b ∈ fpa i) ∨ ((∀ i, rs[i]? ≠ some (R.slot j)) ∧ b ∈ c.fp j) := fun F' H' args' fpa fr sb tf' tb ca => by
    have fr' : Frm c.fp c.F c.H F' H' := ⟨fr.mono, fun a h1 h2 h3 h4 => fr.keep a h1 h2 (fun i hi => by
      obtain ⟨j, _, hb⟩ := fpc_mem i a hi
      exact h3 j hb) h4, fr.grow⟩
    -- what the slots own behind the call
    let fpn : Nat → List Addr := fun j => match rs.findIdx? (isSlot j) with
      | some i => match c.ρ[j]? with
        | some (some (.own _ _)) => fpa i
        | _ => c.fp j
      | none => c.fp j
    have at_of : ∀ (j i : Nat), rs[i]? = some (R.slot j) → rs.findIdx? (isSlot j) = some i := fun j i hi => by
      have il := (List.getElem?_eq_some_iff.mp hi).1
      rw [List.findIdx?_eq_some_iff_getElem]
      refine ⟨il, by rw [List.getElem?_eq_getElem il] at hi; rw [Option.some.inj hi]; simp [isSlot], fun i' hi' => ?_⟩
      intro z
      have : rs[i']? = some (R.slot j) := by
        rw [List.getElem?_eq_getElem (by omega)]
        cases q : rs[i'] with
        | slot k => rw [q] at z; simp [isSlot] at z; rw [z]
        | _ => rw [q] at z; cases z
      have := ndS_of nd this hi
      omega
    have fpn_lent : ∀ (j i : Nat) (b : Bool) (d : D), rs[i]? = some (R.slot j) → c.ρ[j]? = some (some (.own b d)) → fpn j = fpa i := fun j i b d hi hρ => by
      show (match rs.findIdx? (isSlot j) with | some i => (match c.ρ[j]? with | some (some (.own _ _)) => fpa i | _ => c.fp j) | none => c.fp j) = _
      rw [at_of j i hi, hρ]
    have fpn_other : ∀ (j : Nat), (∀ i, rs[i]? ≠ some (R.slot j)) → fpn j = c.fp j := fun j hj => by
      show (match rs.findIdx? (isSlot j) with | some i => (match c.ρ[j]? with | some (some (.own _ _)) => fpa i | _ => c.fp j) | none => c.fp j) = _
      cases q : rs.findIdx? (isSlot j) with
      | none => rfl
      | some i =>
        exfalso
        obtain ⟨il, h1, _⟩ := List.findIdx?_eq_some_iff_getElem.mp q
        refine hj i ?_
        rw [List.getElem?_eq_getElem il]
        cases q' : rs[i] with
        | slot k => rw [q'] at h1; simp [isSlot] at h1; rw [h1]
        | _ => rw [q'] at h1; cases h1
    have fpn_not : ∀ (j : Nat), (∀ b d, c.ρ[j]? ≠ some (some (.own b d))) → fpn j = c.fp j := fun j hj => by
      show (match rs.findIdx? (isSlot j) with | some i => (match c.ρ[j]? with | some (some (.own _ _)) => fpa i | _ => c.fp j) | none => c.fp j) = _
      split
      · split
        next b d z => exact absurd z (hj b d)
        next => rfl
      · rfl
    -- a slot that owns: lent, or as it was
    have own : ∀ (j : Nat) (b : Bool) (d : D), c.ρ[j]? = some (some (.own b d)) → ∃ d' v', backE rs args' j (some (.own b d)) = some (.own b d') ∧ c.σ[j]? = some (some v') ∧ Own K mg F' H' d' v' (fpn j) ∧ (∀ a ∈ fpn j, F' a = none ∧ H' a ≠ none) ∧ Grw (c.fp j) (fpn j) c.H := fun j b d hρ => by
      obtain ⟨v0, hv0, o0⟩ := ok.own hρ
      by_cases hs : ∃ i : Nat, rs[i]? = some (R.slot j)
      · obtain ⟨i, hi⟩ := hs
        have il := (List.getElem?_eq_some_iff.mp hi).1
        obtain ⟨v1, a, e1, e2, e3⟩ := pw i _ hi
        obtain ⟨hv1, e3⟩ := e3
        rw [hv0] at hv1; cases hv1
        rcases e3 with ⟨d', h', _⟩ | ⟨b', d', h', rfl⟩
        · rw [hρ] at h'; cases h'
        · rw [hρ] at h'; cases h'
          obtain ⟨d2, v2, f1, f2, f3, f4, f5⟩ := ca.own i d (by rw [getA i il]; exact e2)
          have f2' : (List.map some (vs ++ dvs))[i]? = some (some v2) := f2
          rw [List.getElem?_map, getV i il, e1] at f2'
          cases f2'
          have ef : findOwn rs args' j = some d2 := by
            cases q' : findOwn rs args' j with
            | none => exact absurd f1 (findOwn_none q' hi)
            | some d3 =>
              obtain ⟨i', b', s1, s2⟩ := findOwn_some q'
              have := ndS_of nd hi s1
              subst this
              rw [f1] at s2; cases s2; rfl
          refine ⟨d2, v0, by simp [backE, ef], hv0, ?_, ?_, ?_⟩
          · rw [fpn_lent j i b d hi hρ]; exact f3
          · rw [fpn_lent j i b d hi hρ]; exact f4
          · rw [fpn_lent j i b d hi hρ, ← fpc_slot i j hi]; exact f5
      · have ef : findOwn rs args' j = none := by
          cases q' : findOwn rs args' j with
          | none => rfl
          | some d3 =>
            obtain ⟨i', b', s1, _⟩ := findOwn_some q'
            exact absurd ⟨i', s1⟩ hs
        have en := fpn_other j fun i z => hs ⟨i, z⟩
        have kp : ∀ a ∈ c.fp j, F' a = none ∧ H' a = c.H a := fun a ha => by
          obtain ⟨o1, o2⟩ := ok.out j a ha
          obtain ⟨u0, hu0, pu0⟩ := own_pl o0 a ha
          exact fr.keep a o1 o2 (fun i hi => by
            obtain ⟨j', s, hb⟩ := fpc_mem i a hi
            have := ok.disj j j' a ha hb
            subst this
            exact hs ⟨i, s⟩) (nt_of hu0 pu0)
        refine ⟨d, v0, by simp [backE, ef], hv0, ?_, ?_, ?_⟩
        · rw [en]; exact o0.frame K mg fr.mono fun a ha => (kp a ha).2
        · rw [en]; exact fun a ha => ⟨(kp a ha).1, by rw [(kp a ha).2]; exact (ok.out j a ha).2⟩
        · rw [en]; exact Grw.refl _ _
    have slotOwn : ∀ j b, b ∈ fpn j → ∃ bb d, c.ρ[j]? = some (some (.own bb d)) := fun j b hb => Classical.byContradiction fun z => by
      rw [fpn_not j fun bb d q => z ⟨bb, d, q⟩] at hb
      have : ∃ e, c.ρ[j]? = some (some e) := Classical.byContradiction fun z => by
        have := ok.non j fun e q => z ⟨e, q⟩
        rw [this] at hb; cases hb
      obtain ⟨e, he⟩ := this
      cases e with
      | val d =>
        obtain ⟨_, _, _, hz⟩ := ok.val he
        rw [hz] at hb; cases hb
      | own b' d => exact z ⟨b', d, he⟩
    have lentOr : ∀ j b, b ∈ fpn j → (∃ i, rs[i]? = some (R.slot j) ∧ b ∈ fpa i) ∨ ((∀ i, rs[i]? ≠ some (R.slot j)) ∧ b ∈ c.fp j) := fun j b hb => by
      obtain ⟨bb, d, hρ⟩ := slotOwn j b hb
      by_cases hs : ∃ i : Nat, rs[i]? = some (R.slot j)
      · obtain ⟨i, hi⟩ := hs
        exact .inl ⟨i, hi, by rw [← fpn_lent j i bb d hi hρ]; exact hb⟩
      · have hs' : ∀ i, rs[i]? ≠ some (R.slot j) := fun i z => hs ⟨i, z⟩
        exact .inr ⟨hs', by rw [← fpn_other j hs']; exact hb⟩
    have fpn_grw : ∀ j, Grw (c.fp j) (fpn j) c.H := fun j => by
      by_cases hz : ∃ bb d, c.ρ[j]? = some (some (.own bb d))
      · obtain ⟨bb, d, hρ⟩ := hz
        obtain ⟨_, _, _, _, _, _, g⟩ := own j bb d hρ
        exact g
      · rw [fpn_not j fun bb d q => hz ⟨bb, d, q⟩]; exact Grw.refl _ _
    have g : Go K mg c { c with F := F', H := H', ρ := backA rs args' c.ρ, fp := fpn } := by
      refine ⟨⟨tb, sb, by rw [backA_len]; exact ok.len, fun j e q' => ?_, fun j q' => ?_, fun j b hb => ?_, fun j j' b h1 h2 => ?_, tf'⟩, fr', fun j b hb => ?_, fun j d hρ => ?_⟩
      · have q2 : (c.ρ[j]?).map (backE rs args' j) = some (some e) := by rw [← backA_get]; exact q'
        cases z : c.ρ[j]? with
        | none => rw [z] at q2; cases q2
        | some y =>
          rw [z] at q2
          cases y with
          | none => cases q2
          | some y =>
            cases y with
            | val d =>
              cases q2
              obtain ⟨v', hv', rp, hz⟩ := ok.val z
              exact ⟨v', hv', rp.mono K mg fr.mono _ _, (fpn_not j fun bb dd q => by rw [z] at q; cases q).trans hz⟩
            | own b d =>
              obtain ⟨d', v', b1, b2, b3, b4⟩ := own j b d z
              have : e = .own b d' := by
                have q3 : backE rs args' j (some (.own b d)) = some e := Option.some.inj q2
                rw [b1] at q3; exact (Option.some.inj q3).symm
              subst this
              exact ⟨v', b2, b3⟩
      · show fpn j = []
        rw [fpn_not j fun b d z => by
          obtain ⟨d', v', b1, _⟩ := own j b d z
          exact q' (.own b d') (by show (backA rs args' c.ρ)[j]? = _; rw [backA_get, z]; exact congrArg some b1)]
        refine ok.non j fun e z => ?_
        cases e with
        | val d => exact q' (.val d) (by show (backA rs args' c.ρ)[j]? = _; rw [backA_get, z]; rfl)
        | own b d =>
          obtain ⟨d', v', b1, _⟩ := own j b d z
          exact q' (.own b d') (by show (backA rs args' c.ρ)[j]? = _; rw [backA_get, z]; exact congrArg some b1)
      · obtain ⟨bb, d, hρ⟩ := slotOwn j b hb
        obtain ⟨d', v', _, _, _, b4, _⟩ := own j bb d hρ
        exact b4 b hb
      · rcases lentOr j b h1 with ⟨i, hi, m1⟩ | ⟨n1, m1⟩
        · rcases lentOr j' b h2 with ⟨i', hi', m2⟩ | ⟨n2, m2⟩
          · have := ca.disj i i' b m1 m2
            subst this
            rw [hi] at hi'; cases hi'; rfl
          · rcases (fpn_grw j).2 b h1 with q | q
            · exact ok.disj j j' b q m2
            · exact absurd q (ok.out j' b m2).2
        · rcases (fpn_grw j').2 b h2 with q | q
          · exact ok.disj j j' b m1 q
          · exact absurd q (ok.out j b m1).2
      · rcases (fpn_grw j).2 b hb with q | q
        · exact .inl ⟨j, q⟩
        · exact .inr q
      · obtain ⟨d', v', b1, _⟩ := own j true d hρ
        exact ⟨d', by show (backA rs args' c.ρ)[j]? = _; rw [backA_get, hρ]; exact congrArg some b1, fpn_grw j, rfl⟩
    exact ⟨fpn, g, lentOr⟩
  refine ⟨cc, args ++ dds.map Ent.val, _, Xp, okc, rfl, rfl, rfl, by simp; omega, fun e he d => ?_, hf, fun y cls dd F' H' args' fpa fr sb tf' tb ca eo xn q => ?_, fun v F' H' r args' fpa fr sb tf' tb ca rf q => ?_⟩
  · rcases List.mem_append.mp he with he | he
    · obtain ⟨i, hi, rfl⟩ := List.mem_iff_getElem.mp he
      obtain ⟨v, a, e1, e2, e3⟩ := pw i rs[i] (by simp [show i < rs.length by omega])
      have e2' : args[i] = a := by
        rw [List.getElem?_eq_getElem hi] at e2
        exact Option.some.inj e2
      rw [e2']
      cases hr' : rs[i]'(by omega) with
      | val d' => rw [hr'] at e3; rw [e3.1]; intro z; cases z
      | tmp d' => rw [hr'] at e3; exact e3.elim
      | slot j =>
        rw [hr'] at e3
        rcases e3.2 with ⟨d', _, rfl⟩ | ⟨b, d', _, rfl⟩ <;> (intro z; cases z)
    · obtain ⟨d', _, rfl⟩ := List.mem_map.mp he
      intro z; cases z
  · obtain ⟨fpn, g, lo⟩ := key F' H' args' fpa fr sb tf' tb ca
    refine x y cls dd { c with F := F', H := H', ρ := backA rs args' c.ρ, fp := fpn } args' g rfl eo (fun b e => ?_) rfl q
    obtain ⟨n1, n2, n3⟩ := xn b e
    refine ⟨n1, n2, fun j hj => ?_⟩
    rcases lo j b hj with ⟨i, _, m1⟩ | ⟨_, m1⟩
    · exact n3 i m1
    · exact (ok.out j b m1).2 n1
  · obtain ⟨fpn, g, lentOr⟩ := key F' H' args' fpa fr sb tf' tb ca
    refine k v { c with F := F', H := H', ρ := backA rs args' c.ρ, fp := fpn } r args' g rfl ?_ rfl q
    cases r with
    | val d => exact rf
    | slot i => exact rf.elim
    | tmp d =>
      obtain ⟨ft, o, hf'⟩ := rf
      refine ⟨ft, o, fun b hb => ?_⟩
      obtain ⟨k1, k2, k3, k4⟩ := hf' b hb
      refine ⟨k1, k2, k3, fun j hj => ?_⟩
      rcases lentOr j b hj with ⟨i, _, m1⟩ | ⟨_, m1⟩
      · exact k4 i m1
      · exact (ok.out j b m1).2 k3
theorem call_core {fs : FS} {n : Nat} {c : Cfg} {rs : List R} {vs dvs : List V} {dds : List D} {Qp : R → Env → Prop} {Ep : Ex → Env → Prop} {Q : VK} {E : XK} (ok : Ok K mg c) (hr : RRVs K mg c rs vs) (hd : ∀ F, RepL K mg F dds dvs) (hn : rs.length + dds.length = n)
    (h : toArgs c.ρ rs fun args => ndS rs = true ∧ fs (args ++ dds.map .val) (fun r args' => Qp r (backA rs args' c.ρ)) (fun y args' => Ep y (backA rs args' c.ρ))) (x : XOk K mg c Ep E)
    (k : ∀ v c' r, Go K mg c c' → c'.σ = c.σ → RR K mg c c' r v → Qp r c'.ρ → Q v c'.H) : spOf K mg fs n (vs ++ dvs) c.H Q E :=
  call_coreP ok hr hd hn h (fun y cls d c' args' g e o n eρ q => x y cls d c' g e o n (by rw [eρ]; exact q)) fun v c' r args' g e rr eρ q => k v c' r g e rr (by rw [eρ]; exact q)
end
end PL
/-! PL9: calls of defs and methods, fields, instances, operators of own classes, lists' methods. -/
namespace PL
open PySem PySem.Spec PyProof.Rows L2
variable [HasT]

/-- f(..): dds the defaults -/
def wCallF (fs : FS) (dds : List D) (wr : WR) : WE := fun ρ Q Ep => wr ρ (fun rs ρ' => toArgs ρ' rs fun args => ndS rs = true ∧ fs (args ++ dds.map .val) (fun r args' => Q r (backA rs args' ρ')) (fun y args' => Ep y (backA rs args' ρ'))) Ep
def toV : R → (R → Prop) → Prop
  | .tmp d, k => frz d (k (.val d))
  | r, k => k r
/-- o.m(..) -/
def wMeth (cn : Str) (m : Str) (fs : FS) (dds : List D) (wo : WE) (wr : WR) : WE := fun ρ Q Ep => wV wo ρ (fun r0 ρ0 => pk1 ρ0 r0 fun d0 => (match d0 with
  | .obj c fn _ => c = cn ∧ fn.contains m = false
  | _ => False) ∧ wr ρ0 (fun rs ρ' => toArgs ρ' (r0 :: rs) fun args => ndS (r0 :: rs) = true ∧ fs (args ++ dds.map .val) (fun r args' => Q r (backA (r0 :: rs) args' ρ')) (fun y args' => Ep y (backA (r0 :: rs) args' ρ'))) Ep) Ep
/-- C(..) -/
def wMake (cn : Str) (fs : FS) (dds : List D) (wr : WR) : WE := fun ρ Q Ep => wr ρ (fun rs ρ' => toArgs ρ' rs fun args => ndS rs = true ∧ fs (.own true (.obj cn [] []) :: (args ++ dds.map .val)) (fun r args' => match r, args' with
  | .val .non, .own true d :: rest => frz d (Q (.val d) (backA rs rest ρ'))
  | _, _ => False) (fun y args' => Ep y (backA rs args'.tail ρ'))) Ep
def fldD : List Str → List D → Str → Option D
  | f :: fs, d :: ds, g => if g = f then some d else fldD fs ds g
  | _, _, _ => none
/-- is what came frozen? -/
def frzR (ρ : Env) : R → Bool
  | .val _ => true
  | .slot i => match ρ[i]? with
    | some (some (.val _)) => true
    | _ => false
  | .tmp _ => false
/-- a field that is read; a box is read of frozen objects alone -/
def fldQ (b : Bool) (x : D) (k : D → Prop) : Prop := if isBx x = true then b = true ∧ k (unB x) else k x
def wFld (cn f : Str) (w : WE) : WE := fun ρ Q Ep => wV w ρ (fun r ρ' => pk1 ρ' r fun d => match d with
  | .obj c fs ds => c = cn ∧ match fldD fs ds f with
    | some x => fldQ (frzR ρ' r) x fun y => Q (.val y) ρ'
    | none => False
  | _ => False) Ep
def putN : List Str → Str → List Str
  | [], f => [f]
  | g :: r, f => if g = f then f :: r else g :: putN r f
def putD : List Str → List D → Str → D → List D
  | g :: r, x :: ds, f, d => if g = f then d :: ds else x :: putD r ds f d
  | _, _, _, d => [d]
/-- slot i's object: o.f = e -/
def wSetF (i : Nat) (cn f : Str) (w : WE) : WS := fun Dp ρ => wK w ρ (fun d ρ' => match ρ'[i]? with
  | some (some (.own b (.obj c fs ds))) => c = cn ∧ fs.length < 1000 ∧ isBx d = false ∧ Dp.nx (ρ'.set i (some (.own b (.obj c (putN fs f) (putD fs ds f d)))))
  | _ => False) Dp.ex
section
variable {K : PySem.W.Frag} {mg : Str → Option Value}
theorem fld_rep {F : Hp} {f : Str} {d : D} : ∀ {fs : List Str} {ds : List D} {gs : List (Str × V)}, gs.map (·.1) = fs → RepL K mg F ds (gs.map (·.2)) → fldD fs ds f = some d → ∃ v, gs.lookup f = some v ∧ Rep K mg F d v
  | [], _, _, _, _, h => by cases h
  | g :: fs, [], _, _, _, h => by cases h
  | g :: fs, x :: ds, [], e, _, _ => by cases e
  | g :: fs, x :: ds, (a, v) :: gs, e, r, h => by
    simp only [List.map_cons, List.cons.injEq] at e
    obtain ⟨rfl, e⟩ := e
    obtain ⟨y, t, e2, r1, r2⟩ := r
    simp only [List.map_cons, List.cons.injEq] at e2
    obtain ⟨rfl, rfl⟩ := e2
    unfold fldD at h
    by_cases hf : f = a
    · rw [if_pos hf] at h; cases h
      exact ⟨v, by simp [List.lookup, hf], r1⟩
    · rw [if_neg hf] at h
      obtain ⟨u, hu, ru⟩ := fld_rep e r2 h
      refine ⟨u, ?_, ru⟩
      have : (f == a) = false := by simpa using hf
      simp [List.lookup, this, hu]
theorem lookup_no {m : Str} : ∀ {gs : List (Str × V)}, (gs.map (·.1)).contains m = false → gs.lookup m = none
  | [], _ => rfl
  | (a, v) :: gs, h => by
    simp only [List.map_cons, List.contains_cons, Bool.or_eq_false_iff] at h
    simp [List.lookup, h.1, lookup_no h.2]
theorem put_rep {F : Hp} {f : Str} {d : D} {v : V} (rv : Rep K mg F d v) : ∀ {fs : List Str} {ds : List D} {gs : List (Str × V)}, gs.map (·.1) = fs → RepL K mg F ds (gs.map (·.2)) → (putF f v gs).map (·.1) = putN fs f ∧ RepL K mg F (putD fs ds f d) ((putF f v gs).map (·.2))
  | [], ds, [], e, r => by
    cases ds with
    | nil => exact ⟨rfl, RepL.one K mg rv⟩
    | cons => obtain ⟨y, t, e2, _⟩ := r; cases e2
  | [], _, _ :: _, e, _ => by cases e
  | g :: fs, _, [], e, _ => by cases e
  | g :: fs, [], (a, u) :: gs, e, r => by cases (show _ = [] from r)
  | g :: fs, x :: ds, (a, u) :: gs, e, r => by
    simp only [List.map_cons, List.cons.injEq] at e
    obtain ⟨rfl, e⟩ := e
    obtain ⟨y, t, e2, r1, r2⟩ := r
    simp only [List.map_cons, List.cons.injEq] at e2
    obtain ⟨rfl, rfl⟩ := e2
    by_cases hf : a = f
    · subst hf
      have e1 : putF a v ((a, u) :: gs) = (a, v) :: gs := by show (if a = a then _ else _) = _; rw [if_pos rfl]
      rw [e1]
      simp only [putN, putD, if_true]
      exact ⟨by simp [e], RepL.cons K mg rv r2⟩
    · have e1 : putF f v ((a, u) :: gs) = (a, u) :: putF f v gs := by show (if a = f then _ else _) = _; rw [if_neg hf]
      rw [e1]
      simp only [putN, putD, if_neg hf]
      obtain ⟨i1, i2⟩ := put_rep rv e r2
      exact ⟨by simp [i1], RepL.cons K mg r1 i2⟩
theorem fld_box {F H : Hp} {f : Str} {d : D} : ∀ {fs : List Str} {ds : List D} {gs : List (Str × V)} {ft : List Addr}, gs.map (·.1) = fs → BoxL K mg F H ds (gs.map (·.2)) ft → fldD fs ds f = some d → isBx d = false → ∃ v, gs.lookup f = some v ∧ Rep K mg F d v
  | [], _, _, _, _, _, h, _ => by cases h
  | g :: fs, [], _, _, _, _, h, _ => by cases h
  | g :: fs, x :: ds, [], _, e, _, _, _ => by cases e
  | g :: fs, x :: ds, (a, v) :: gs, ft, e, r, h, hb => by
    simp only [List.map_cons, List.cons.injEq] at e
    obtain ⟨rfl, e⟩ := e
    obtain ⟨y, t, e2, r1⟩ := r
    simp only [List.map_cons, List.cons.injEq] at e2
    obtain ⟨rfl, rfl⟩ := e2
    have rest : ∃ f2, BoxL K mg F H ds (gs.map (·.2)) f2 := by
      by_cases hx : isBx x = true
      · rw [if_pos hx] at r1
        obtain ⟨_, f2, _, _, r2⟩ := r1
        exact ⟨f2, r2⟩
      · rw [if_neg hx] at r1
        exact ⟨ft, r1.2⟩
    unfold fldD at h
    by_cases hf : f = a
    · rw [if_pos hf] at h; cases h
      rw [if_neg (by rw [hb]; simp)] at r1
      exact ⟨v, by simp [List.lookup, hf], r1.1⟩
    · rw [if_neg hf] at h
      obtain ⟨f2, r2⟩ := rest
      obtain ⟨u, hu, ru⟩ := fld_box e r2 h hb
      refine ⟨u, ?_, ru⟩
      have : (f == a) = false := by simpa using hf
      simp [List.lookup, this, hu]
/-- an own object's field is stored to: data, or a new box -/
theorem put_box {F H : Hp} {f : Str} {d : D} {v : V} {f0 : List Addr} (rv : BoxL K mg F H [d] [v] f0) : ∀ {fs : List Str} {ds : List D} {gs : List (Str × V)} {ft : List Addr}, gs.map (·.1) = fs → BoxL K mg F H ds (gs.map (·.2)) ft → ∃ f2 g, BoxL K mg F H (putD fs ds f d) ((putF f v gs).map (·.2)) f2 ∧ (putF f v gs).map (·.1) = putN fs f ∧ (f2 ++ g).Perm (f0 ++ ft)
  | [], ds, [], ft, e, r => by
    cases ds with
    | nil =>
      obtain ⟨_, rfl⟩ := r
      exact ⟨f0, [], rv, rfl, .refl _⟩
    | cons => obtain ⟨y, t, e2, _⟩ := r; cases e2
  | [], _, _ :: _, _, e, _ => by cases e
  | g :: fs, _, [], _, e, _ => by cases e
  | g :: fs, [], (a, u) :: gs, _, e, r => by cases (show _ = [] from r.1)
  | g :: fs, x :: ds, (a, u) :: gs, ft, e, r => by
    simp only [List.map_cons, List.cons.injEq] at e
    obtain ⟨rfl, e⟩ := e
    obtain ⟨y, t, e2, r1⟩ := r
    simp only [List.map_cons, List.cons.injEq] at e2
    obtain ⟨rfl, rfl⟩ := e2
    by_cases hf : a = f
    · subst hf
      have e1 : putF a v ((a, u) :: gs) = (a, v) :: gs := by show (if a = a then _ else _) = _; rw [if_pos rfl]
      rw [e1]
      simp only [putN, putD, if_true]
      obtain ⟨z, w, ez, rz⟩ := rv
      simp only [List.cons.injEq] at ez
      obtain ⟨rfl, rfl⟩ := ez
      have joined : ∀ f3, BoxL K mg F H ds (gs.map (·.2)) f3 → BoxL K mg F H (d :: ds) (v :: gs.map (·.2)) (f0 ++ f3) := fun f3 q => by
        refine ⟨v, _, rfl, ?_⟩
        by_cases hd : isBx d = true
        · rw [if_pos hd] at rz ⊢
          obtain ⟨a0, f4, rfl, o1, _, rfl⟩ := rz
          exact ⟨a0, f3, rfl, o1, q⟩
        · rw [if_neg hd] at rz ⊢
          obtain ⟨r0, _, rfl⟩ := rz
          exact ⟨r0, q⟩
      by_cases hx : isBx x = true
      · rw [if_pos hx] at r1
        obtain ⟨a1, f2, rfl, _, r2⟩ := r1
        refine ⟨f0 ++ f2, [a1], joined f2 r2, by simp [e], ?_⟩
        rw [List.append_assoc]
        exact List.Perm.append_left f0 (List.perm_append_comm (l₁ := f2) (l₂ := [a1]))
      · rw [if_neg hx] at r1
        exact ⟨f0 ++ ft, [], joined ft r1.2, by simp [e], by simp⟩
    · have e1 : putF f v ((a, u) :: gs) = (a, u) :: putF f v gs := by show (if a = f then _ else _) = _; rw [if_neg hf]
      rw [e1]
      simp only [putN, putD, if_neg hf]
      by_cases hx : isBx x = true
      · rw [if_pos hx] at r1
        obtain ⟨a1, f2, rfl, o1, r2⟩ := r1
        obtain ⟨f3, g3, i1, i2, i3⟩ := put_box rv e r2
        refine ⟨a1 :: f3, g3, ⟨u, _, rfl, by rw [if_pos hx]; exact ⟨a1, f3, rfl, o1, i1⟩⟩, by simp [i2], ?_⟩
        exact (List.Perm.cons a1 i3).trans List.perm_middle.symm
      · rw [if_neg hx] at r1
        obtain ⟨f3, g3, i1, i2, i3⟩ := put_box rv e r1.2
        exact ⟨f3, g3, ⟨u, _, rfl, by rw [if_neg hx]; exact ⟨r1.1, i1⟩⟩, by simp [i2], i3⟩
theorem See.obj {F H : Hp} {c : Str} {fs : List Str} {ds : List D} {v : V} (h : See K mg F H (.obj c fs ds) v) (s : Mono F H) : ∃ a C dx gs, v = .ref a ∧ mg c = some (.ref C) ∧ H a = some (.ins C dx gs) ∧ gs.map (·.1) = fs := by
  rcases h with ⟨a, C, dx, gs, e, h0, h1, h2, h3⟩ | ⟨ft, a, C, dx, gs, f2, g, e, _, _, h0, h1, h2, h3⟩
  · exact ⟨a, C, dx, gs, e, h0, s.ins h1, h2⟩
  · exact ⟨a, C, dx, gs, e, h0, h1, h2⟩
theorem unB_rep {F : Hp} {d : D} {v : V} (h : Rep K mg F d v) : Rep K mg F (unB d) v := by
  cases d <;> exact h
theorem frzR_rep {c : Cfg} {r : R} {v : V} {d : D} (rr : RRV K mg c r v) (ok : Ok K mg c) (e : peek c.ρ r = some d) (h : frzR c.ρ r = true) : Rep K mg c.F d v := by
  cases r with
  | val d' => cases e; exact rr
  | tmp d' => cases h
  | slot i =>
    unfold frzR at h
    simp only at h
    split at h
    next d' hd =>
      have e' : peek c.ρ (.slot i) = some d' := by unfold peek; simp only [hd]; rfl
      rw [e'] at e; cases e
      obtain ⟨v', hv', rp, _⟩ := ok.val hd
      have hr : c.σ[i]? = some (some v) := rr
      rw [hr] at hv'; cases hv'
      exact rp
    next => cases h
end
section
variable {X : Cx} {XE : XK} {k : Nat}
theorem pd_call {j : Nat} {x : Str} {f : Addr} {fd : FuncData} {ps : List Str} {p pos : Pos} {e : Expr} {es : List Expr} {fs : FS} {dds : List D} {dvs : List V} {ds : List Value} {w : WR} (C : Cc X XE k) (F : FnOk X.prog X.w X.K X.mg X.base (L2.CX X.prog X.w) j f fd ps (spOf X.K X.mg fs ps.length)) (hj : j ≤ k)
    (hm : X.mg x = some (.ref f)) (hk : PySem.W.keepIn X.K (.ref f) = true) (hb : Binds X.K fd ps ds) (hd : Vals dvs ds) (hD : ∀ F, RepL X.K X.mg F dds dvs) (ha : PdV X XE (e :: es) w) (hl : (e :: es).length + dds.length = ps.length := by rfl)
    (gl : Gl X x := by rfl) (hdb : (x == ("__debug__" : Str)) = false := by decide) (he : starEach (e :: es) X.env = (false, eval e X.env) :: starEach es X.env := by rfl) (hpl : (backTo pos (starEach es X.env)).any (·.1) = false := by rfl) :
    PdE X XE (.Call (.Name x p) (e :: es) [] pos) (wCallF fs dds w) := by
  obtain ⟨t, pa, s⟩ := ha
  refine ⟨_, pe_call (E := XE) F (C.room.mono hj) gl hm hk hb hd C.pas pa hdb he hpl, fun c Qp Ep Q ok hw x k => ?_⟩
  refine s c _ Ep _ ok hw x fun vs c1 rs g1 e1 r1 l1 h1 => ?_
  exact call_core g1.ok r1 hD (by rw [l1]; exact hl) h1 (x.go X.K X.mg g1 e1) fun v c2 r g2 e2 rr q => k v c2 r (g1.trans X.K X.mg g2) (e2.trans e1) (rr_go g1 rr) q
/-- o.m(e, ..) -/
theorem meth_run {cn m : Str} {o : Expr} {es : List Expr} {Cl : Addr} {fs : FS} {n : Nat} {dds : List D} {dvs : List V} {wo : WE} {w : WR} {ta : TE} {t : TA} (hC : X.mg cn = some (.ref Cl)) (hD : ∀ F, RepL X.K X.mg F dds dvs) (so : SoE X XE ta wo) (hl : es.length + 1 + dds.length = n)
    (s : ∀ (c : Cfg) (Qp : List R → Env → Prop) (Ep : Ex → Env → Prop) (Q : List V → Hp → Prop), Ok X.K X.mg c → w c.ρ Qp Ep → XOk X.K X.mg c Ep XE → (∀ vs c' rs, Go X.K X.mg c c' → c'.σ = c.σ → RRVs X.K X.mg c' rs vs → rs.length = es.length → Qp rs c'.ρ → Q vs c'.H) → t c.σ c.H Q) :
    SoE X XE (tMeth Cl m (spOf X.K X.mg fs n) dvs XE ta t) (wMeth cn m fs dds wo w) := by
  intro c Qp Ep Q ok hw x k
  refine runV (e := o) so ok hw x fun v0 c0 r0 g0 e0 rr0 h0 => ?_
  obtain ⟨d0, hd0, h0, hw2⟩ := pk1_of h0
  have see := rr0.see g0.ok hd0
  cases d0 with
  | obj cc fn dd =>
    obtain ⟨a, C', dx, gs, rfl, hc, ha, hg⟩ := see.obj g0.ok.sub
    obtain ⟨rfl, hno⟩ := h0
    rw [hC] at hc; cases hc
    refine ⟨a, dx, gs, rfl, ha, lookup_no (by rw [hg]; exact hno), ?_⟩
    rw [← e0]
    refine s c0 _ Ep _ g0.ok hw2 (x.go X.K X.mg g0 e0) fun vs c1 rs g1 e1 r1 l1 h1 => ?_
    have g01 := g0.trans X.K X.mg g1
    exact call_core (rs := r0 :: rs) (vs := V.ref a :: vs) g1.ok ⟨V.ref a, vs, rfl, rr0.go g1 e1, r1⟩ hD (by rw [List.length_cons, l1]; omega) h1 (x.go X.K X.mg g01 (e1.trans e0)) fun v c2 r g2 e2 rr q => k v c2 r (g01.trans X.K X.mg g2) (e2.trans (e1.trans e0)) (rr_go g01 rr) q
  | _ => exact h0.elim
theorem pd_meth {j : Nat} {cn m : Str} {o e : Expr} {es : List Expr} {apos pos : Pos} {Cl f : Addr} {fd : FuncData} {ps : List Str} {fs : FS} {dds : List D} {dvs : List V} {ds : List Value} {wo : WE} {w : WR} {pl : Sem Bool} (C : Cc X XE k) (hC : X.mg cn = some (.ref Cl)) (cl : Cls X.K Cl) (hm : Meth X.K Cl m f)
    (F : FnOk X.prog X.w X.K X.mg X.base (L2.CX X.prog X.w) j f fd ps (spOf X.K X.mg fs ps.length)) (hj : j ≤ k) (hb : Binds X.K fd ps ds) (hd : Vals dvs ds) (hD : ∀ F, RepL X.K X.mg F dds dvs) (ho : PdE X XE o wo) (ha : PdV X XE (e :: es) w) (hl : (e :: es).length + 1 + dds.length = ps.length := by rfl)
    (hst : starEach (e :: es) X.env = (false, eval e X.env) :: starEach es X.env := by rfl) (hpl : (backTo pos (starEach es X.env)).any (·.1) = false := by rfl)
    (ht : eval (.Call (.Attribute o m apos) (e :: es) [] pos) X.env = (do
      let ov ← eval o X.env
      standAt apos.atName
      let (f, first) ← holding [ov] (getMethod ov m pl)
      callWith pos f first (backTo pos (starEach (e :: es) X.env)) (backToKw pos (keywordEach [] X.env))) := by rfl) :
    PdE X XE (.Call (.Attribute o m apos) (e :: es) [] pos) (wMeth cn m fs dds wo w) := by
  obtain ⟨t, pa, s⟩ := ha
  obtain ⟨ta, po, so⟩ := ho
  exact ⟨_, pe_meth (E := XE) po cl hm F (C.room.mono hj) hb hd C.pas pa hst hpl ht, meth_run (o := o) (es := e :: es) hC hD so hl s⟩
theorem pd_meth0 {j : Nat} {cn m : Str} {o : Expr} {apos pos : Pos} {Cl f : Addr} {fd : FuncData} {ps : List Str} {fs : FS} {dds : List D} {dvs : List V} {ds : List Value} {wo : WE} {pl : Sem Bool} (C : Cc X XE k) (hC : X.mg cn = some (.ref Cl)) (cl : Cls X.K Cl) (hm : Meth X.K Cl m f)
    (F : FnOk X.prog X.w X.K X.mg X.base (L2.CX X.prog X.w) j f fd ps (spOf X.K X.mg fs ps.length)) (hj : j ≤ k) (hb : Binds X.K fd ps ds) (hd : Vals dvs ds) (hD : ∀ F, RepL X.K X.mg F dds dvs) (ho : PdE X XE o wo) (hl : 1 + dds.length = ps.length := by rfl)
    (ht : eval (.Call (.Attribute o m apos) [] [] pos) X.env = (do
      let ov ← eval o X.env
      standAt apos.atName
      let (f, first) ← holding [ov] (getMethod ov m pl)
      callWith pos f first (backTo pos (starEach [] X.env)) (backToKw pos (keywordEach [] X.env))) := by rfl) :
    PdE X XE (.Call (.Attribute o m apos) [] [] pos) (wMeth cn m fs dds wo wVn) := by
  obtain ⟨ta, po, so⟩ := ho
  exact ⟨_, pe_meth0 (E := XE) po cl hm F (C.room.mono hj) hb hd C.pas ht, meth_run (o := o) (es := []) hC hD so (by simpa using hl) fun c Qp Ep Q ok hw x k => k [] c [] (Go.refl _ _ ok) rfl rfl rfl hw⟩
/-- o.f -/
theorem pd_fld {cn f : Str} {e : Expr} {pos : Pos} {Cl : Addr} {w : WE} (hC : X.mg cn = some (.ref Cl)) (cl : Cls X.K Cl) (hn : NoAttr X.K Cl f) (h : PdE X XE e w) (hb : attributeBase e f X.env (eval e X.env) = eval e X.env := by rfl) : PdE X XE (.Attribute e f pos) (wFld cn f w) := by
  obtain ⟨t, p, s⟩ := h
  refine ⟨_, pe_fld p hb, fun c Qp Ep Q ok hw x k => ?_⟩
  refine runV (e := e) s ok hw x fun v c1 r1 g1 e1 rr1 h1 => ?_
  obtain ⟨d, hd, h1⟩ := pk1_of h1
  have see := rr1.see g1.ok hd
  cases d with
  | obj cc fn dd =>
    obtain ⟨hcc, h2⟩ := h1
    subst hcc
    cases hy : fldD fn dd f with
    | none => simp only [hy] at h2
    | some y =>
      simp only [hy] at h2
      unfold fldQ at h2
      by_cases hb : isBx y = true
      · rw [if_pos hb] at h2
        have rp := frzR_rep rr1 g1.ok hd h2.1
        obtain ⟨a, C', dx, gs, rfl, hc, hF, hg, rg⟩ := rp
        rw [hC] at hc; cases hc
        obtain ⟨u, hu, ru⟩ := fld_rep hg rg hy
        exact ⟨a, Cl, dx, gs, u, rfl, g1.ok.sub.ins hF, cl, hn, hu, k u c1 (.val (unB y)) g1 e1 (unB_rep ru) h2.2⟩
      · rw [if_neg hb] at h2
        have hb' : isBx y = false := by simpa using hb
        rcases see with ⟨a, C', dx, gs, rfl, hc, hF, hg, rg⟩ | ⟨ft, a, C', dx, gs, f2, g, rfl, _, _, hc, ha, hg, rg, _⟩
        · rw [hC] at hc; cases hc
          obtain ⟨u, hu, ru⟩ := fld_rep hg rg hy
          exact ⟨a, Cl, dx, gs, u, rfl, g1.ok.sub.ins hF, cl, hn, hu, k u c1 (.val y) g1 e1 ru h2⟩
        · rw [hC] at hc; cases hc
          obtain ⟨u, hu, ru⟩ := fld_box hg rg hy hb'
          exact ⟨a, Cl, dx, gs, u, rfl, ha, cl, hn, hu, k u c1 (.val y) g1 e1 ru h2⟩
  | _ => exact h1.elim
/-- o.f = e, o a name whose object the slot owns -/
theorem pst_fld {cn f x : Str} {i : Nat} {e : Expr} {pos pos' p : Pos} {Cl : Addr} {w : WE} (hC : X.mg cn = some (.ref Cl)) (cl : Cls X.K Cl) (hn : NoAttr X.K Cl f) (hx : PE X (.Name x p) (tVar i)) (h : PdE X XE e w) (hs : swapsWith e (some (.Attribute (.Name x p) f pos')) pos.line X.env = pure false := by rfl) :
    PdS X XE (.Assign [.Attribute (.Name x p) f pos'] e pos) (wSetF i cn f w) := by
  obtain ⟨t, pe, s⟩ := h
  refine ⟨_, ps_fld hx pe hs, fun c Dp D ok hw P => ?_⟩
  refine runK (e := e) s ok hw (P.2.2.2.2.ex X.K X.mg) fun v c1 d g1 e1 r1 h1 => ?_
  split at h1
  next b cc fn dd hρ =>
    obtain ⟨hcc, hlt, hbx, h1⟩ := h1
    subst hcc
    obtain ⟨v0, hv0, a, C', dx, gs, f2, jk, rfl, hft, nd, hc, ha, hg, rg, hj⟩ := g1.ok.own hρ
    rw [hC] at hc; cases hc
    rw [← e1]
    refine ⟨.ref a, hv0, a, Cl, dx, gs, rfl, ha, cl, hn, by rw [← hg] at hlt; simpa using hlt, ?_⟩
    have nbx : isBx d = false := hbx
    obtain ⟨f3, g3, p1, p2, p3⟩ := put_box (F := c1.F) (H := c1.H) (f := f) (d := d) (v := v) (f0 := []) ⟨v, [], rfl, by rw [if_neg (by rw [nbx]; simp)]; exact ⟨r1, rfl, rfl⟩⟩ hg rg
    have p3 : (f3 ++ g3).Perm f2 := p3
    have pA : (a :: (f3 ++ (g3 ++ jk))).Perm (a :: (f2 ++ jk)) := by
      rw [← List.append_assoc]
      exact List.Perm.cons a (List.Perm.append_right jk p3)
    have nd3 := (List.Perm.nodup_iff pA).mpr nd
    have nin : a ∉ f3 ++ (g3 ++ jk) := (List.nodup_cons.mp nd3).1
    have mm : ∀ b, b ∈ a :: (f3 ++ (g3 ++ jk)) ↔ b ∈ c1.fp i := fun b => by rw [hft]; exact pA.mem_iff
    have ne3 : ∀ b ∈ f3 ++ (g3 ++ jk), b ≠ a := fun b hb z => by subst z; exact nin hb
    have g2 := write_slot2 (H' := upd c1.H a (.ins Cl dx (putF f v gs))) (d' := .obj cc (putN fn f) (putD fn dd f d)) (ft := a :: (f3 ++ (g3 ++ jk))) g1.ok hρ hv0
      ⟨a, Cl, dx, _, f3, g3 ++ jk, rfl, rfl, nd3, hC, upd_same, p2, p1.frame X.K X.mg (Mono.refl _) fun b hb => upd_ne (ne3 b (by simp [hb])), fun b hb => by
        rw [upd_ne (ne3 b (by rcases List.mem_append.mp hb with z | z <;> simp [z]))]
        have hb' : b ∈ c1.fp i := (mm b).mp (List.mem_cons_of_mem _ (List.mem_append_right _ hb))
        obtain ⟨_, _, o1⟩ := g1.ok.own hρ
        exact own_pl o1 b hb'⟩
      (fun b hb _ => upd_ne fun z => hb (by rw [z]; exact (mm a).mp (by simp)))
      (fun b hb => by
        by_cases z : b = a
        · subst z; rw [upd_same]; simp
        · rw [upd_ne z]; exact hb)
      ⟨fun b hb => (mm b).mpr hb, fun b hb => .inl ((mm b).mp hb)⟩ (tf_upd g1.ok.tf)
    exact P.1 { c1 with H := upd c1.H a (.ins Cl dx (putF f v gs)), ρ := c1.ρ.set i (some (.own b (.obj cc (putN fn f) (putD fn dd f d)))), fp := fpSet c1.fp i (a :: (f3 ++ (g3 ++ jk))) } (g1.trans X.K X.mg g2) h1
  next => exact h1.elim
end
end PL
/-! PL10: instances made; operators of an own class. -/
namespace PySem.W
open PySem PySem.Calls PyProof.Rows
section
variable {prog : Program} {w : World} {A : Around} {E : Value → Shared → Prop} {s : Shared} {K : Frag} {x C L f : Addr} {h₀ : Heap} {m : Str → Option Value} {ox : Obj} {od : Option Obj} {b tb : Value}
theorem pl_bind_ne (self : Value) : bindSpecial (.builtin "object.__ne__") self = pure (.builtin "object.__ne__", [self]) := by
  unfold bindSpecial
  have e : typeOf (.builtin "object.__ne__") = pure (.type "wrapper_descriptor") := by show builtinType _ = _; rw [builtinType_eq_fast]; kernel_rfl
  rw [e]
  rfl
theorem pl_ifBound_ne {args : List Value} {Q : Option Value → Shared → Prop} (X : K.In s.heap) (I : InstAt s.heap x ox C od) (hs : findIn K (.ref C) "__ne__" = some (some (.builtin "object.__ne__")))
    (h : wpAny (model prog w) A (call (.builtin "object.__ne__") (.ref x :: args)) (fun v => Q (some v)) E s) : wpAny (model prog w) A (callSpecialIfBound? (.ref x) "__ne__" args) Q E s := by
  simp only [callSpecialIfBound?, bindSpecialIfBound?]
  refine wpAny_holding (wpAny_bind (wpAny_bind (wpAny_bind (I.type.here ((looks_findIn X hs).here ?_)))))
  simp only [pl_bind_ne]
  refine wpAny_bind (wpAny_askSetting (wpAny_ite ?_))
  have fin : wpAny (model prog w) A (call (.builtin "object.__ne__") ([.ref x] ++ args) >>= fun v => pure (some v)) Q E s := wpAny_bind (wpAny_mono h (fun v s' h' => wpAny_pure h') fun _ _ h' => h')
  split
  · exact wpAny_bind (wpAny_pure (wpAny_pure fin))
  · exact wpAny_tryCatch (wpAny_bind (wpAny_pure (wpAny_pure fin)))
/-- x != b by the class's own __eq__ -/
theorem pl_ne_K {Q : Value → Shared → Prop} (hu : A.units + 1 < cLine) (F : Fr h₀ L s.heap m) (X₀ : K.In h₀) (I : InstAt s.heap x ox C od) (hb : Looks (model prog w) s.heap (typeOf b) tb) (hn : notFirst K C tb = true)
    (hne : findIn K (.ref C) "__ne__" = some (some (.builtin "object.__ne__"))) (ho : subIn K (.ref C) (.type "object") = some true) (hs : findIn K (.ref C) "__eq__" = some (some (.ref f))) (hf : isFn K (.ref f) = true)
    (h : wpAny (model prog w) A.in1 (call (.ref f) [.ref x, b]) (fun v s' => ∃ r, v = .bool r ∧ Q (.bool (!r)) s') E s) : wpAny (model prog w) A (compareOp .NotEq (.ref x) b) Q E s := by
  have X := X₀.keeps F.keep
  have entry : wpAny (model prog w) A.in1 (Builtin.«object.__ne__» ⟨[.ref x, b], []⟩) (fun fin s' => ∃ v, fin = .done (.ret v) ∧ ∃ r, v = .bool (!r) ∧ Q (.bool (!r)) s') E s := by
    unfold Builtin.«object.__ne__»
    repeat (first
      | with_reducible refine wpAny_cRoomFor (show A.in1.units < cLine from hu) ?_
      | (refine wpAny_bind (m := callSpecialIfBound? (.ref x) (Str.ofString "__eq__") [b])
          (ifBound_K X I hs hf (wpAny_mono h (fun r s' hr => by
            obtain ⟨r, rfl, hq⟩ := hr
            repeat (first | exact ⟨_, rfl, _, rfl, hq⟩ | exact wpAny_pure ⟨_, rfl, _, rfl, hq⟩ | exact wpAny_truthy_bool ⟨_, rfl, _, rfl, hq⟩ | (refine wpAny_bind (m := truthy (.bool _)) (wpAny_truthy_bool ?_)) | wp_step)) fun _ _ e => e)))
      | wp_step)
  have hcb : wpAny (model prog w) A (call (.builtin "object.__ne__") [.ref x, b]) (fun v s' => ∃ r, v = .bool (!r) ∧ Q (.bool (!r)) s') E s := by
    refine wpAny_call (codeAny_call_builtin (show plainId "object.__ne__" = true by decide +kernel) PySem.F.cmpEntry_ne ?_)
    simp only [checkBuiltinCall, PySem.F.cmpKind_ne, PySem.F.cmpSplit_ne]
    refine wpAny_bind ?_
    unfold isInstance
    refine wpAny_bind (I.type.here ((looks_subIn X ho).here ?_))
    rw [if_neg (by simp)]
    have ha := PySem.F.cmpArgs_ne (.ref x) b
    have fin : wpAny (model prog w) A.in1 (Builtin.«object.__ne__» ⟨[.ref x, b], []⟩) (fun fin s' => match fin with
        | .done f => (match (Except.ok f : Result) with
          | .ok (.ret v) => ∃ r, v = .bool (!r) ∧ Q (.bool (!r)) s'
          | .ok _ => False
          | .error e => E e s')
        | .again c' => c'.quiet = true ∧ codeAny (model prog w) A c' (fun r s' => match r with
          | .ok (.ret v) => ∃ r, v = .bool (!r) ∧ Q (.bool (!r)) s'
          | .ok _ => False
          | .error e => E e s') s') (fun e s' => E e s') s :=
      wpAny_mono entry (fun fin s' hv => by
        obtain ⟨v, rfl, r, rfl, hq⟩ := hv
        exact ⟨r, rfl, hq⟩) fun _ _ e => e
    cases hsig : Manifest.signature? "object.__ne__" with
    | none => exact wpAny_pure fin
    | some sig =>
      simp only [argsOk, hsig] at ha
      have h2 : Bind.checkArgs "object.__ne__" sig ⟨[.ref x, b], []⟩ = pure () := ha
      show wpAny _ _ (Bind.checkArgs "object.__ne__" sig ⟨[.ref x, b], []⟩) _ _ _
      rw [h2]; exact wpAny_pure fin
  have one : wpAny (model prog w) A (tryCompare (.ref x) "__ne__" b) (fun r s' => ∃ v, r = some v ∧ Q v s') E s := by
    unfold tryCompare
    refine wpAny_bind (pl_ifBound_ne X I hne (wpAny_mono hcb (fun v s' hv => ?_) fun _ _ e => e))
    obtain ⟨r, rfl, hq⟩ := hv
    exact wpAny_pure ⟨_, rfl, hq⟩
  unfold compareOp
  show wpAny _ _ (richCompare .NotEq (.ref x) b) _ _ _
  unfold richCompare
  simp only [oneThing_ref]
  refine wpAny_holding (wpAny_bind (wpAny_cRoomFor (Nat.lt_of_succ_lt hu) ?_))
  refine wpAny_bind (I.type.here (wpAny_bind (hb.here ?_)))
  split
  · rename_i q
    have e : subIn K tb (.ref C) = some false := by
      rcases Bool.or_eq_true_iff.mp hn with e | e
      · rw [beq_iff_eq.mp e] at q; simp at q
      · exact beq_iff_eq.mp e
    refine wpAny_bind ((looks_subIn X e).here ?_)
    simp only [Bool.false_eq_true, if_false]
    refine wpAny_bind (wpAny_mono one (fun r s' z => ?_) fun _ _ e => e)
    obtain ⟨v, rfl, hq⟩ := z
    exact wpAny_pure hq
  · refine wpAny_bind (wpAny_pure ?_)
    simp only [Bool.false_eq_true, if_false]
    refine wpAny_bind (wpAny_mono one (fun r s' z => ?_) fun _ _ e => e)
    obtain ⟨v, rfl, hq⟩ := z
    exact wpAny_pure hq
end
end PySem.W

namespace PL
open PySem PySem.Spec PyProof.Rows L2
variable [HasT]

section
variable {X : Cx} {XE : XK} {k : Nat}
theorem cmpBack_of {pins : List (Addr × Obj)} {σ : L2.St} {Q : VK} {u : Value} {s' : Shared} (h : EP X pins σ Q u s') : PySem.W.CmpBack (EP X pins σ Q) u s' := by
  obtain ⟨z, H', I', rz, q⟩ := id h
  cases u with
  | notImplemented => cases z <;> first | (obtain ⟨t, e⟩ := rz; cases e) | cases rz
  | _ => exact h
structure InsV (H : Hp) (Cl : Addr) (v : V) : Prop where
  ex : ∃ a dx gs, v = .ref a ∧ H a = some (.ins Cl dx gs)
theorem own_bin {j : Nat} {op : Operator} {Cl f : Addr} {fd : FuncData} {ps : List Str} {sp : Sp} (C : Cc X XE k) (hs : PySem.W.findIn X.K (.ref Cl) (PySem.dunder op.info.2) = some (some (.ref f))) (hf : PySem.W.isFn X.K (.ref f) = true) (hc : PySem.W.selfFirst X.K Cl = true)
    (F : FnOk X.prog X.w X.K X.mg X.base (L2.CX X.prog X.w) j f fd ps sp) (hj : j ≤ k) (hb : Binds X.K fd ps []) : OpR X (binaryOp op) (fun x y H Q => InsV H Cl x ∧ InsV H Cl y ∧ sp ([x, y] ++ []) H Q XE) := by
  intro pins s σ H x y v u Q I rx ry ⟨⟨a, dx, gs, ex, ha⟩, ⟨b, dy, gs', ey, hb'⟩, h⟩
  subst ex; subst ey
  cases rx
  cases ry
  obtain ⟨mA, J, _⟩ := ins_get I.hok ha
  obtain ⟨mB, J', _⟩ := ins_get I.hok hb'
  obtain ⟨od, J, _⟩ := J.look
  obtain ⟨od', J', _⟩ := J'.look
  obtain ⟨m, hF⟩ := I.fr
  refine PySem.W.binop_K hF I.ok.mod.kin J J'.type hc hs hf ?_
  refine thn (run_fn (us := [.ref a, .ref b]) (vs := [.ref a, .ref b]) (dvs := []) (ds := []) F (C.room.mono hj) hb .nil C.pas I (.cons rfl (.cons rfl .nil)) h) fun w s' hw => cmpBack_of hw
theorem own_eq {j : Nat} {Cl f : Addr} {fd : FuncData} {ps : List Str} {sp : Sp} (C : Cc X XE k) (hs : PySem.W.findIn X.K (.ref Cl) "__eq__" = some (some (.ref f))) (hf : PySem.W.isFn X.K (.ref f) = true)
    (F : FnOk X.prog X.w X.K X.mg X.base (L2.CX X.prog X.w) j f fd ps sp) (hj : j ≤ k) (hb : Binds X.K fd ps []) : OpR X (compareOp .Eq) (fun x y H Q => InsV H Cl x ∧ InsV H Cl y ∧ sp ([x, y] ++ []) H Q XE) := by
  intro pins s σ H x y v u Q I rx ry ⟨⟨a, dx, gs, ex, ha⟩, ⟨b, dy, gs', ey, hb'⟩, h⟩
  subst ex; subst ey
  cases rx
  cases ry
  obtain ⟨mA, J, _⟩ := ins_get I.hok ha
  obtain ⟨mB, J', _⟩ := ins_get I.hok hb'
  obtain ⟨od, J, _⟩ := J.look
  obtain ⟨od', J', _⟩ := J'.look
  obtain ⟨m, hF⟩ := I.fr
  unfold compareOp
  refine PySem.W.cmp_K (op := .Eq) (tb := .ref Cl) C.room.units0 hF I.ok.mod.kin J J'.type (by simp [PySem.W.notFirst]) hs hf ?_
  refine thn (run_fn (us := [.ref a, .ref b]) (vs := [.ref a, .ref b]) (dvs := []) (ds := []) F (C.room.mono hj) hb .nil C.pas I (.cons rfl (.cons rfl .nil)) h) fun w s' hw => cmpBack_of hw
/-- != by the class's own __eq__ -/
theorem own_ne {j : Nat} {Cl f : Addr} {fd : FuncData} {ps : List Str} {sp : Sp} (C : Cc X XE k) (hne : PySem.W.findIn X.K (.ref Cl) "__ne__" = some (some (.builtin "object.__ne__"))) (ho : PySem.W.subIn X.K (.ref Cl) (.type "object") = some true)
    (hs : PySem.W.findIn X.K (.ref Cl) "__eq__" = some (some (.ref f))) (hf : PySem.W.isFn X.K (.ref f) = true)
    (F : FnOk X.prog X.w X.K X.mg X.base (L2.CX X.prog X.w) j f fd ps sp) (hj : j + 1 ≤ k) (hb : Binds X.K fd ps []) : OpR X (compareOp .NotEq) (fun x y H Q => InsV H Cl x ∧ InsV H Cl y ∧ sp ([x, y] ++ []) H (fun v H' => ∃ r, v = .bl r ∧ Q (.bl (!r)) H') XE) := by
  intro pins s σ H x y v u Q I rx ry ⟨⟨a, dx, gs, ex, ha⟩, ⟨b, dy, gs', ey, hb'⟩, h⟩
  subst ex; subst ey
  cases rx
  cases ry
  obtain ⟨mA, J, _⟩ := ins_get I.hok ha
  obtain ⟨mB, J', _⟩ := ins_get I.hok hb'
  obtain ⟨od, J, _⟩ := J.look
  obtain ⟨od', J', _⟩ := J'.look
  obtain ⟨m, hF⟩ := I.fr
  refine PySem.W.pl_ne_K (tb := .ref Cl) (by have := C.room.un; omega) hF I.ok.mod.kin J J'.type (by simp [PySem.W.notFirst]) hne ho hs hf ?_
  have hl := F.len _ _ _ _ h
  have r2 : Vals [V.ref a, V.ref b] [Value.ref a, Value.ref b] := .cons rfl (.cons rfl .nil)
  refine wpAny_call (codeAny_mono (F.run X.A.in1 X.stack s H ⟨[.ref a, .ref b], []⟩ [.ref a, .ref b] [.ref a, .ref b] (fun v H' => ∃ r, v = V.bl r ∧ Q (.bl (!r)) H') XE ((C.room.mono hj).in1) I.env0.in1 (by
    have := hb s [.ref a, .ref b] I.kIn (by simpa using hl)
    simpa using this) r2 h) fun r s' hq => ?_)
  cases r with
  | error e => exact C.pas pins σ H s e s' I hq
  | ok fl =>
    cases fl with
    | ret w =>
      obtain ⟨z, H', I', rz, r, ez, q⟩ := I.after hq
      subst ez
      cases rz
      exact ⟨r, rfl, .bl (!r), H', I', rfl, q⟩
    | next => exact False.elim hq
    | brk => exact False.elim hq
    | cont => exact False.elim hq
/-- in, not in by the class's own __contains__ -/
theorem own_in {j : Nat} {Cl f : Addr} {fd : FuncData} {ps : List Str} {sp : Sp} (C : Cc X XE k) (hs : PySem.W.findIn X.K (.ref Cl) "__contains__" = some (some (.ref f))) (hf : PySem.W.isFn X.K (.ref f) = true)
    (F : FnOk X.prog X.w X.K X.mg X.base (L2.CX X.prog X.w) j f fd ps sp) (hj : j ≤ k) (hb : Binds X.K fd ps []) : OpR X (compareOp .In) (fun x y H Q => InsV H Cl y ∧ sp ([y, x] ++ []) H (fun v H' => ∃ r, v = .bl r ∧ Q (.bl r) H') XE) := by
  intro pins s σ H x y v u Q I rx ry ⟨⟨b, dy, gs', ey, hb'⟩, h⟩
  subst ey
  cases ry
  obtain ⟨mB, J', _⟩ := ins_get I.hok hb'
  obtain ⟨od', J', _⟩ := J'.look
  obtain ⟨m, hF⟩ := I.fr
  refine PySem.W.in_K hF I.ok.mod.kin J' hs hf ?_
  refine thn (run_fn (us := [.ref b, v]) (vs := [.ref b, x]) (dvs := []) (ds := []) F (C.room.mono hj) hb .nil C.pas I (.cons rfl (.cons rx .nil)) h) fun w s' hw => ?_
  obtain ⟨z, H', I', rz, r, ez, q⟩ := hw
  subst ez
  cases rz
  exact wpAny_truthy_bool ⟨.bl r, H', I', rfl, q⟩
theorem own_notin {j : Nat} {Cl f : Addr} {fd : FuncData} {ps : List Str} {sp : Sp} (C : Cc X XE k) (hs : PySem.W.findIn X.K (.ref Cl) "__contains__" = some (some (.ref f))) (hf : PySem.W.isFn X.K (.ref f) = true)
    (F : FnOk X.prog X.w X.K X.mg X.base (L2.CX X.prog X.w) j f fd ps sp) (hj : j ≤ k) (hb : Binds X.K fd ps []) : OpR X (compareOp .NotIn) (fun x y H Q => InsV H Cl y ∧ sp ([y, x] ++ []) H (fun v H' => ∃ r, v = .bl r ∧ Q (.bl (!r)) H') XE) := by
  intro pins s σ H x y v u Q I rx ry ⟨⟨b, dy, gs', ey, hb'⟩, h⟩
  subst ey
  cases ry
  obtain ⟨mB, J', _⟩ := ins_get I.hok hb'
  obtain ⟨od', J', _⟩ := J'.look
  obtain ⟨m, hF⟩ := I.fr
  refine PySem.W.notIn_K hF I.ok.mod.kin J' hs hf ?_
  refine thn (run_fn (us := [.ref b, v]) (vs := [.ref b, x]) (dvs := []) (ds := []) F (C.room.mono hj) hb .nil C.pas I (.cons rfl (.cons rx .nil)) h) fun w s' hw => ?_
  obtain ⟨z, H', I', rz, r, ez, q⟩ := hw
  subst ez
  cases rz
  exact wpAny_truthy_bool ⟨.bl (!r), H', I', rfl, q⟩

/-! ### as rules over pure data -/
def isObj (cn : Str) (ρ : Env) (r : R) : Prop := match peek ρ r with
  | some (.obj c _ _) => c = cn
  | _ => False
/-- a op b, a == b: the def's own answer -/
def wOwn (cn : Str) (fs : FS) (wa wb : WE) : WE := fun ρ Q Ep => wV wa ρ (fun r ρ1 => wV wb ρ1 (fun s ρ2 => isObj cn ρ2 r ∧ isObj cn ρ2 s ∧ toArgs ρ2 [r, s] fun args => ndS [r, s] = true ∧ fs (args ++ [].map .val) (fun z args' => Q z (backA [r, s] args' ρ2)) (fun y args' => Ep y (backA [r, s] args' ρ2))) Ep) Ep
def toB (f : Bool → Bool) (Q : R → Env → Prop) (ρ : Env) : R → Prop
  | .val (.bl b) => Q (.val (.bl (f b))) ρ
  | _ => False
def wOwnB (cn : Str) (f : Bool → Bool) (fs : FS) (wa wb : WE) : WE := fun ρ Q Ep => wV wa ρ (fun r ρ1 => wV wb ρ1 (fun s ρ2 => isObj cn ρ2 r ∧ isObj cn ρ2 s ∧ toArgs ρ2 [r, s] fun args => ndS [r, s] = true ∧ fs (args ++ [].map .val) (fun z args' => toB f Q (backA [r, s] args' ρ2) z) (fun y args' => Ep y (backA [r, s] args' ρ2))) Ep) Ep
/-- a in b -/
def wOwnIn (cn : Str) (f : Bool → Bool) (fs : FS) (wa wb : WE) : WE := fun ρ Q Ep => wV wa ρ (fun r ρ1 => wV wb ρ1 (fun s ρ2 => isObj cn ρ2 s ∧ toArgs ρ2 [s, r] fun args => ndS [s, r] = true ∧ fs (args ++ [].map .val) (fun z args' => toB f Q (backA [s, r] args' ρ2) z) (fun y args' => Ep y (backA [s, r] args' ρ2))) Ep) Ep
theorem isObj_ins {c : Cfg} {cn : Str} {Cl : Addr} {r : R} {v : V} (ok : Ok X.K X.mg c) (hC : X.mg cn = some (.ref Cl)) (rr : RRV X.K X.mg c r v) (h : isObj cn c.ρ r) : InsV c.H Cl v := by
  unfold isObj at h
  cases q : peek c.ρ r with
  | none => rw [q] at h; exact h.elim
  | some d =>
    rw [q] at h
    cases d with
    | obj cc fs ds =>
      have h' : cc = cn := h
      subst h'
      obtain ⟨a, C', dx, gs, rfl, hc, ha, _⟩ := (rr.see ok q).obj ok.sub
      rw [hC] at hc; cases hc
      exact ⟨a, dx, gs, rfl, ha⟩
    | _ => exact h.elim
theorem own_run {cn : Str} {Cl : Addr} {fs : FS} {a b : Expr} {wa wb : WE} {ta tb : TE} {r : R2} (hC : X.mg cn = some (.ref Cl)) (sa : SoE X XE ta wa) (sb : SoE X XE tb wb)
    (hr : ∀ x y H Q, InsV H Cl x → InsV H Cl y → spOf X.K X.mg fs 2 ([x, y] ++ []) H Q XE → r x y H Q) : SoE X XE (tOp r ta tb) (wOwn cn fs wa wb) := by
  intro c Qp Ep Q ok hw x k
  refine runV (e := a) sa ok hw x fun v c1 r1 g1 e1 rr1 h1 => ?_
  rw [← e1]
  refine runV (e := b) sb g1.ok h1 (x.go X.K X.mg g1 e1) fun u c2 r2 g2 e2 rr2 h2 => ?_
  obtain ⟨i1, i2, h3⟩ := h2
  have g12 := g1.trans X.K X.mg g2
  have rr1' := rr1.go g2 e2
  refine hr v u c2.H Q (isObj_ins g2.ok hC rr1' i1) (isObj_ins g2.ok hC rr2 i2) ?_
  exact call_core (rs := [r1, r2]) (vs := [v, u]) (dds := []) (dvs := []) g2.ok ⟨v, [u], rfl, rr1', u, [], rfl, rr2, rfl⟩ (fun _ => rfl) rfl h3 (x.go X.K X.mg g12 (e2.trans e1)) fun w c3 r3 g3 e3 rr3 q => k w c3 r3 (g12.trans X.K X.mg g3) (e3.trans (e2.trans e1)) (rr_go g12 rr3) q
theorem pd_own {j : Nat} {cn : Str} {op : Operator} {a b : Expr} {pos : Pos} {Cl f : Addr} {fd : FuncData} {ps : List Str} {fs : FS} {wa wb : WE} (C : Cc X XE k) (hC : X.mg cn = some (.ref Cl)) (hs : PySem.W.findIn X.K (.ref Cl) (PySem.dunder op.info.2) = some (some (.ref f))) (hf : PySem.W.isFn X.K (.ref f) = true) (hc : PySem.W.selfFirst X.K Cl = true)
    (F : FnOk X.prog X.w X.K X.mg X.base (L2.CX X.prog X.w) j f fd ps (spOf X.K X.mg fs 2)) (hj : j ≤ k) (hb : Binds X.K fd ps []) (ha : PdE X XE a wa) (hb2 : PdE X XE b wb) : PdE X XE (.BinOp a op b pos) (wOwn cn fs wa wb) := by
  obtain ⟨ta, pa, sa⟩ := ha
  obtain ⟨tb, pb, sb⟩ := hb2
  exact ⟨_, pe_op (own_bin C hs hf hc F hj hb) pa pb, own_run (a := a) (b := b) hC sa sb fun x y H Q i1 i2 h => ⟨i1, i2, h⟩⟩
theorem pd_ownEq {j : Nat} {cn : Str} {a b : Expr} {pos : Pos} {Cl f : Addr} {fd : FuncData} {ps : List Str} {fs : FS} {wa wb : WE} (C : Cc X XE k) (hC : X.mg cn = some (.ref Cl)) (hs : PySem.W.findIn X.K (.ref Cl) "__eq__" = some (some (.ref f))) (hf : PySem.W.isFn X.K (.ref f) = true)
    (F : FnOk X.prog X.w X.K X.mg X.base (L2.CX X.prog X.w) j f fd ps (spOf X.K X.mg fs 2)) (hj : j ≤ k) (hb : Binds X.K fd ps []) (ha : PdE X XE a wa) (hb2 : PdE X XE b wb) : PdE X XE (.Compare a [.Eq] [b] pos) (wOwn cn fs wa wb) := by
  obtain ⟨ta, pa, sa⟩ := ha
  obtain ⟨tb, pb, sb⟩ := hb2
  exact ⟨_, pe_cmpR (own_eq C hs hf F hj hb) pa pb (nomark _), own_run (a := a) (b := b) hC sa sb fun x y H Q i1 i2 h => ⟨i1, i2, h⟩⟩
theorem toB_run {c c3 : Cfg} {f : Bool → Bool} {Qp : R → Env → Prop} {Q : VK} {r3 : R} {w : V} (g : Go X.K X.mg c c3) (e : c3.σ = c.σ) (rr : RR X.K X.mg c c3 r3 w) (q : toB f Qp c3.ρ r3)
    (k : ∀ v c' r, Go X.K X.mg c c' → c'.σ = c.σ → RR X.K X.mg c c' r v → Qp r c'.ρ → Q v c'.H) : ∃ b, w = .bl b ∧ Q (.bl (f b)) c3.H := by
  cases r3 with
  | val d =>
    cases d with
    | bl b => exact ⟨b, rr, k _ c3 (.val (.bl (f b))) g e rr_bl q⟩
    | _ => exact q.elim
  | _ => exact q.elim
theorem own_runB {cn : Str} {Cl : Addr} {f : Bool → Bool} {fs : FS} {a b : Expr} {wa wb : WE} {ta tb : TE} {r : R2} (hC : X.mg cn = some (.ref Cl)) (sa : SoE X XE ta wa) (sb : SoE X XE tb wb)
    (hr : ∀ x y H (Q : VK), InsV H Cl x → InsV H Cl y → spOf X.K X.mg fs 2 ([x, y] ++ []) H (fun v H' => ∃ r, v = .bl r ∧ Q (.bl (f r)) H') XE → r x y H Q) : SoE X XE (tOp r ta tb) (wOwnB cn f fs wa wb) := by
  intro c Qp Ep Q ok hw x k
  refine runV (e := a) sa ok hw x fun v c1 r1 g1 e1 rr1 h1 => ?_
  rw [← e1]
  refine runV (e := b) sb g1.ok h1 (x.go X.K X.mg g1 e1) fun u c2 r2 g2 e2 rr2 h2 => ?_
  obtain ⟨i1, i2, h3⟩ := h2
  have g12 := g1.trans X.K X.mg g2
  have rr1' := rr1.go g2 e2
  refine hr v u c2.H Q (isObj_ins g2.ok hC rr1' i1) (isObj_ins g2.ok hC rr2 i2) ?_
  exact call_core (Qp := fun z ρ => toB f Qp ρ z) (rs := [r1, r2]) (vs := [v, u]) (dds := []) (dvs := []) g2.ok ⟨v, [u], rfl, rr1', u, [], rfl, rr2, rfl⟩ (fun _ => rfl) rfl h3 (x.go X.K X.mg g12 (e2.trans e1)) fun w c3 r3 g3 e3 rr3 q => toB_run (g12.trans X.K X.mg g3) (e3.trans (e2.trans e1)) (rr_go g12 rr3) q k
theorem own_runIn {cn : Str} {Cl : Addr} {f : Bool → Bool} {fs : FS} {a b : Expr} {wa wb : WE} {ta tb : TE} {r : R2} (hC : X.mg cn = some (.ref Cl)) (sa : SoE X XE ta wa) (sb : SoE X XE tb wb)
    (hr : ∀ x y H (Q : VK), InsV H Cl y → spOf X.K X.mg fs 2 ([y, x] ++ []) H (fun v H' => ∃ r, v = .bl r ∧ Q (.bl (f r)) H') XE → r x y H Q) : SoE X XE (tOp r ta tb) (wOwnIn cn f fs wa wb) := by
  intro c Qp Ep Q ok hw x k
  refine runV (e := a) sa ok hw x fun v c1 r1 g1 e1 rr1 h1 => ?_
  rw [← e1]
  refine runV (e := b) sb g1.ok h1 (x.go X.K X.mg g1 e1) fun u c2 r2 g2 e2 rr2 h2 => ?_
  obtain ⟨i2, h3⟩ := h2
  have g12 := g1.trans X.K X.mg g2
  have rr1' := rr1.go g2 e2
  refine hr v u c2.H Q (isObj_ins g2.ok hC rr2 i2) ?_
  exact call_core (Qp := fun z ρ => toB f Qp ρ z) (rs := [r2, r1]) (vs := [u, v]) (dds := []) (dvs := []) g2.ok ⟨u, [v], rfl, rr2, v, [], rfl, rr1', rfl⟩ (fun _ => rfl) rfl h3 (x.go X.K X.mg g12 (e2.trans e1)) fun w c3 r3 g3 e3 rr3 q => toB_run (g12.trans X.K X.mg g3) (e3.trans (e2.trans e1)) (rr_go g12 rr3) q k
theorem pd_ownNe {j : Nat} {cn : Str} {a b : Expr} {pos : Pos} {Cl f : Addr} {fd : FuncData} {ps : List Str} {fs : FS} {wa wb : WE} (C : Cc X XE k) (hC : X.mg cn = some (.ref Cl)) (hne : PySem.W.findIn X.K (.ref Cl) "__ne__" = some (some (.builtin "object.__ne__"))) (ho : PySem.W.subIn X.K (.ref Cl) (.type "object") = some true)
    (hs : PySem.W.findIn X.K (.ref Cl) "__eq__" = some (some (.ref f))) (hf : PySem.W.isFn X.K (.ref f) = true)
    (F : FnOk X.prog X.w X.K X.mg X.base (L2.CX X.prog X.w) j f fd ps (spOf X.K X.mg fs 2)) (hj : j + 1 ≤ k) (hb : Binds X.K fd ps []) (ha : PdE X XE a wa) (hb2 : PdE X XE b wb) : PdE X XE (.Compare a [.NotEq] [b] pos) (wOwnB cn not fs wa wb) := by
  obtain ⟨ta, pa, sa⟩ := ha
  obtain ⟨tb, pb, sb⟩ := hb2
  exact ⟨_, pe_cmpR (own_ne C hne ho hs hf F hj hb) pa pb (nomark _), own_runB (a := a) (b := b) hC sa sb fun x y H Q i1 i2 h => ⟨i1, i2, h⟩⟩
theorem pd_ownIn {j : Nat} {cn : Str} {a b : Expr} {pos : Pos} {Cl f : Addr} {fd : FuncData} {ps : List Str} {fs : FS} {wa wb : WE} (C : Cc X XE k) (hC : X.mg cn = some (.ref Cl)) (hs : PySem.W.findIn X.K (.ref Cl) "__contains__" = some (some (.ref f))) (hf : PySem.W.isFn X.K (.ref f) = true)
    (F : FnOk X.prog X.w X.K X.mg X.base (L2.CX X.prog X.w) j f fd ps (spOf X.K X.mg fs 2)) (hj : j ≤ k) (hb : Binds X.K fd ps []) (ha : PdE X XE a wa) (hb2 : PdE X XE b wb) (hm : behindInMarks .In b = false := by rfl) : PdE X XE (.Compare a [.In] [b] pos) (wOwnIn cn id fs wa wb) := by
  obtain ⟨ta, pa, sa⟩ := ha
  obtain ⟨tb, pb, sb⟩ := hb2
  exact ⟨_, pe_cmpR (own_in C hs hf F hj hb) pa pb hm, own_runIn (a := a) (b := b) hC sa sb fun x y H Q i2 h => ⟨i2, h⟩⟩
theorem pd_ownNotIn {j : Nat} {cn : Str} {a b : Expr} {pos : Pos} {Cl f : Addr} {fd : FuncData} {ps : List Str} {fs : FS} {wa wb : WE} (C : Cc X XE k) (hC : X.mg cn = some (.ref Cl)) (hs : PySem.W.findIn X.K (.ref Cl) "__contains__" = some (some (.ref f))) (hf : PySem.W.isFn X.K (.ref f) = true)
    (F : FnOk X.prog X.w X.K X.mg X.base (L2.CX X.prog X.w) j f fd ps (spOf X.K X.mg fs 2)) (hj : j ≤ k) (hb : Binds X.K fd ps []) (ha : PdE X XE a wa) (hb2 : PdE X XE b wb) (hm : behindInMarks .NotIn b = false := by rfl) : PdE X XE (.Compare a [.NotIn] [b] pos) (wOwnIn cn not fs wa wb) := by
  obtain ⟨ta, pa, sa⟩ := ha
  obtain ⟨tb, pb, sb⟩ := hb2
  exact ⟨_, pe_cmpR (own_notin C hs hf F hj hb) pa pb hm, own_runIn (a := a) (b := b) hC sa sb fun x y H Q i2 h => ⟨i2, h⟩⟩

/-! ### instances made -/
/-- a slot more at the end, that owns what was just made -/
theorem ext_ok {c : Cfg} {d : D} {v : V} {a : Addr} (ok : Ok X.K X.mg c) (o : Own X.K X.mg c.F c.H d v [a]) (h1 : c.F a = none) (h2 : c.H a ≠ none) (h3 : ∀ i, a ∉ c.fp i) : Ok X.K X.mg { c with σ := c.σ ++ [some v], ρ := c.ρ ++ [some (.own false d)], fp := fpSet c.fp c.ρ.length [a] } := by
  have hl := ok.len
  have beyond : ∀ i, c.ρ.length ≤ i → c.fp i = [] := fun i hi => ok.non i fun e z => by rw [List.getElem?_eq_none hi] at z; cases z
  refine ⟨ok.tabs, ok.sub, by simp [hl], fun i e q => ?_, fun i q => ?_, fun i b hb => ?_, fun i j b q1 q2 => ?_, ok.tf⟩
  · by_cases hi : i < c.ρ.length
    · have q' : (c.ρ ++ [some (.own false d)])[i]? = some (some e) := q
      rw [List.getElem?_append_left hi] at q'
      obtain ⟨w, hw, eo⟩ := ok.slot i e q'
      refine ⟨w, by show (c.σ ++ [some v])[i]? = _; rw [List.getElem?_append_left (by omega)]; exact hw, ?_⟩
      show EntOk X.K X.mg c.F c.H e w (fpSet c.fp c.ρ.length [a] i)
      rw [fpSet_ne (by omega)]; exact eo
    · have q' : (c.ρ ++ [some (.own false d)])[i]? = some (some e) := q
      rw [List.getElem?_append_right (by omega)] at q'
      by_cases he : i = c.ρ.length
      · subst he
        simp at q'
        subst q'
        refine ⟨v, by show (c.σ ++ [some v])[c.ρ.length]? = _; rw [hl]; simp, ?_⟩
        show Own X.K X.mg c.F c.H d v (fpSet c.fp c.ρ.length [a] c.ρ.length)
        rw [fpSet_same]; exact o
      · rw [List.getElem?_eq_none (by simp; omega)] at q'; cases q'
  · show fpSet c.fp c.ρ.length [a] i = []
    by_cases he : i = c.ρ.length
    · subst he
      exact absurd (show (c.ρ ++ [some (.own false d)])[c.ρ.length]? = some (some (.own false d)) by simp) (q _)
    · rw [fpSet_ne he]
      refine ok.non i fun e z => q e ?_
      have hi : i < c.ρ.length := (List.getElem?_eq_some_iff.mp z).1
      show (c.ρ ++ [some (.own false d)])[i]? = _
      rw [List.getElem?_append_left hi]; exact z
  · replace hb : b ∈ fpSet c.fp c.ρ.length [a] i := hb
    by_cases he : i = c.ρ.length
    · subst he
      rw [fpSet_same] at hb
      have : b = a := by simpa using hb
      subst this
      exact ⟨h1, h2⟩
    · rw [fpSet_ne he] at hb
      exact ok.out i b hb
  · replace q1 : b ∈ fpSet c.fp c.ρ.length [a] i := q1
    replace q2 : b ∈ fpSet c.fp c.ρ.length [a] j := q2
    by_cases hi : i = c.ρ.length
    · by_cases hj : j = c.ρ.length
      · rw [hi, hj]
      · rw [hi, fpSet_same] at q1
        rw [fpSet_ne hj] at q2
        have : b = a := by simpa using q1
        subst this
        exact absurd q2 (h3 j)
    · rw [fpSet_ne hi] at q1
      by_cases hj : j = c.ρ.length
      · rw [hj, fpSet_same] at q2
        have : b = a := by simpa using q2
        subst this
        exact absurd q1 (h3 i)
      · rw [fpSet_ne hj] at q2
        exact ok.disj i j b q1 q2
theorem toArgs_ext {ρ : Env} {e : Option Ent} : ∀ {rs : List R} {k : List Ent → Prop}, (∀ r ∈ rs, ∀ j, r = .slot j → j < ρ.length) → (toArgs (ρ ++ [e]) rs k ↔ toArgs ρ rs k)
  | [], _, _ => Iff.rfl
  | r :: rs, k, h => by
    have ea : argOf (ρ ++ [e]) r = argOf ρ r := by
      cases r with
      | slot j =>
        have := List.getElem?_append_left (l₂ := [e]) (h _ List.mem_cons_self j rfl)
        simp only [argOf, this]
      | _ => rfl
    unfold toArgs
    rw [ea]
    split
    · exact toArgs_ext fun r hr => h r (List.mem_cons_of_mem _ hr)
    · exact Iff.rfl
theorem rrvs_lt {c : Cfg} (ok : Ok X.K X.mg c) : ∀ {rs : List R} {vs : List V}, RRVs X.K X.mg c rs vs → ∀ r ∈ rs, ∀ j, r = .slot j → j < c.ρ.length
  | [], _, _, r, h, _, _ => by cases h
  | a :: rs, _, ⟨x, t, rfl, h1, h2⟩, r, h, j, e => by
    rcases List.mem_cons.mp h with rfl | h
    · subst e
      have h' : c.σ[j]? = some (some x) := h1
      have := (List.getElem?_eq_some_iff.mp h').1
      rw [ok.len]; exact this
    · exact rrvs_lt ok h2 r h j e
theorem rrvs_ext {c : Cfg} {v : V} {e : Option Ent} {fp : Nat → List Addr} {H : Hp} : ∀ {rs : List R} {vs : List V}, RRVs X.K X.mg c rs vs → RRVs X.K X.mg { c with H := H, σ := c.σ ++ [some v], ρ := c.ρ ++ [e], fp := fp } rs vs
  | [], _, h => h
  | a :: rs, _, ⟨x, t, ex, h1, h2⟩ => by
    refine ⟨x, t, ex, ?_, rrvs_ext h2⟩
    cases a with
    | val d => exact h1
    | tmp d => exact h1
    | slot j =>
      have h' : c.σ[j]? = some (some x) := h1
      have := (List.getElem?_eq_some_iff.mp h').1
      show (c.σ ++ [some v])[j]? = _
      rw [List.getElem?_append_left this]; exact h'
theorem make_run {cn : Str} {es : List Expr} {Cl : Addr} {fs : FS} {n : Nat} {dds : List D} {dvs : List V} {w : WR} {t : TA} (hC : X.mg cn = some (.ref Cl)) (hD : ∀ F, RepL X.K X.mg F dds dvs) (hl : es.length + 1 + dds.length = n)
    (s : ∀ (c : Cfg) (Qp : List R → Env → Prop) (Ep : Ex → Env → Prop) (Q : List V → Hp → Prop), Ok X.K X.mg c → w c.ρ Qp Ep → XOk X.K X.mg c Ep XE → (∀ vs c' rs, Go X.K X.mg c c' → c'.σ = c.σ → RRVs X.K X.mg c' rs vs → rs.length = es.length → Qp rs c'.ρ → Q vs c'.H) → t c.σ c.H Q) :
    SoE X XE (tMake Cl (spOf X.K X.mg fs n) dvs XE t) (wMake cn fs dds w) := by
  intro c Qp Ep Q ok hw x k
  refine s c _ Ep _ ok hw x fun vs c1 rs g1 e1 r1 l1 h1 => ?_
  intro a dx ha hdx ne
  -- the new instance
  have s1 : Step c1.F c1.H c1.F (upd c1.H dx (.own a)) := Step.new g1.ok.sub hdx
  have ha' : upd c1.H dx (.own a) a = none := by rw [upd_ne (Ne.symm ne)]; exact ha
  have s2 : Step c1.F (upd c1.H dx (.own a)) c1.F (upd (upd c1.H dx (.own a)) a (.ins Cl dx [])) := Step.new s1.sub ha'
  have gs := (s1.trans s2).go g1.ok
  have g2 := g1.trans X.K X.mg gs
  have aF : c1.F a = none := fresh_F g1.ok.sub ha
  have afp : ∀ i, a ∉ c1.fp i := fun i hi => (g1.ok.out i a hi).2 ha
  have okx := ext_ok (c := { c1 with F := c1.F, H := upd (upd c1.H dx (.own a)) a (.ins Cl dx []) }) (d := .obj cn [] []) (v := .ref a) (a := a) gs.ok ⟨a, Cl, dx, [], [], [], rfl, rfl, by simp, hC, upd_same, rfl, ⟨rfl, rfl⟩, fun _ h => by cases h⟩ aF (by show upd _ a _ a ≠ none; rw [upd_same]; simp) afp
  let cx : Cfg := { c1 with F := c1.F, H := upd (upd c1.H dx (.own a)) a (.ins Cl dx []), σ := c1.σ ++ [some (.ref a)], ρ := c1.ρ ++ [some (.own false (.obj cn [] []))], fp := fpSet c1.fp c1.ρ.length [a] }
  have lt := rrvs_lt g1.ok r1
  have frx : ∀ F' H', Frm cx.fp cx.F cx.H F' H' → Frm c1.fp c1.F c1.H F' H' := fun F' H' f => ⟨f.mono, fun b q1 q2 q3 q4 => by
    have hba : b ≠ a := fun z => by subst z; exact q2 ha
    have hbd : b ≠ dx := fun z => by subst z; exact q2 hdx
    have eH : cx.H b = c1.H b := by show upd (upd c1.H dx (.own a)) a _ b = _; rw [upd_ne hba, upd_ne hbd]
    have := f.keep b q1 (by rw [eH]; exact q2) (fun i hi => by
      have hi' : b ∈ fpSet c1.fp c1.ρ.length [a] i := hi
      by_cases he : i = c1.ρ.length
      · rw [he, fpSet_same] at hi'
        exact hba (by simpa using hi')
      · rw [fpSet_ne he] at hi'
        exact q3 i hi') (by rw [eH]; exact q4)
    rw [eH] at this; exact this, fun b q => by
    have hba : b ≠ a := fun z => by subst z; exact q ha
    have hbd : b ≠ dx := fun z => by subst z; exact q hdx
    refine f.grow b ?_
    show upd (upd c1.H dx (.own a)) a _ b ≠ none
    rw [upd_ne hba, upd_ne hbd]; exact q⟩
  have dropL : ∀ c2 : Cfg, Go X.K X.mg cx c2 → c2.σ = c1.σ ++ [some (.ref a)] → Go X.K X.mg c1 { c2 with σ := c1.σ, ρ := c2.ρ.take c1.ρ.length, fp := fpSet c2.fp c1.ρ.length [] } := fun c2 gg eσ2 => by
    have len2 : c1.ρ.length = c1.σ.length := g1.ok.len
    have l3 : c2.ρ.length = c1.ρ.length + 1 := by
      rw [gg.ok.len, eσ2]; simp [len2]
    have sub : ∀ i b, b ∈ fpSet c2.fp c1.ρ.length [] i → i ≠ c1.ρ.length ∧ b ∈ c2.fp i := fun i b hb => by
      by_cases he : i = c1.ρ.length
      · rw [he, fpSet_same] at hb; cases hb
      · rw [fpSet_ne he] at hb; exact ⟨he, hb⟩
    refine ⟨⟨gg.ok.tabs, gg.ok.sub, by simp [l3, ← len2], fun i y z => ?_, fun i z => ?_, fun i b hb => gg.ok.out i b (sub i b hb).2, fun i j b h1 h2 => gg.ok.disj i j b (sub i b h1).2 (sub j b h2).2, gg.ok.tf⟩, frx _ _ gg.fr, fun i b hb => ?_, fun i y z => ?_⟩
    · have z' : (c2.ρ.take c1.ρ.length)[i]? = some (some y) := z
      have hi : i < c1.ρ.length := by
        have := (List.getElem?_eq_some_iff.mp z').1
        simp at this; omega
      rw [List.getElem?_take_of_lt hi] at z'
      obtain ⟨w', hw', eo⟩ := gg.ok.slot i y z'
      have hw2 : c2.σ[i]? = some (some w') := hw'
      rw [eσ2, List.getElem?_append_left (by omega)] at hw2
      refine ⟨w', hw2, ?_⟩
      show EntOk X.K X.mg c2.F c2.H y w' (fpSet c2.fp c1.ρ.length [] i)
      rw [fpSet_ne (by omega)]
      exact eo
    · show fpSet c2.fp c1.ρ.length [] i = []
      by_cases he : i = c1.ρ.length
      · rw [he, fpSet_same]
      · rw [fpSet_ne he]
        refine gg.ok.non i fun y z2 => ?_
        have hi : i < c1.ρ.length := by
          have := (List.getElem?_eq_some_iff.mp z2).1
          omega
        exact z y (by show (c2.ρ.take c1.ρ.length)[i]? = _; rw [List.getElem?_take_of_lt hi]; exact z2)
    · obtain ⟨_, hb⟩ := sub i b hb
      rcases gg.orig i b hb with ⟨j, hj⟩ | h
      · have hj' : b ∈ fpSet c1.fp c1.ρ.length [a] j := hj
        by_cases he : j = c1.ρ.length
        · rw [he, fpSet_same] at hj'
          have : b = a := by simpa using hj'
          exact .inr (by rw [this]; exact ha)
        · rw [fpSet_ne he] at hj'
          exact .inl ⟨j, hj'⟩
      · refine .inr ?_
        cases q' : c1.H b with
        | none => rfl
        | some o =>
          have hba : b ≠ a := fun z => by subst z; rw [ha] at q'; cases q'
          have hbd : b ≠ dx := fun z => by subst z; rw [hdx] at q'; cases q'
          have h2 : upd (upd c1.H dx (.own a)) a (.ins Cl dx []) b = none := h
          rw [upd_ne hba, upd_ne hbd, q'] at h2
          cases h2
    · have hi : i < c1.ρ.length := (List.getElem?_eq_some_iff.mp z).1
      obtain ⟨d', b1, b2, b3⟩ := gg.bor i y (by show (c1.ρ ++ [some (.own false (.obj cn [] []))])[i]? = _; rw [List.getElem?_append_left hi]; exact z)
      refine ⟨d', by show (c2.ρ.take c1.ρ.length)[i]? = _; rw [List.getElem?_take_of_lt hi]; exact b1, ?_, rfl⟩
      show Grw (c1.fp i) (fpSet c2.fp c1.ρ.length [] i) c1.H
      have b2' : Grw (fpSet c1.fp c1.ρ.length [a] i) (c2.fp i) (upd (upd c1.H dx (.own a)) a (.ins Cl dx [])) := b2
      rw [fpSet_ne (by omega)] at b2'
      rw [fpSet_ne (by omega)]
      exact ⟨b2'.1, fun b hb => by
        rcases b2'.2 b hb with q2 | q2
        · exact .inl q2
        · refine .inr ?_
          by_cases z1 : b = a
          · rw [z1]; exact ha
          · by_cases z2 : b = dx
            · rw [z2]; exact hdx
            · rw [upd_ne z1, upd_ne z2] at q2; exact q2⟩
  have len2 : c1.ρ.length = c1.σ.length := g1.ok.len
  have nn : (c1.ρ ++ [some (.own false (.obj cn [] []))])[c1.ρ.length]? = some (some (.own false (.obj cn [] []))) := by simp
  refine call_coreP (fs := fs) (n := n) (c := cx) (rs := .slot c1.ρ.length :: rs) (vs := .ref a :: vs) (Xp := fun y args' => Ep y (backA rs args'.tail c1.ρ)) (Pp := fun r args' => match r, args' with
      | .val .non, .own true d :: rest => frz d (Qp (.val d) (backA rs rest c1.ρ))
      | _, _ => False) okx
    ⟨.ref a, vs, rfl, (by show (c1.σ ++ [some (.ref a)])[c1.ρ.length]? = _; rw [len2]; simp), rrvs_ext (c := c1) r1⟩ hD (by rw [List.length_cons, l1]; omega) ?_ ?_ ?_
  · show (match argOf (c1.ρ ++ [some (.own false (.obj cn [] []))]) (.slot c1.ρ.length) with | some b => _ | none => False)
    have ea : argOf (c1.ρ ++ [some (.own false (.obj cn [] []))]) (.slot c1.ρ.length) = some (.own true (.obj cn [] [])) := by
      show (match (c1.ρ ++ [some (.own false (.obj cn [] []))])[c1.ρ.length]? with
        | some (some (.val d)) => some (Ent.val d)
        | some (some (.own _ d)) => some (Ent.own true d)
        | _ => none) = _
      rw [nn]
    rw [ea]
    show toArgs (c1.ρ ++ _) rs _
    rw [toArgs_ext lt]
    refine (show ∀ (rs' : List R) (K1 K2 : List Ent → Prop), (∀ as, K1 as → K2 as) → toArgs c1.ρ rs' K1 → toArgs c1.ρ rs' K2 from fun rs' => ?_) rs _ _ (fun as q => ?_) h1
    · induction rs' with
      | nil => exact fun K1 K2 i q => i _ q
      | cons r rs' ih =>
        intro K1 K2 i q
        unfold toArgs at q ⊢
        split at q
        · exact ih _ _ (fun as => i _) q
        · exact q.elim
    · obtain ⟨q1, q2⟩ := q
      have e1 : ndS (.slot c1.ρ.length :: rs) = true := by
        have : rs.any (isSlot c1.ρ.length) = false := List.any_eq_false.mpr fun r hr => by
          cases r with
          | slot j =>
            have := lt _ hr j rfl
            simp [isSlot]; omega
          | _ => simp [isSlot]
        simp [ndS, this, q1]
      exact ⟨e1, q2⟩
  · intro y cls dd c' args' g e o xn eρ q
    have eσ3 : c'.σ = c1.σ ++ [some (.ref a)] := e
    refine x y cls dd { c' with σ := c1.σ, ρ := c'.ρ.take c1.ρ.length, fp := fpSet c'.fp c1.ρ.length [] } (g1.trans X.K X.mg (dropL _ g eσ3)) e1 o ?_ ?_
    · intro b eb
      obtain ⟨n1, n2, n3⟩ := xn b eb
      refine ⟨?_, n2, fun j hj => ?_⟩
      · cases q' : c.H b with
        | none => rfl
        | some u => exact absurd n1 (g2.fr.grow b (by rw [q']; simp))
      · have hj' : b ∈ fpSet c'.fp c1.ρ.length [] j := hj
        by_cases he : j = c1.ρ.length
        · rw [he, fpSet_same] at hj'; cases hj'
        · rw [fpSet_ne he] at hj'; exact n3 j hj'
    show Ep y (c'.ρ.take c1.ρ.length)
    have tk : c'.ρ.take c1.ρ.length = backA rs args'.tail c1.ρ := by
      apply List.ext_getElem?
      intro j
      by_cases hj : j < c1.ρ.length
      · rw [List.getElem?_take_of_lt hj, eρ, backA_get, backA_get]
        show ((c1.ρ ++ [some (.own false (.obj cn [] []))])[j]?).map _ = _
        rw [List.getElem?_append_left hj]
        have ef : backE (.slot c1.ρ.length :: rs) args' j = backE rs args'.tail j := by
          funext z
          have : findOwn (.slot c1.ρ.length :: rs) args' j = findOwn rs args'.tail j := findOwn_tl (by omega)
          unfold backE
          rw [this]
        rw [ef]
      · have l3 : c'.ρ.length = c1.ρ.length + 1 := by
          rw [g.ok.len, eσ3]; simp [len2]
        rw [List.getElem?_eq_none (by simp; omega), List.getElem?_eq_none (by rw [backA_len]; omega)]
    rw [tk]; exact q
  · intro v c' r args' g e rr eρ p
    cases r with
    | tmp d => exact p.elim
    | slot i => exact p.elim
    | val d0 =>
      cases args' with
      | nil => cases d0 <;> exact p.elim
      | cons a0 rest =>
        cases a0 with
        | val d => cases d0 <;> exact p.elim
        | own b d =>
          cases b with
          | false => cases d0 <;> exact p.elim
          | true =>
            cases d0 with
            | non =>
              refine ⟨rr, ?_⟩
              have p' : frz d (Qp (.val d) (backA rs rest c1.ρ)) := p
              have hn' : c'.ρ[c1.ρ.length]? = some (some (.own false d)) := by
                rw [eρ, backA_get]
                show ((c1.ρ ++ [some (.own false (.obj cn [] []))])[c1.ρ.length]?).map _ = _
                rw [nn]
                simp [backE, findOwn]
              obtain ⟨q, v', F', hv', rp, g'⟩ := freeze_slot g.ok hn' p'
              have hva : v' = .ref a := by
                rw [e] at hv'
                have hv2 : (c1.σ ++ [some (V.ref a)])[c1.ρ.length]? = some (some v') := hv'
                rw [len2] at hv2
                simp at hv2
                exact hv2.symm
              subst hva
              have gg := g.trans X.K X.mg g'
              have eσ3 : c'.σ = c1.σ ++ [some (.ref a)] := e
              have l3 : c'.ρ.length = c1.ρ.length + 1 := by
                rw [g.ok.len, eσ3]; simp [len2]
              have tk : (c'.ρ.set c1.ρ.length (some (.val d))).take c1.ρ.length = backA rs rest c1.ρ := by
                apply List.ext_getElem?
                intro j
                by_cases hj : j < c1.ρ.length
                · rw [List.getElem?_take_of_lt hj, List.getElem?_set_ne (by omega), eρ, backA_get, backA_get]
                  show ((c1.ρ ++ [some (.own false (.obj cn [] []))])[j]?).map _ = _
                  rw [List.getElem?_append_left hj]
                  have ef : backE (.slot c1.ρ.length :: rs) (.own true d :: rest) j = backE rs rest j := by
                    funext y
                    have : findOwn (.slot c1.ρ.length :: rs) (.own true d :: rest) j = findOwn rs rest j := by
                      show (if c1.ρ.length = j then some d else findOwn rs rest j) = _
                      rw [if_neg (by omega)]
                    unfold backE
                    rw [this]
                  rw [ef]
                · rw [List.getElem?_eq_none (by simp; omega), List.getElem?_eq_none (by rw [backA_len]; omega)]
              have gT := dropL _ gg eσ3
              exact k (.ref a) { c' with F := F', σ := c1.σ, ρ := (c'.ρ.set c1.ρ.length (some (.val d))).take c1.ρ.length, fp := fpSet (fpSet c'.fp c1.ρ.length []) c1.ρ.length [] } (.val d) (g1.trans X.K X.mg gT) e1 rp (by show Qp (.val d) ((c'.ρ.set c1.ρ.length (some (.val d))).take c1.ρ.length); rw [tk]; exact q)
            | _ => exact p.elim
theorem pd_make {j : Nat} {cn : Str} {Cl f : Addr} {fd : FuncData} {ps : List Str} {p pos : Pos} {e : Expr} {es : List Expr} {fs : FS} {dds : List D} {dvs : List V} {ds : List Value} {w : WR} (C : Cc X XE k) (M : Mk X.K Cl f) (F : FnOk X.prog X.w X.K X.mg X.base (L2.CX X.prog X.w) j f fd ps (spOf X.K X.mg fs ps.length)) (hj : j + 1 ≤ k)
    (hC : X.mg cn = some (.ref Cl)) (hb : Binds X.K fd ps ds) (hd : Vals dvs ds) (hD : ∀ F, RepL X.K X.mg F dds dvs) (ha : PdV X XE (e :: es) w) (hl : (e :: es).length + 1 + dds.length = ps.length := by rfl)
    (gl : Gl X cn := by rfl) (hdb : (cn == ("__debug__" : Str)) = false := by decide) (he : starEach (e :: es) X.env = (false, eval e X.env) :: starEach es X.env := by rfl) (hpl : (backTo pos (starEach es X.env)).any (·.1) = false := by rfl) :
    PdE X XE (.Call (.Name cn p) (e :: es) [] pos) (wMake cn fs dds w) := by
  obtain ⟨t, pa, s⟩ := ha
  exact ⟨_, pe_make (E := XE) M F (C.room.mono hj) gl hC hb hd C.pas pa hdb he hpl, make_run (es := e :: es) hC hD hl s⟩
theorem pd_make0 {j : Nat} {cn : Str} {Cl f : Addr} {fd : FuncData} {ps : List Str} {p pos : Pos} {fs : FS} {dds : List D} {dvs : List V} {ds : List Value} (C : Cc X XE k) (M : Mk X.K Cl f) (F : FnOk X.prog X.w X.K X.mg X.base (L2.CX X.prog X.w) j f fd ps (spOf X.K X.mg fs ps.length)) (hj : j + 1 ≤ k)
    (hC : X.mg cn = some (.ref Cl)) (hb : Binds X.K fd ps ds) (hd : Vals dvs ds) (hD : ∀ F, RepL X.K X.mg F dds dvs) (hl : 1 + dds.length = ps.length := by rfl)
    (gl : Gl X cn := by rfl) (hdb : (cn == ("__debug__" : Str)) = false := by decide) :
    PdE X XE (.Call (.Name cn p) [] [] pos) (wMake cn fs dds wVn) :=
  ⟨_, pe_make0 (E := XE) M F (C.room.mono hj) gl hC hb hd C.pas hdb, make_run (es := []) hC hD (by simpa using hl) fun c Qp Ep Q ok hw x k => k [] c [] (Go.refl _ _ ok) rfl rfl rfl hw⟩
end
end PL
/-! PL11: enumerate of lists and tuples; lists' methods; x op= e; sorted of pairs. -/
namespace PySem
theorem pl_meets_enumerate_new1B {v : Value} {o : Obj} {H : Heap → Prop} (B : Begins v o H) :
    Meets (Builtin.«enumerate.__new__» ⟨[.type "enumerate", v], []⟩) (fun _ R s => H s.heap ∧
      R (.ok (.ret (.ref (s.heap.push o).objs.size))) { s with heap := (s.heap.push o).push { cls := .type "enumerate", data := .fields #[.none, .bool false, .ref s.heap.objs.size, rawInt 0, .none, .none] } }) :=
  .of_wp fun prog w A R s h => by
    obtain ⟨hp, g, d, tk, os⟩ := s; obtain ⟨h1, h⟩ := h
    have hsub := sub_enumerate
    have q1 : ∀ {A' : Around} {E : Value → Shared → Prop} {Q : Value → Shared → Prop}, Q (.ref hp.objs.size) ⟨hp.push o, g, d, tk, os⟩ → wpAny (model prog w) A' (pyIter v) Q E ⟨hp, g, d, tk, os⟩ :=
      fun q => B.iter prog w _ _ ⟨hp, g, d, tk, os⟩ _ h1 q
    wp_walk using q1
    refine wpAny_stack_any fun st => wpAny_pure ?_
    split
    · rename_i c _ _ _ _ _
      cases (c == Value.type "enumerate")
      · wp_walk using q1
        exact ⟨_, rfl, h⟩
      · wp_walk using q1
        exact ⟨_, rfl, h⟩
    · wp_walk using q1
      exact ⟨_, rfl, h⟩
section
variable {prog : Program} {w : World} {A : Around} {E : Value → Shared → Prop} {s : Shared}
theorem pl_enum1_begins {v : Value} {o : Obj} {H : Heap → Prop} {Q : Value → Shared → Prop} (B : Begins v o H) (h1 : H s.heap)
    (h : ∀ h', IsEnum h' (s.heap.objs.size + 1) s.heap.objs.size 0 .none → h'.get? s.heap.objs.size = some o → h'.objs.size = s.heap.objs.size + 2 →
      (∀ b o, s.heap.get? b = some o → h'.get? b = some o) → Q (.ref (s.heap.objs.size + 1)) { s with heap := h' }) :
    wpAny (model prog w) A (call (.type "enumerate") [v]) Q E s := by
  refine callType_new F.called_enumerate (by decide) (F.typeCall_enumerate_1 _) (F.newCall_enumerate_1 _) (fun obj => F.args_object_init_2 obj _) F.entry_enumerate_new
    (pl_meets_enumerate_new1B B) ⟨h1, ?_⟩
  have hz : (s.heap.push o).objs.size = s.heap.objs.size + 1 := Heap.size_push ..
  show _ ∧ _
  rw [hz]
  have he : IsEnum ((s.heap.push o).push { cls := .type "enumerate", data := .fields #[.none, .bool false, .ref s.heap.objs.size, rawInt 0, .none, .none] }) (s.heap.objs.size + 1) s.heap.objs.size 0 .none := by
    have := Heap.get?_push_size (s.heap.push o) (o := { cls := .type "enumerate", data := .fields #[.none, .bool false, .ref s.heap.objs.size, rawInt 0, .none, .none] }) rfl
    rw [hz] at this; exact this
  refine ⟨⟨_, he, rfl⟩, h _ he (Heap.get?_push_of_some _ (Heap.get?_push_size _ B.free)) (by rw [Heap.size_push, hz]) fun b o x => Heap.get?_push_of_some _ (Heap.get?_push_of_some _ x)⟩
end
end PySem
namespace PL
open PySem PySem.Spec PyProof.Rows L2
variable [HasT]
/-- the tuple at a, each item in a new pair -/
def IteT (K : PySem.W.Frag) (a : Addr) : It :=
  ⟨fun i H => ∃ (xs : List V) (x : V), SqT K H a xs ∧ xs[i]? = some x, fun i H v H' => ∃ T x, v = .ref T ∧ H T = none ∧ H' = upd H T (.tup [.int (i : Nat), x]) ∧ ∀ xs, SqT K H a xs → xs[i]? = some x, fun i H => ∃ xs : List V, SqT K H a xs ∧ xs.length ≤ i⟩
theorem turn_enumT {P : Program} {w : World} {K : PySem.W.Frag} {elts : List Expr} {kk : Nat} {tpos : Pos} (a e it : Addr) :
    Turn P w K (.Tuple elts kk tpos) (IteT K a) [e, it] e (fun i h => (∃ old, IsEnum h e it ((i : Nat) : Int) old) ∧ h.IsTupleIter it a i ∧ e ≠ it) where
  mem := by simp
  obj := fun i h st b hb => by
    obtain ⟨⟨old, he⟩, ⟨o, ho, hc, hd⟩, _⟩ := st
    have e' : b = e ∨ b = it := by simpa using hb
    rcases e' with z | z
    · rw [z]; exact ⟨_, he, fun v q => nomatch q⟩
    · rw [z]; exact ⟨o, ho, fun v q => by rw [hd] at q; cases q⟩
  keep := fun i h h' st k => let ⟨⟨old, he⟩, hi, hne⟩ := st; ⟨⟨old, k e (by simp) _ he⟩, hi.at fun o q => k it (by simp) o q, hne⟩
  item := by
    intro X hP hw hK hc i pins s σ H E I hf st hg
    subst hP hw hK
    obtain ⟨⟨old, he⟩, hit, hne⟩ := st
    obtain ⟨xs, x, hq, hx⟩ := hg
    obtain ⟨its, rv, p, hz⟩ := I.tuple hq
    obtain ⟨u, hu, ru⟩ := rv.get hx
    have hta : s.heap.IsTuple a its.toArray := p
    have hel : e < s.heap.objs.size := Heap.lt_size he
    have hil : it < s.heap.objs.size := by obtain ⟨_, q, _⟩ := hit; exact Heap.lt_size q
    have hea : e ≠ a := fun z => by
      subst z
      obtain ⟨o, h1, h2, _⟩ := hta
      rw [show s.heap.get? e = _ from he] at h1; cases h1
      exact absurd h2 (by simp)
    have hia : it ≠ a := fun z => by
      subst z
      obtain ⟨o, h1, h2, _⟩ := hta
      obtain ⟨o', h3, h4, _⟩ := hit
      rw [h1] at h3; cases h3
      rw [h2] at h4
      exact absurd h4 (by simp)
    refine wpAny_pyNext_enum_itemD (Draws.tuple (prog := X.prog) (w := X.w) (A := X.A.in1) (show X.A.in1.handled = none from I.ok.hd hc) it a (Ne.symm hia) its.toArray) he ⟨hit, hta⟩ (by
      have := (List.getElem?_eq_some_iff.mp hu).1
      simpa using this) hne (by simp [hne, hea]) fun v h' tk hv ho hst' hT hsz hk => ?_
    have hvu : v = u := by
      have hv' : its[i]? = some v := by simpa using hv
      rw [hu] at hv'; exact (Option.some.inj hv').symm
    subst hvu
    refine ⟨_, rfl, wpAny_letOwnedTupleGo_enum (s := { s with heap := h', toks := tk + 1 }) ho fun h'' he' sb => ?_⟩
    have hT2 : h''.get? s.heap.objs.size = some { cls := .type "tuple", data := .seq #[.int i tk, v] } := (sb.2 _ (Nat.ne_of_gt hel)).trans hT
    have new : ObjOk X.prog X.w (upd H s.heap.objs.size (.tup [.int (i : Nat), x])) h'' s.heap.objs.size (.tup [.int (i : Nat), x]) :=
      ⟨by show 2 ≤ sizeLine; decide, [.int i tk, v], .cons ⟨_, rfl⟩ (.cons ru .nil), ⟨_, hT2, rfl, _, rfl⟩⟩
    have I1 : Inv X pins σ (upd H s.heap.objs.size (.tup [.int (i : Nat), x])) { s with heap := h'', toks := tk + 1 } :=
      I.turnedNew (ch := [e, it]) (fun b ob hb q => (sb.2 b (fun z => hb (by simp [z]))).trans (hk b ob (fun z => hb (by simp [z])) (fun z => hb (by simp [z])) q)) hf (Nat.le_refl _) new
    refine ⟨.ref s.heap.objs.size, _, I1, rfl, ⟨_, x, rfl, I.hok.fresh (Nat.le_refl _), rfl, fun ys hy => by rw [I.tuple_inj hy hq]; exact hx⟩, ⟨⟨v, ?_⟩, hst'.1.at fun o q => (sb.2 it (Ne.symm hne)).trans q, hne⟩, fun b hb => ?_⟩
    · have e1 : ((i + 1 : Nat) : Int) = (i : Int) + 1 := by omega
      rw [e1]; exact he'
    · have hb' : b < s.heap.objs.size := by
        have e' : b = e ∨ b = it := by simpa using hb
        rcases e' with z | z
        · rw [z]; exact hel
        · rw [z]; exact hil
      rw [upd_ne (Nat.ne_of_lt hb')]
      exact (hf b hb).1
  done := by
    intro X hP hw hK hc i pins s σ H E I hf st hg
    subst hP hw hK
    obtain ⟨⟨old, he⟩, hit, hne⟩ := st
    obtain ⟨xs, hq, hx⟩ := hg
    obtain ⟨its, rv, p, hz⟩ := I.tuple hq
    have hta : s.heap.IsTuple a its.toArray := p
    obtain ⟨f0, f1, f2, f3, f4, f5⟩ := hf it (by simp)
    have hl := rv.length
    have hia : it ≠ a := fun z => by
      subst z
      obtain ⟨o, h1, h2, _⟩ := hta
      obtain ⟨o', h3, h4, _⟩ := hit
      rw [h1] at h3; cases h3
      rw [h2] at h4
      exact absurd h4 (by simp)
    have D : Draws X.prog X.w X.A.in1 it [it, a] i (fun _ _ => False) (fun j h => j = i ∧ h.IsTupleIter it a i ∧ h.IsTuple a its.toArray) :=
      { live := fun _ _ st => let ⟨o, ho, _⟩ := st.2.1; ⟨o, ho⟩
        frame := fun _ _ _ st hk => ⟨st.1, st.2.1.at fun o e => hk it (by simp) o e, st.2.2.at fun o e => hk a (by simp) o e⟩
        item := fun j s Q E hj st _ => absurd st.1 (Nat.ne_of_lt hj)
        done := fun s Q E st hE => wpAny_nextOf_tuple_end (show X.A.in1.handled = none from I.ok.hd hc) st.2.1 st.2.2 (by simp; omega) hE }
    exact wpAny_pyNext_enum_endD D he ⟨rfl, hit, hta⟩ fun h' eb => ⟨rfl, I.turned (t' := s.toks) (fun b o hb q => eb b o hb q) f0 f1 f3 f4 f5⟩
  self := fun A i s Q E st h => let ⟨⟨_, he⟩, _⟩ := st; wpAny_pyIter_enum he h
section
variable {X : Cx} {XE : XK} {k : Nat}
def iEnumA (K : PySem.W.Frag) (ta : TA) : TI := fun σ H R => ta σ H fun vs H1 => ∃ a xs, vs = [.ref a] ∧ ((SqL K H1 a xs ∧ (LenH H1 → R (Ite K a) H1)) ∨ (SqT K H1 a xs ∧ (LenH H1 → R (IteT K a) H1)))
theorem pi_enumA {e : Expr} {ta : TA} {p pos tpos : Pos} {elts : List Expr} {kk : Nat} (hg : Gl X "enumerate") (hm : X.mg "enumerate" = none) (ha : PA X [e] ta) (hs : starEach [e] X.env = [(false, eval e X.env)] := by rfl) :
    PI X (.Tuple elts kk tpos) (.Call (.Name "enumerate" p) [e] [] pos) (iEnumA X.K ta) := by
  refine ⟨fun pins s σ H R I h => ?_⟩
  refine Call_ (ld_blt I hg hm boot_enumerate (PyProof.Rows.callWith_type1 (thn (ha.run pos pins s σ H _ I h) fun us s1 ⟨vs, H1, I1, r1, q1⟩ => ?_) hs rfl))
  obtain ⟨a, xs, ex, q⟩ := q1
  subst ex
  have LH := lenH_of I1
  have fresh2 : ∀ b, b ∈ [s1.heap.objs.size + 1, s1.heap.objs.size] → FpOk X pins H1 b := fun b hb => by
    have e' : b = s1.heap.objs.size + 1 ∨ b = s1.heap.objs.size := by simpa using hb
    have hle : s1.heap.objs.size ≤ b := by
      rcases e' with z | z
      · rw [z]; exact Nat.le_add_right _ _
      · rw [z]; exact Nat.le_refl _
    exact I1.fpOk hle (I1.hok.fresh hle)
  cases r1 with
  | cons r rr =>
    cases rr
    cases r
    rcases q with ⟨hq, q⟩ | ⟨hq, q⟩
    · obtain ⟨its, rv, p', hz⟩ := I1.list hq
      refine call_enumerate_list p'.isList fun h' he hit hsz hk => wpAny_pyIter_enum he ?_
      have I2 : Inv X pins σ H1 { s1 with heap := h' } := I1.kept (t' := s1.toks) hk
      exact ⟨s1.heap.objs.size + 1, [s1.heap.objs.size + 1, s1.heap.objs.size], _, _, H1, rfl, I2, turn_enum a (s1.heap.objs.size + 1) s1.heap.objs.size, ⟨⟨.none, he⟩, hit, Nat.succ_ne_self _⟩, fresh2, q LH⟩
    · obtain ⟨its, rv, p', hz⟩ := I1.tuple hq
      refine pl_enum1_begins (begins_tuple a its.toArray) (show s1.heap.IsTuple a its.toArray from p') fun h' he hit hsz hk => wpAny_pyIter_enum he ?_
      have I2 : Inv X pins σ H1 { s1 with heap := h' } := I1.kept (t' := s1.toks) hk
      exact ⟨s1.heap.objs.size + 1, [s1.heap.objs.size + 1, s1.heap.objs.size], _, _, H1, rfl, I2, turn_enumT a (s1.heap.objs.size + 1) s1.heap.objs.size, ⟨⟨.none, he⟩, ⟨_, hit, rfl, rfl⟩, Nat.succ_ne_self _⟩, fresh2, q LH⟩
def enumD (ds : List D) : List D := ds.zipIdx.map fun p => D.tup [.int (p.2 : Nat), p.1]
theorem it_enumT {K : PySem.W.Frag} {mg : Str → Option Value} {a : Addr} {ds : List D} (hl : ds.length ≤ sizeLine) : ItOk K mg (IteT K a) (enumD ds) (fun F => ∃ xs, SqT K F a xs ∧ RepL K mg F ds xs) := by
  unfold enumD
  refine ⟨fun F H i d s _ ⟨xs, h, r⟩ e => ?_, fun F H s ⟨xs, h, r⟩ => ⟨xs, s.sqT K h, by simp [r.len K mg]⟩, fun F F' m ⟨xs, h, r⟩ => ⟨xs, m.sqT K h, r.mono K mg m _ _⟩, by simpa using hl⟩
  rw [List.getElem?_map, List.getElem?_zipIdx] at e
  cases q : ds[i]? with
  | none => rw [q] at e; cases e
  | some d' =>
    rw [q] at e
    simp only [Option.map_some, Option.some.injEq] at e
    subst e
    obtain ⟨x, hx, rx⟩ := r.get K mg q
    refine ⟨⟨xs, x, s.sqT K h, hx⟩, fun y H' z => ?_⟩
    obtain ⟨T, x', rfl, hT, rfl, hxs⟩ := z
    have := hxs xs (s.sqT K h)
    rw [hx] at this; cases this
    have r0 : Rep K mg F (.int ((0 + i : Nat) : Int)) (V.int (i : Nat)) := by show V.int _ = V.int _; simp
    exact step_pair s hT r0 rx
def wEnum (w : WE) : WI := fun ρ Q Ep => wK w ρ (fun d ρ' => match d with
  | .lst ds => Q (enumD ds) ρ'
  | .tup ds => Q (enumD ds) ρ'
  | _ => False) Ep
theorem pi_enu {e : Expr} {w : WE} {p pos tpos : Pos} {elts : List Expr} {kk : Nat} (hg : Gl X "enumerate") (hm : X.mg "enumerate" = none) (h : PdE X XE e w) (hs : starEach [e] X.env = [(false, eval e X.env)] := by rfl) (hs1 : starEach [e] X.env = (false, eval e X.env) :: starEach [] X.env := by rfl) :
    PdI X XE (.Tuple elts kk tpos) (.Call (.Name "enumerate" p) [e] [] pos) (wEnum w) := by
  obtain ⟨t, pe, s⟩ := h
  refine ⟨_, pi_enumA hg hm (pa_cons pe pa_nil hs1) hs, fun c Qp Ep R ok hw x k => ?_⟩
  refine runK (e := e) s ok hw x fun v c1 d g1 e1 r1 h1 => ?_
  cases d with
  | lst ds =>
    obtain ⟨a, xs, rfl, ha, ra⟩ := r1
    exact ⟨a, xs, rfl, .inl ⟨SqL.of (g1.ok.sub.lst ha), fun L => k _ (enumD ds) _ c1 g1 e1 (it_enum (L.lst g1.ok.sub ha ra)) ⟨xs, ha, ra⟩ h1⟩⟩
  | tup ds =>
    obtain ⟨a, xs, rfl, ha, ra⟩ := r1
    exact ⟨a, xs, rfl, .inr ⟨g1.ok.sub.sqT X.K ha, fun L => k _ (enumD ds) _ c1 g1 e1 (it_enumT (L.tup g1.ok.sub ha ra)) ⟨xs, ha, ra⟩ h1⟩⟩
  | _ => exact h1.elim

/-! ### lists' methods: the receiver a name -/
/-- x.append(e) -/
def wAppend (i : Nat) (w : WE) : WE := fun ρ Q Ep => (match ρ[i]? with
  | some (some (.own _ (.lst _))) => True
  | _ => False) ∧ wK w ρ (fun d ρ' => match ρ'[i]? with
  | some (some (.own b (.lst ds))) => ds.length < sizeLine ∧ Q (.val .non) (ρ'.set i (some (.own b (.lst (ds ++ [d])))))
  | _ => False) Ep
/-- x.extend(e) -/
def wExtend (i : Nat) (w : WE) : WE := fun ρ Q Ep => (match ρ[i]? with
  | some (some (.own _ (.lst _))) => True
  | _ => False) ∧ wK w ρ (fun d ρ' => match d with
  | .lst es => match ρ'[i]? with
    | some (some (.own b (.lst ds))) => ds.length + es.length ≤ sizeLine ∧ Q (.val .non) (ρ'.set i (some (.own b (.lst (ds ++ es)))))
    | _ => False
  | _ => False) Ep
theorem own_list {c : Cfg} {i : Nat} (ok : Ok X.K X.mg c) (h : match c.ρ[i]? with | some (some (.own _ (.lst _))) => True | _ => False) : ∃ a xs, c.σ[i]? = some (some (.ref a)) ∧ c.H a = some (.lst xs) := by
  split at h
  next b ds hρ =>
    obtain ⟨v, hv, a, xs, rfl, _, ha, _⟩ := ok.own hρ
    exact ⟨a, xs, hv, ha⟩
  next => exact h.elim
theorem upd_ft {H : Hp} {a : Addr} {o : HO} {ft : List Addr} (e : ft = [a]) : (∀ b, b ∉ ft → upd H a o b = H b) ∧ ∀ b ∈ ft, upd H a o b ≠ none := by
  subst e
  refine ⟨fun b hb => upd_ne (by simpa using hb), fun b hb => ?_⟩
  have : b = a := by simpa using hb
  subst this
  rw [upd_same]; simp
theorem pd_append {i : Nat} {x : Str} {e : Expr} {p apos cpos : Pos} {w : WE} (hx : PE X (.Name x p) (tVar i)) (h : PdE X XE e w)
    (hbase : attributeBase (.Name x p) "append" X.env (eval (.Name x p) X.env) = eval (.Name x p) X.env := by rfl)
    (hfew : ((backTo cpos (starEach [e] X.env)).all (fun x => !x.1) && (backToKw cpos (keywordEach [] X.env)).all (fun x => x.1.isSome)
      && decide ([e].length + ([] : List Keyword).length + (if ([] : List Keyword).isEmpty then 0 else 1) < 30)) = true := by rfl)
    (hline : (apos.endLine == cpos.line) = true := by rfl) (hs : starEach [e] X.env = (false, eval e X.env) :: starEach [] X.env := by rfl) (hplain : (backTo cpos (starEach [] X.env)).any (·.1) = false := by rfl) :
    PdE X XE (.Call (.Attribute (.Name x p) "append" apos) [e] [] cpos) (wAppend i w) := by
  obtain ⟨t, pe, s⟩ := h
  refine ⟨_, pe_bm PySem.F.plainAttrs_list PySem.F.slot_list_append PySem.F.type_list_append mt_append hx (pa_cons pe pa_nil hs) hbase hfew hline hs hplain, fun c Qp Ep Q ok hw x k => ?_⟩
  obtain ⟨h0, hw⟩ := hw
  obtain ⟨a0, xs0, hv0, ha0⟩ := own_list ok h0
  refine ⟨.ref a0, hv0, .inl ⟨rfl, xs0, SqL.of ha0⟩, ?_⟩
  refine runK (e := e) s ok hw x fun v c1 d g1 e1 r1 h1 => ?_
  split at h1
  next b ds hρ =>
    obtain ⟨hz, h1⟩ := h1
    obtain ⟨v1, hv1, a, xs, rfl, hft, ha, ra⟩ := g1.ok.own hρ
    rw [e1] at hv1
    rw [hv0] at hv1; cases hv1
    have u := upd_ft (H := c1.H) (o := .lst (xs ++ [v])) hft
    refine ⟨a0, xs, v, rfl, rfl, ha, by rw [← ra.len X.K X.mg]; exact hz, ?_⟩
    have g2 := write_slot (H' := upd c1.H a0 (.lst (xs ++ [v]))) (d' := .lst (ds ++ [d])) g1.ok hρ (by rw [e1]; exact hv0) ⟨a0, _, rfl, hft, upd_same, ra.app X.K X.mg (RepL.one X.K X.mg r1)⟩ u.1 u.2
    exact k _ { c1 with H := upd c1.H a0 (.lst (xs ++ [v])), ρ := c1.ρ.set i (some (.own b (.lst (ds ++ [d])))) } (.val .non) (g1.trans X.K X.mg g2) e1 rfl h1
  next => exact h1.elim
theorem pd_extend {i : Nat} {x : Str} {e : Expr} {p apos cpos : Pos} {w : WE} (hx : PE X (.Name x p) (tVar i)) (h : PdE X XE e w)
    (hbase : attributeBase (.Name x p) "extend" X.env (eval (.Name x p) X.env) = eval (.Name x p) X.env := by rfl)
    (hfew : ((backTo cpos (starEach [e] X.env)).all (fun x => !x.1) && (backToKw cpos (keywordEach [] X.env)).all (fun x => x.1.isSome)
      && decide ([e].length + ([] : List Keyword).length + (if ([] : List Keyword).isEmpty then 0 else 1) < 30)) = true := by rfl)
    (hline : (apos.endLine == cpos.line) = true := by rfl) (hs : starEach [e] X.env = (false, eval e X.env) :: starEach [] X.env := by rfl) (hplain : (backTo cpos (starEach [] X.env)).any (·.1) = false := by rfl) :
    PdE X XE (.Call (.Attribute (.Name x p) "extend" apos) [e] [] cpos) (wExtend i w) := by
  obtain ⟨t, pe, s⟩ := h
  refine ⟨_, pe_bm PySem.F.plainAttrs_list PySem.F.slot_list_extend PySem.F.type_list_extend mt_extend hx (pa_cons pe pa_nil hs) hbase hfew hline hs hplain, fun c Qp Ep Q ok hw x k => ?_⟩
  obtain ⟨h0, hw⟩ := hw
  obtain ⟨a0, xs0, hv0, ha0⟩ := own_list ok h0
  refine ⟨.ref a0, hv0, .inl ⟨rfl, xs0, SqL.of ha0⟩, ?_⟩
  refine runK (e := e) s ok hw x fun v c1 d g1 e1 r1 h1 => ?_
  cases d with
  | lst es =>
    dsimp only at h1
    split at h1
    next b ds hρ =>
      obtain ⟨hz, h1⟩ := h1
      obtain ⟨v1, hv1, a, xs, rfl, hft, ha, ra⟩ := g1.ok.own hρ
      obtain ⟨b', ys, rfl, hb', rb⟩ := r1
      rw [e1] at hv1
      rw [hv0] at hv1; cases hv1
      have u := upd_ft (H := c1.H) (o := .lst (xs ++ ys)) hft
      refine ⟨a0, b', xs, ys, rfl, rfl, ha, g1.ok.sub.lst hb', by rw [← ra.len X.K X.mg, ← rb.len X.K X.mg]; exact hz, ?_⟩
      have g2 := write_slot (H' := upd c1.H a0 (.lst (xs ++ ys))) (d' := .lst (ds ++ es)) g1.ok hρ (by rw [e1]; exact hv0) ⟨a0, _, rfl, hft, upd_same, ra.app X.K X.mg rb⟩ u.1 u.2
      exact k _ { c1 with H := upd c1.H a0 (.lst (xs ++ ys)), ρ := c1.ρ.set i (some (.own b (.lst (ds ++ es)))) } (.val .non) (g1.trans X.K X.mg g2) e1 rfl h1
    next => exact h1.elim
  | _ => exact h1.elim

/-! ### x op= e, ints -/
theorem ip_mul : PIp X .Mult (fun x y H Q => ∃ i j, x = .int i ∧ y = .int j ∧ CMul i j ∧ Q (.int (i * j)) H) := by
  intro pins s σ H x y v u Q I r1 r2 h
  obtain ⟨i, j, e1, e2, hc, q⟩ := h
  subst e1; subst e2
  obtain ⟨t, rfl⟩ := r1
  obtain ⟨t', rfl⟩ := r2
  exact imul_int ⟨.int _, H, I.tok _, ⟨_, rfl⟩, q⟩ hc.ok
def wAugI (i : Nat) (C : Int → Int → Prop) (f : Int → Int → Int) (w : WE) : WS := fun Dp ρ => match ρ[i]? with
  | some (some (.val (.int m))) => w ρ (fun r ρ' => match r with
    | .val (.int n) => C m n ∧ (match ρ'[i]? with
      | some (some (.own _ _)) => False
      | some _ => Dp.nx (ρ'.set i (some (.val (.int (f m n)))))
      | none => False)
    | _ => False) Dp.ex
  | _ => False
theorem pst_mul {i : Nat} {x : Str} {e : Expr} {pos' pos : Pos} {w : WE} (hN : X.N.Nodup) (h : PdE X XE e w) (hi : X.N[i]? = some x := by rfl) (hx : Loc X.env.scope x := by first | exact Or.inl rfl | exact Or.inr rfl)
    (hf : X.fn x = true ∨ X.env.scope.names.lookup x = some .local := by first | exact .inl rfl | exact .inr rfl | assumption) : PdS X XE (.AugAssign (.Name x pos') .Mult e pos) (wAugI i CMul (· * ·) w) := by
  obtain ⟨t, p, s⟩ := h
  refine ⟨_, ps_aug hN hi hx p ip_mul hf, fun c Dp D ok hw P => ?_⟩
  unfold wAugI at hw
  split at hw
  next m hm =>
    obtain ⟨v, hv, rv, _⟩ := ok.val hm
    refine ⟨v, hv, ?_⟩
    refine s c _ _ _ ok hw (P.2.2.2.2.ex X.K X.mg) fun u c' r g e rr q => ?_
    cases r with
    | val d =>
      cases d with
      | int n =>
        obtain ⟨hc, q⟩ := q
        refine ⟨m, n, rv, rr, hc, ?_⟩
        dsimp only at q
        split at q
        next => exact q.elim
        next y hy ey =>
          rw [← e]
          exact P.1 { c' with σ := c'.σ.set i (some (.int (m * n))), ρ := c'.ρ.set i (some (.val (.int (m * n)))), fp := fpSet c'.fp i [] } (set_slot g (List.getElem?_eq_some_iff.mp ey).1 (fun d' z => hy true d' (by rw [ey] at z; cases z; rfl)) (show EntOk X.K X.mg c'.F c'.H (.val (.int (m * n))) (.int (m * n)) [] from ⟨rfl, rfl⟩) (fun d z => by cases z) fun b hb => by cases hb) q
        next => exact q.elim
      | _ => exact q.elim
    | _ => exact q.elim
  next => exact hw.elim
end
end PL
/-! PL12: sorted(x) and min(x) of nested data; a, b = x, y. -/
namespace PL
open PySem PySem.Spec PyProof.Rows L2
variable [HasT]
open PySem.W (AllAlike Sortable EachIs)
open PySem.W (AlikeAll minD min_list_data readsAll_atA reads_keeps)
theorem dpAll_len {K : PySem.W.Frag} {H : Hp} : ∀ {xs : List V} {ps : List PyData}, DpAll K H xs ps → xs.length = ps.length
  | [], _, h => by cases h; rfl
  | x :: xs, _, h => by
    cases h with
    | cons a b => exact congrArg Nat.succ (dpAll_len b)
section
variable {X : Cx} {pins : List (Addr × Obj)} {σ : L2.St} {H : Hp} {s : Shared}
theorem each_dp (I : Inv X pins σ H s) : ∀ {xs : List V} {ps : List PyData} {us : List Value}, DpAll X.K H xs ps → Vals xs us →
    EachIs (fun u (b : V × PyData) => RelV b.1 u) us (xs.zip ps) ∧ EachIs (fun u (b : V × PyData) => ∃ as, Reads s.heap u b.2 as) us (xs.zip ps)
  | [], _, _, h, r => by
    cases h; cases r
    exact ⟨.nil, .nil⟩
  | x :: xs, _, _, h, r => by
    cases h with
    | cons a b =>
      cases r with
      | cons q t =>
        obtain ⟨e1, e2⟩ := each_dp I b t
        exact ⟨.cons q e1, .cons (Dp.reads I _ _ _ a q) e2⟩
end
theorem each_vals {bs : List (V × PyData)} : ∀ {us : List Value}, EachIs (fun u (b : V × PyData) => RelV b.1 u) us bs → Vals (bs.map (·.1)) us := by
  induction bs with
  | nil => intro us h; cases h; exact .nil
  | cons b bs ih =>
    intro us h
    cases h with
    | cons a t => exact .cons a (ih t)
def sortVP (xs : List V) (ps : List PyData) : List V := ((xs.zip ps).mergeSort (PySem.W.dataLe false (·.2))).map (·.1)
def rSortD (K : PySem.W.Frag) : List V → Hp → VK → Prop := fun vs H Q => ∃ (a : Addr) (xs : List V) (ps : List PyData), vs = [.ref a] ∧ SqL K H a xs ∧ DpAll K H xs ps ∧ AllAlike ps ∧ Sortable ps ∧ (∀ p ∈ ps, p.depth ≤ 16) ∧ ∀ l, H l = none → Q (.ref l) (upd H l (.lst (sortVP xs ps)))
theorem cr_sortD {X : Cx} (hu : X.A.units + 64 < cLine) : CallR X (.builtin "sorted") (rSortD X.K) := by
  intro pins s σ H vs us Q I r h
  obtain ⟨a, xs, ps, rfl, hs, hd, h1, h2, h3, q⟩ := h
  obtain ⟨its, rv, hl, hz⟩ := I.list hs
  rw [Vals.ref1 r]
  obtain ⟨e, er⟩ := each_dp I hd rv
  have le := dpAll_len hd
  have em : (xs.zip ps).map (·.2) = ps := List.map_snd_zip (by omega)
  refine PySem.W.sorted_data (enc := fun b : V × PyData => b.2) hl.isList e er (by rw [em]; exact h1) (by rw [em]; exact h2) (by simp; omega) (fun b hb => ?_) fun out ho eo => ?_
  · have : b.2 ∈ ps := (List.of_mem_zip hb).2
    have := h3 _ this
    omega
  · obtain ⟨ep, he'⟩ := PyProof.Rows.sortedAll_at s.heap its (List.toArray out)
    have hv := each_vals eo
    have hlen : (sortVP xs ps).length ≤ sizeLine := by
      unfold sortVP
      simp; omega
    exact ⟨.ref _, upd H (s.heap.objs.size + 1) (.lst (sortVP xs ps)), I.laid (t' := s.toks) (fun _ _ => PyProof.Rows.sortedAll_old) (Nat.le_succ _) ⟨hlen, out, ep, hv, by simpa using he'⟩, rfl, q _ (I.hok.fresh (Nat.le_succ _))⟩
def rMinD (K : PySem.W.Frag) : List V → Hp → VK → Prop := fun vs H Q => ∃ (a : Addr) (xs : List V) (p : PyData) (ps : List PyData), vs = [.ref a] ∧ SqL K H a xs ∧ DpAll K H xs (p :: ps) ∧ AlikeAll (p :: ps) ∧ PyData.depthAll (p :: ps) ≤ 16 ∧
  ∀ (i : Nat) (x : V), xs[i]? = some x → (p :: ps)[i]? = some (minD p ps) → Q x H
theorem cr_minD {X : Cx} (hc : X.calm = true) (hu : X.A.units + 64 < cLine) : CallR X (.builtin "min") (rMinD X.K) := by
  intro pins s σ H vs us Q I r h
  obtain ⟨a, xs, p, ps, rfl, hs, hd, h1, h2, q⟩ := h
  obtain ⟨its, rv, hl, hz⟩ := I.list hs
  rw [Vals.ref1 r]
  obtain ⟨as, hr⟩ := Dp.readsAll I _ _ _ hd rv
  refine min_list_data (I.ok.hd hc) hl.isList (by simpa using hr) h1 (by omega) fun i v h' tk bs hi hm hk => ?_
  have hi' : its[i]? = some v := by simpa using hi
  have il := (List.getElem?_eq_some_iff.mp hi').1
  have il2 : i < xs.length := by rw [rv.length]; exact il
  obtain ⟨u, hu', ru⟩ := rv.get (i := i) (x := xs[i]) (by simp [il2])
  rw [hi'] at hu'; cases hu'
  refine ⟨xs[i], H, I.kept hk, ru, q i _ (by simp [il2]) ?_⟩
  obtain ⟨cs, r1, l1, m1, _⟩ := readsAll_atA (vs := its.toArray) (by simpa using hr) i v hi
  have r2 := reads_keeps hk r1
  have al := h1.1
  have := dpAll_len hd
  have mm : minD p ps ∈ p :: ps := by
    unfold minD
    have aux : ∀ (l : List PyData) (x : PyData), l.foldl (fun a y => if PySem.W.dataLt y a then y else a) x ∈ x :: l := by
      intro l
      induction l with
      | nil => intro x; simp
      | cons y l ih =>
        intro x
        rw [List.foldl_cons]
        rcases List.mem_cons.mp (ih (if PySem.W.dataLt y x then y else x)) with e | e
        · rw [e]
          split <;> simp
        · exact List.mem_cons_of_mem _ (List.mem_cons_of_mem _ e)
    exact aux ps p
  have e := PySem.W.alike_unique _ _ _ _ _ (al _ m1 _ mm) r2 hm
  rw [← e]
  rw [List.getD_eq_getElem?_getD, List.getElem?_eq_getElem (by omega)]
  simp

theorem toPs_len : ∀ {ds : List D} {ps : List PyData}, toPs ds = some ps → ds.length = ps.length
  | [], _, h => by simp [toPs] at h; subst h; rfl
  | d :: ds, _, h => by
    simp only [toPs, Option.bind_eq_some_iff, Option.map_eq_some_iff] at h
    obtain ⟨p, _, r, hr, rfl⟩ := h
    simp [toPs_len hr]
theorem toPs_get : ∀ {ds : List D} {ps : List PyData} {i : Nat} {d : D}, toPs ds = some ps → ds[i]? = some d → ∃ p, ps[i]? = some p ∧ toP d = some p
  | [], _, _, _, _, e => by simp at e
  | d :: ds, _, i, _, h, e => by
    simp only [toPs, Option.bind_eq_some_iff, Option.map_eq_some_iff] at h
    obtain ⟨p, hp, r, hr, rfl⟩ := h
    cases i with
    | zero => simp at e; subst e; exact ⟨p, rfl, hp⟩
    | succ i => exact toPs_get (i := i) hr (by simpa using e)
section
variable {K : PySem.W.Frag} {mg : Str → Option Value}
def sortBy {α : Type} (xs : List α) (ps : List PyData) : List α := ((xs.zip ps).mergeSort (PySem.W.dataLe false (·.2))).map (·.1)
theorem repL_mem {F : Hp} {α : Type} {f : α → D} {g : α → V} : ∀ {l : List α}, (∀ a ∈ l, Rep K mg F (f a) (g a)) → RepL K mg F (l.map f) (l.map g)
  | [], _ => rfl
  | a :: l, h => ⟨g a, l.map g, rfl, h a List.mem_cons_self, repL_mem fun b hb => h b (List.mem_cons_of_mem _ hb)⟩
theorem repL_zip {F : Hp} : ∀ {ds : List D} {xs : List V}, RepL K mg F ds xs → ∀ p ∈ ds.zip xs, Rep K mg F p.1 p.2
  | [], _, _, _, h => by simp at h
  | d :: ds, _, r, p, h => by
    obtain ⟨x, t, rfl, h1, h2⟩ := r
    rcases List.mem_cons.mp (show p ∈ (d, x) :: ds.zip t from h) with e | e
    · rw [e]; exact h1
    · exact repL_zip h2 p e
theorem sortBy_map {α β : Type} (f : α → β) (l : List α) (k : α → PyData) : sortBy (l.map f) (l.map k) = (l.mergeSort (PySem.W.dataLe false k)).map f := by
  unfold sortBy
  have e : (l.map f).zip (l.map k) = l.map fun a => (f a, k a) := by
    induction l with
    | nil => rfl
    | cons a l ih => rw [List.map_cons, List.map_cons, List.zip_cons_cons, ih, List.map_cons]
  rw [e, ← List.map_mergeSort (r := PySem.W.dataLe false k) (s := PySem.W.dataLe false fun b : β × PyData => b.2) (f := fun a => (f a, k a)) (l := l) (fun a _ b _ => rfl), List.map_map]
  rfl
theorem sortBy_rep {F : Hp} {ds : List D} {xs : List V} {ps : List PyData} (r : RepL K mg F ds xs) (hl : ds.length = ps.length) : RepL K mg F (sortBy ds ps) (sortBy xs ps) := by
  have hl2 := r.len K mg
  let T := (ds.zip xs).zip ps
  have e1 : T.map (fun t => t.1.1) = ds := by
    show ((ds.zip xs).zip ps).map ((·.1) ∘ (·.1)) = ds
    rw [← List.map_map, List.map_fst_zip (by simp; omega), List.map_fst_zip (by omega)]
  have e2 : T.map (fun t => t.1.2) = xs := by
    show ((ds.zip xs).zip ps).map ((·.2) ∘ (·.1)) = xs
    rw [← List.map_map, List.map_fst_zip (by simp; omega), List.map_snd_zip (by omega)]
  have e3 : T.map (fun t => t.2) = ps := List.map_snd_zip (by simp; omega)
  have f1 := sortBy_map (fun t : (D × V) × PyData => t.1.1) T (fun t => t.2)
  have f2 := sortBy_map (fun t : (D × V) × PyData => t.1.2) T (fun t => t.2)
  rw [e1, e3] at f1
  rw [e2, e3] at f2
  rw [f1, f2]
  refine repL_mem fun t ht => ?_
  have m : t ∈ T := (List.mergeSort_perm T _).mem_iff.mp ht
  exact repL_zip r t.1 (List.of_mem_zip m).1
def gSort : GN := fun ds Q => match ds with
  | [.lst xs] => ∃ ps, toPs xs = some ps ∧ AllAlike ps ∧ Sortable ps ∧ (∀ p ∈ ps, p.depth ≤ 16) ∧ Q (.tmp (.lst (sortBy xs ps)))
  | _ => False
theorem opn_sort : OpN K mg (rSortD K) gSort := by
  intro F H ds vs Qg Q sm sl h k
  unfold gSort at h
  split at h
  next xs =>
    obtain ⟨v, rfl, see⟩ := seeL1 sl
    obtain ⟨ps, h1, h2, h3, h4, h5⟩ := h
    obtain ⟨a, ys, rfl, hs, rp⟩ := see.lst sm
    refine ⟨a, ys, ps, rfl, .inl (.inl hs), dps_of sm _ _ _ rp h1, h2, h3, h4, fun l hl => ?_⟩
    exact k _ F _ _ (Step.new sm hl) (new_lst hl sm (sortBy_rep rp (toPs_len h1))) h5
  next => exact h.elim
def gMin : GN := fun ds Q => match ds with
  | [.lst xs] => ∃ p ps, toPs xs = some (p :: ps) ∧ AlikeAll (p :: ps) ∧ PyData.depthAll (p :: ps) ≤ 16 ∧ ∀ z, z ∈ xs → toP z = some (minD p ps) → Q (.val z)
  | _ => False
theorem opn_min : OpN K mg (rMinD K) gMin := by
  intro F H ds vs Qg Q sm sl h k
  unfold gMin at h
  split at h
  next xs =>
    obtain ⟨v, rfl, see⟩ := seeL1 sl
    obtain ⟨p, ps, h1, h2, h3, h4⟩ := h
    obtain ⟨a, ys, rfl, hs, rp⟩ := see.lst sm
    refine ⟨a, ys, p, ps, rfl, .inl (.inl hs), dps_of sm _ _ _ rp h1, h2, h3, fun i x hx hm => ?_⟩
    obtain ⟨d, hd, rd⟩ := rp.getV K mg hx
    obtain ⟨q, hq, tq⟩ := toPs_get h1 hd
    rw [hm] at hq; cases hq
    exact fin_val sm k rd (h4 d (List.mem_of_getElem? hd) tq)
  next => exact h.elim
end
/-! ### a, b = x, y -/
def entOf : R → (Ent → Prop) → Prop
  | .val d, k => k (.val d)
  | .tmp d, k => k (.own false d)
  | .slot _, _ => False
def freeE (ρ : Env) (i : Nat) : Prop := match ρ[i]? with
  | some (some (.own true _)) => False
  | some _ => True
  | none => False
def wPar (i j : Nat) (wa wb : WE) : WS := fun Dp ρ => wa ρ (fun r1 ρ1 => wb ρ1 (fun r2 ρ2 => entOf r1 fun e1 => entOf r2 fun e2 => freeE ρ2 i ∧ freeE ρ2 j ∧ Dp.nx ((ρ2.set i (some e1)).set j (some e2))) Dp.ex) Dp.ex
theorem freeE_of {ρ : Env} {i : Nat} (h : freeE ρ i) : i < ρ.length ∧ ∀ d, ρ[i]? ≠ some (some (.own true d)) := by
  unfold freeE at h
  split at h
  · exact h.elim
  next y hy e => exact ⟨(List.getElem?_eq_some_iff.mp e).1, fun d z => by rw [e] at z; cases z; exact hy d rfl⟩
  · exact h.elim
section
variable {X : Cx} {XE : XK}
theorem ent_ok {c c1 : Cfg} {r : R} {v : V} {k : Ent → Prop} (rr : RR X.K X.mg c c1 r v) (h : entOf r k) : ∃ e ft, k e ∧ EntOk X.K X.mg c1.F c1.H e v ft ∧ (∀ d, e ≠ .own true d) ∧ ∀ b ∈ ft, c1.F b = none ∧ c1.H b ≠ none ∧ c.H b = none ∧ ∀ i, b ∉ c1.fp i := by
  cases r with
  | val d => exact ⟨.val d, [], h, ⟨rr, rfl⟩, fun d z => by (cases z), fun b hb => by (cases hb)⟩
  | tmp d =>
    obtain ⟨ft, o, hf⟩ := rr
    exact ⟨.own false d, ft, h, o, fun d z => by (cases z), hf⟩
  | slot i => exact h.elim
theorem pst_par {i j : Nat} {x y : Str} {a b : Expr} {px py pt pos : Pos} {kt k2 pt2} {wa wb : WE} (hc : X.calm = true) (hN : X.N.Nodup) (ha : PdE X XE a wa) (hb : PdE X XE b wb)
    (hw : swappedStores [.Tuple [.Name x px, .Name y py] kt pt] (.Tuple [a, b] k2 pt2) X.env = pure (some [x, y]))
    (hi : X.N[i]? = some x := by rfl) (hj : X.N[j]? = some y := by rfl) (hij : i ≠ j := by decide)
    (hx : X.env.scope.names.lookup x = some .local := by rfl) (hy : X.env.scope.names.lookup y = some .local := by rfl)
    (hs : swapsWithSole [.Tuple [.Name x px, .Name y py] kt pt] (.Tuple [a, b] k2 pt2) pos.line X.env = pure false := by rfl)
    (hs0 : starEach [a, b] X.env = (false, eval a X.env) :: starEach [b] X.env := by rfl) (hs1 : starEach [b] X.env = (false, eval b X.env) :: starEach [] X.env := by rfl) :
    PdS X XE (.Assign [.Tuple [.Name x px, .Name y py] kt pt] (.Tuple [a, b] k2 pt2) pos) (wPar i j wa wb) := by
  obtain ⟨ta, pa, sa⟩ := ha
  obtain ⟨tb, pb, sb⟩ := hb
  refine ⟨_, ps_par hc hN hi hj hij hx hy (pa_cons pa (pa_cons pb pa_nil hs1) hs0) hw hs, fun c Dp D ok h P => ?_⟩
  refine sa c _ _ _ ok h (P.2.2.2.2.ex X.K X.mg) fun v c1 r1 g1 e1 rr1 h1 => ?_
  show tb c.σ c1.H _
  rw [← e1]
  refine sb c1 _ _ _ g1.ok h1 ((P.2.2.2.2.go X.K X.mg g1).ex X.K X.mg) fun u c2 r2 g2 e2 rr2 h2 => ?_
  refine ⟨v, u, rfl, ?_⟩
  have g := g1.trans X.K X.mg g2
  obtain ⟨en1, f1, h2, o1, n1, m1⟩ := ent_ok rr1 h2
  obtain ⟨en2, f2, ⟨q1, q2, q3⟩, o2, n2, m2⟩ := ent_ok rr2 h2
  obtain ⟨l1, b1⟩ := freeE_of q1
  obtain ⟨l2, b2⟩ := freeE_of q2
  have kp : ∀ b ∈ f1, c2.F b = none ∧ c2.H b = c1.H b := fun b hb => by
    obtain ⟨z1, z2, z3, z4⟩ := m1 b hb
    obtain ⟨u0, hu0, pu0⟩ := ent_pl o1 b hb
    exact g2.fr.keep b z1 z2 z4 (nt_of hu0 pu0)
  have m1' : ∀ b ∈ f1, c2.F b = none ∧ c2.H b ≠ none ∧ c.H b = none ∧ ∀ i, b ∉ c2.fp i := fun b hb => by
    obtain ⟨z1, z2, z3, z4⟩ := m1 b hb
    obtain ⟨k1, k2⟩ := kp b hb
    refine ⟨k1, by rw [k2]; exact z2, z3, fun i hi => ?_⟩
    rcases g2.orig i b hi with ⟨j', hj'⟩ | e
    · exact z4 j' hj'
    · exact z2 e
  have o1' := o1.frame g2.fr.mono fun b hb => (kp b hb).2
  have eσ : c1.σ = c2.σ := e2.symm
  have s1 := set_slot g l1 b1 o1' n1 m1'
  have s2 := set_slot (c1 := { c2 with σ := c2.σ.set i (some v), ρ := c2.ρ.set i (some en1), fp := fpSet c2.fp i f1 }) (i := j) (e := en2) (v := u) (ft := f2) s1 (by simpa using l2) (fun d z => ?_) o2 n2 fun b hb => ?_
  · have := P.1 _ s2 q3
    rw [eσ]
    exact this
  · rcases set_get z with ⟨_, z'⟩ | ⟨_, z'⟩
    · exact n1 d (Option.some.inj z').symm
    · exact b2 d z'
  · obtain ⟨z1, z2, z3, z4⟩ := m2 b hb
    refine ⟨z1, z2, ?_, fun i' hi' => ?_⟩
    · cases q : c.H b with
      | none => rfl
      | some o => exact absurd z3 (g1.fr.grow b (by rw [q]; simp))
    · have hi2 : b ∈ fpSet c2.fp i f1 i' := hi'
      by_cases e : i' = i
      · subst e
        rw [fpSet_same] at hi2
        exact absurd z3 (m1 b hi2).2.1
      · rw [fpSet_ne e] at hi2
        exact z4 i' hi2
end
end PL
/-! PL13: the rules in short, as the printed derivations use them; what is known of a def, of a class. -/
namespace PL
open PySem PySem.Spec PyProof.Rows L2
variable [HasT]
/-- a def as its callers know it -/
structure DfAt (P : Program) (w : World) (K : PySem.W.Frag) (mg : Str → Option Value) (base : Heap) (x : Str) (f : Addr) (fd : FuncData) (ps : List Str) (j : Nat) (fs : FS) : Prop where
  fn : FnOk P w K mg base (L2.CX P w) j f fd ps (spOf K mg fs ps.length)
  mx : mg x = some (.ref f)
  kp : PySem.W.keepIn K (.ref f) = true
  bd : Binds K fd ps []
/-- a class as its users know it -/
structure ClAt (K : PySem.W.Frag) (mg : Str → Option Value) (cn : Str) (C : Addr) (flds : List Str) : Prop where
  mc : mg cn = some (.ref C)
  cl : Cls K C
  no : ∀ f ∈ flds, NoAttr K C f
  cls : PySem.W.findIn K (.ref C) "__class__" = some (some (.builtin "object.__class__"))
  gs : PySem.W.specialIn K (.builtin "object.__class__") "__get__" = some (some (.builtin "getset_descriptor.__get__"))
  tk : PySem.W.takesIn K (.builtin "object.__class__") = some true
  ob : PySem.W.mroIn K C (.type "object") = some true
  ne : PySem.W.findIn K (.ref C) "__ne__" = some (some (.builtin "object.__ne__"))
  su : PySem.W.subIn K (.ref C) (.type "object") = some true
  sf : PySem.W.selfFirst K C = true
  mkI : PySem.W.makesIn K C = true
  kp : PySem.W.keepIn K (.ref C) = true
/-- a method as its callers know it -/
structure MtAt (P : Program) (w : World) (K : PySem.W.Frag) (mg : Str → Option Value) (base : Heap) (C : Addr) (m : Str) (f : Addr) (fd : FuncData) (ps : List Str) (j : Nat) (fs : FS) : Prop where
  fn : FnOk P w K mg base (L2.CX P w) j f fd ps (spOf K mg fs ps.length)
  at_ : PySem.W.findIn K (.ref C) m = some (some (.ref f))
  isf : PySem.W.isFn K (.ref f) = true
  kp : PySem.W.keepIn K (.ref f) = true
  bd : Binds K fd ps []
/-- what fills up the parameters that lack -/
def Dfl (K : PySem.W.Frag) (mg : Str → Option Value) (fd : FuncData) (ps : List Str) (dds : List D) : Prop := ∃ (dvs : List V) (ds : List Value), Vals dvs ds ∧ (∀ F, RepL K mg F dds dvs) ∧ Binds K fd ps ds
section
variable {X : Cx} {XE : XK} {k : Nat}
theorem go_add {a b : Expr} {wa wb : WE} {pos : Pos} (ha : PdE X XE a wa) (hb : PdE X XE b wb) : PdE X XE (.BinOp a .Add b pos) (wOp2 gAdd wa wb) := pd_op (op2_or op_add (op2_or op_cat op_catA)) op2_add ha hb
theorem go_sub {a b : Expr} {wa wb : WE} {pos : Pos} (ha : PdE X XE a wa) (hb : PdE X XE b wb) : PdE X XE (.BinOp a .Sub b pos) (wOp2 (gI fun i j => .int (i - j)) wa wb) := pd_op op_sub (op2_int fun _ _ _ => rfl) ha hb
theorem go_mul {a b : Expr} {wa wb : WE} {pos : Pos} (ha : PdE X XE a wa) (hb : PdE X XE b wb) : PdE X XE (.BinOp a .Mult b pos) (wOp2 gMul wa wb) := pd_op op_mul op2_mul ha hb
theorem go_mod {a b : Expr} {wa wb : WE} {pos : Pos} (ha : PdE X XE a wa) (hb : PdE X XE b wb) : PdE X XE (.BinOp a .Mod b pos) (wOp2 gMod wa wb) := pd_op op_mod op2_mod ha hb
theorem go_lt {a b : Expr} {wa wb : WE} {pos : Pos} (ha : PdE X XE a wa) (hb : PdE X XE b wb) : PdE X XE (.Compare a [.Lt] [b] pos) (wOp2 (gI fun i j => .bl (decide (i < j))) wa wb) := pd_cmp op_lt (op2_int fun _ _ _ => rfl) ha hb (nomark _)
theorem go_le {a b : Expr} {wa wb : WE} {pos : Pos} (ha : PdE X XE a wa) (hb : PdE X XE b wb) : PdE X XE (.Compare a [.LtE] [b] pos) (wOp2 (gI fun i j => .bl (decide (i ≤ j))) wa wb) := pd_cmp op_le (op2_int fun _ _ _ => rfl) ha hb (nomark _)
theorem go_gt {a b : Expr} {wa wb : WE} {pos : Pos} (ha : PdE X XE a wa) (hb : PdE X XE b wb) : PdE X XE (.Compare a [.Gt] [b] pos) (wOp2 (gI fun i j => .bl (decide (i > j))) wa wb) := pd_cmp op_gt (op2_int fun _ _ _ => rfl) ha hb (nomark _)
theorem go_ge {a b : Expr} {wa wb : WE} {pos : Pos} (ha : PdE X XE a wa) (hb : PdE X XE b wb) : PdE X XE (.Compare a [.GtE] [b] pos) (wOp2 (gI fun i j => .bl (decide (i ≥ j))) wa wb) := pd_cmp op_ge (op2_int fun _ _ _ => rfl) ha hb (nomark _)
theorem go_eq (C : Cc X XE k) {a b : Expr} {wa wb : WE} {pos : Pos} (ha : PdE X XE a wa) (hb : PdE X XE b wb) : PdE X XE (.Compare a [.Eq] [b] pos) (wOp2 (gEq id) wa wb) := pd_cmp (op_eqD C.room.units) op2_eq ha hb (nomark _)
theorem go_ne (C : Cc X XE k) {a b : Expr} {wa wb : WE} {pos : Pos} (ha : PdE X XE a wa) (hb : PdE X XE b wb) : PdE X XE (.Compare a [.NotEq] [b] pos) (wOp2 (gEq not) wa wb) := pd_cmp (op_neD C.room.units) op2_ne ha hb (nomark _)
theorem go_is {a b : Expr} {wa wb : WE} {pos : Pos} (ha : PdE X XE a wa) (hb : PdE X XE b wb) : PdE X XE (.Compare a [.Is] [b] pos) (wOp2 (gIs id) wa wb) := pd_cmp op_isN op2_is ha hb (nomark _)
theorem go_isnot {a b : Expr} {wa wb : WE} {pos : Pos} (ha : PdE X XE a wa) (hb : PdE X XE b wb) : PdE X XE (.Compare a [.IsNot] [b] pos) (wOp2 (gIs not) wa wb) := pd_cmp op_notN op2_isnot ha hb (nomark _)
theorem go_inS {a b : Expr} {wa wb : WE} {pos : Pos} (ha : PdE X XE a wa) (hb : PdE X XE b wb) (hm : behindInMarks .In b = false := by rfl) : PdE X XE (.Compare a [.In] [b] pos) (wOp2 (gInS id) wa wb) := pd_cmp op_in_sign op2_inS ha hb hm
theorem go_ix {a b : Expr} {wa wb : WE} {pos : Pos} (ha : PdE X XE a wa) (hb : PdE X XE b wb) (hs : PlainIx b := by exact fun _ _ => rfl) : PdE X XE (.Subscript a b pos) (wOp2 gIx wa wb) := pd_ix ix_seq op2_ix ha hb hs
abbrev gLe : G2 := gI fun i j => .bl (decide (i ≤ j))
abbrev gLt : G2 := gI fun i j => .bl (decide (i < j))
theorem go_lele {a b d : Expr} {wa wb wc : WE} {pos : Pos} (ha : PdE X XE a wa) (hb : PdE X XE b wb) (hc : PdE X XE d wc) (hm : lastMarks [.LtE, .LtE] [b, d] = false := by with_unfolding_all rfl) : PdE X XE (.Compare a [.LtE, .LtE] [b, d] pos) (wChain gLe gLe wa wb wc) :=
  pd_chain op_le op_le (op2_int fun _ _ _ => rfl) (op2_int fun _ _ _ => rfl) ha hb hc hm
theorem go_lelt {a b d : Expr} {wa wb wc : WE} {pos : Pos} (ha : PdE X XE a wa) (hb : PdE X XE b wb) (hc : PdE X XE d wc) (hm : lastMarks [.LtE, .Lt] [b, d] = false := by with_unfolding_all rfl) : PdE X XE (.Compare a [.LtE, .Lt] [b, d] pos) (wChain gLe gLt wa wb wc) :=
  pd_chain op_le op_lt (op2_int fun _ _ _ => rfl) (op2_int fun _ _ _ => rfl) ha hb hc hm
theorem boot_all : bootBuiltins "all" = some (.builtin "all") := by decide +kernel
theorem boot_any : bootBuiltins "any" = some (.builtin "any") := by decide +kernel
theorem boot_sum : bootBuiltins "sum" = some (.builtin "sum") := by decide +kernel
theorem boot_max : bootBuiltins "max" = some (.builtin "max") := by decide +kernel
theorem boot_min : bootBuiltins "min" = some (.builtin "min") := by decide +kernel
theorem boot_abs : bootBuiltins "abs" = some (.builtin "abs") := by decide +kernel
theorem boot_sorted : bootBuiltins "sorted" = some (.builtin "sorted") := by decide +kernel
theorem boot_divmod : bootBuiltins "divmod" = some (.builtin "divmod") := by decide +kernel
abbrev gMax2 : GN := gII fun i j => if j > i then j else i
abbrev gMin2 : GN := gII fun i j => if j < i then j else i
section
variable {p pos : Pos} {e e2 : Expr} {w : WR}
theorem go_len (hm : X.mg "len" = none) (ha : PdV X XE [e] w) (gl : Gl X "len" := by rfl) (he : starEach [e] X.env = (false, eval e X.env) :: starEach [] X.env := by rfl) (hpl : (backTo pos (starEach [] X.env)).any (·.1) = false := by rfl) : PdE X XE (.Call (.Name "len" p) [e] [] pos) (wCall gLen w) :=
  pd_callB call_len opn_len gl hm PySem.boot_len ha (by decide) (by decide) he hpl
theorem go_all (C : Cc X XE k) (hm : X.mg "all" = none) (ha : PdV X XE [e] w) (gl : Gl X "all" := by rfl) (he : starEach [e] X.env = (false, eval e X.env) :: starEach [] X.env := by rfl) (hpl : (backTo pos (starEach [] X.env)).any (·.1) = false := by rfl) : PdE X XE (.Call (.Name "all" p) [e] [] pos) (wCall gAll w) :=
  pd_callB (cr_all C.calm) opn_all gl hm boot_all ha (by decide) (by decide) he hpl
theorem go_any (C : Cc X XE k) (hm : X.mg "any" = none) (ha : PdV X XE [e] w) (gl : Gl X "any" := by rfl) (he : starEach [e] X.env = (false, eval e X.env) :: starEach [] X.env := by rfl) (hpl : (backTo pos (starEach [] X.env)).any (·.1) = false := by rfl) : PdE X XE (.Call (.Name "any" p) [e] [] pos) (wCall gAny w) :=
  pd_callB (cr_any C.calm) opn_any gl hm boot_any ha (by decide) (by decide) he hpl
theorem go_sum (C : Cc X XE k) (hm : X.mg "sum" = none) (ha : PdV X XE [e] w) (gl : Gl X "sum" := by rfl) (he : starEach [e] X.env = (false, eval e X.env) :: starEach [] X.env := by rfl) (hpl : (backTo pos (starEach [] X.env)).any (·.1) = false := by rfl) : PdE X XE (.Call (.Name "sum" p) [e] [] pos) (wCall gSum w) :=
  pd_callB (cr_sum C.calm) opn_sum gl hm boot_sum ha (by decide) (by decide) he hpl
theorem go_abs (hm : X.mg "abs" = none) (ha : PdV X XE [e] w) (gl : Gl X "abs" := by rfl) (he : starEach [e] X.env = (false, eval e X.env) :: starEach [] X.env := by rfl) (hpl : (backTo pos (starEach [] X.env)).any (·.1) = false := by rfl) : PdE X XE (.Call (.Name "abs" p) [e] [] pos) (wCall gAbs w) :=
  pd_callB call_abs opn_abs gl hm boot_abs ha (by decide) (by decide) he hpl
theorem go_sorted (C : Cc X XE k) (hm : X.mg "sorted" = none) (ha : PdV X XE [e] w) (gl : Gl X "sorted" := by rfl) (he : starEach [e] X.env = (false, eval e X.env) :: starEach [] X.env := by rfl) (hpl : (backTo pos (starEach [] X.env)).any (·.1) = false := by rfl) : PdE X XE (.Call (.Name "sorted" p) [e] [] pos) (wCall gSort w) :=
  pd_callB (cr_sortD C.room.units) opn_sort gl hm boot_sorted ha (by decide) (by decide) he hpl
theorem go_minL (C : Cc X XE k) (hm : X.mg "min" = none) (ha : PdV X XE [e] w) (gl : Gl X "min" := by rfl) (he : starEach [e] X.env = (false, eval e X.env) :: starEach [] X.env := by rfl) (hpl : (backTo pos (starEach [] X.env)).any (·.1) = false := by rfl) : PdE X XE (.Call (.Name "min" p) [e] [] pos) (wCall gMin w) :=
  pd_callB (cr_minD C.calm C.room.units) opn_min gl hm boot_min ha (by decide) (by decide) he hpl
theorem go_max2 (C : Cc X XE k) (hm : X.mg "max" = none) (ha : PdV X XE [e, e2] w) (gl : Gl X "max" := by rfl) (he : starEach [e, e2] X.env = (false, eval e X.env) :: starEach [e2] X.env := by rfl) (hpl : (backTo pos (starEach [e2] X.env)).any (·.1) = false := by rfl) : PdE X XE (.Call (.Name "max" p) [e, e2] [] pos) (wCall gMax2 w) :=
  pd_callB (call_max2 C.calm) opn_ii gl hm boot_max ha (by decide) (by decide) he hpl
theorem go_min2 (C : Cc X XE k) (hm : X.mg "min" = none) (ha : PdV X XE [e, e2] w) (gl : Gl X "min" := by rfl) (he : starEach [e, e2] X.env = (false, eval e X.env) :: starEach [e2] X.env := by rfl) (hpl : (backTo pos (starEach [e2] X.env)).any (·.1) = false := by rfl) : PdE X XE (.Call (.Name "min" p) [e, e2] [] pos) (wCall gMin2 w) :=
  pd_callB (call_min2 C.calm) opn_ii gl hm boot_min ha (by decide) (by decide) he hpl
theorem go_tuple (hm : X.mg "tuple" = none) (ha : PdV X XE [e] w) (gl : Gl X "tuple" := by rfl) (he : starEach [e] X.env = (false, eval e X.env) :: starEach [] X.env := by rfl) (hpl : (backTo pos (starEach [] X.env)).any (·.1) = false := by rfl) : PdE X XE (.Call (.Name "tuple" p) [e] [] pos) (wCall gTuple w) :=
  pd_callTy call_tuple_of opn_tuple gl hm PySem.Pv.boot_tuple ha (by decide) (by decide) he hpl
theorem go_list (hm : X.mg "list" = none) (ha : PdV X XE [e] w) (gl : Gl X "list" := by rfl) (he : starEach [e] X.env = (false, eval e X.env) :: starEach [] X.env := by rfl) (hpl : (backTo pos (starEach [] X.env)).any (·.1) = false := by rfl) : PdE X XE (.Call (.Name "list" p) [e] [] pos) (wCall gList w) :=
  pd_callTy call_list_of opn_list gl hm PySem.Pv.boot_list ha (by decide) (by decide) he hpl
end
/-! isinstance -/
section
variable {p p2 pos : Pos} {a : Expr} {w : WE}
theorem go_isT (T : Ty) {x : Str} (hi : X.mg "isinstance" = none) (hm : X.mg x = none) (hv : bootBuiltins x = some (.type T.name)) (ha : PdE X XE a w) (gl : Gl X "isinstance" := by rfl) (gx : Gl X x := by rfl) (hn : x ≠ "__name__" := by decide) (hd : (x == ("__debug__" : Str)) = false := by decide)
    (he : starEach [a, .Name x p2] X.env = (false, eval a X.env) :: starEach [.Name x p2] X.env := by rfl) (he2 : starEach [.Name x p2] X.env = (false, eval (.Name x p2) X.env) :: starEach [] X.env := by rfl)
    (hpl : (backTo pos (starEach [.Name x p2] X.env)).any (·.1) = false := by rfl) : PdE X XE (.Call (.Name "isinstance" p) [a, .Name x p2] [] pos) (wIsi (fT T) w) :=
  pd_isi (fT_ok T) (pe_bltn (v := .ty T.name) gx hm hv rfl hn hd) (.ty _) gl hi ha he he2 hpl
def fObj (cn : Str) : D → Option Bool
  | .obj c _ _ => if c = cn then some true else none
  | _ => none
theorem fObj_ok {cn : Str} {Cl : Addr} {fl : List Str} (A : ClAt X.K X.mg cn Cl fl) (F H : Hp) (d : D) (v : V) (b : Bool) (s : Mono F H) (h : See X.K X.mg F H d v) (e : fObj cn d = some b) : ∃ t, TyX X.K H v t ∧ PySem.W.kitOne X.K t (.ref Cl) = some b := by
  cases d with
  | obj c fs ds =>
    have e' : (if c = cn then some true else none) = some b := e
    by_cases hc : c = cn
    · rw [if_pos hc] at e'
      subst hc; cases e'
      obtain ⟨a, C, dx, gs, rfl, hm, hH, _⟩ := h.obj s
      rw [A.mc] at hm; cases hm
      refine ⟨.ref Cl, .base (.ins hH A.cl A.cls A.gs A.tk A.ob), ?_⟩
      unfold PySem.W.kitOne
      rw [if_pos (by simp)]
    · rw [if_neg hc] at e'; cases e'
  | _ => cases e
theorem go_isO {cn : Str} {Cl : Addr} {fl : List Str} (A : ClAt X.K X.mg cn Cl fl) (hi : X.mg "isinstance" = none) (ha : PdE X XE a w) (gl : Gl X "isinstance" := by rfl) (gx : Gl X cn := by rfl) (hd : (cn == ("__debug__" : Str)) = false := by decide)
    (he : starEach [a, .Name cn p2] X.env = (false, eval a X.env) :: starEach [.Name cn p2] X.env := by rfl) (he2 : starEach [.Name cn p2] X.env = (false, eval (.Name cn p2) X.env) :: starEach [] X.env := by rfl)
    (hpl : (backTo pos (starEach [.Name cn p2] X.env)).any (·.1) = false := by rfl) : PdE X XE (.Call (.Name "isinstance" p) [a, .Name cn p2] [] pos) (wIsi (fObj cn) w) :=
  pd_isi (fObj_ok A) (pe_glob (v := .ref Cl) gx A.mc rfl hd) (.own _) gl hi ha he he2 hpl
end
end
end PL
/-! PL14: dicts of constant keys: displays, d[k]; a module's constants. -/
namespace PL
open PySem PySem.Spec PyProof.Rows L2
variable [HasT]
def lookD : List Key → List D → Key → Option D
  | k :: ks, d :: ds, q => if k = q then some d else lookD ks ds q
  | _, _, _ => none
def keyD : D → Option Key
  | .int i => some (.inl i)
  | .str x => some (.inr x)
  | _ => none
section
variable {K : PySem.W.Frag} {mg : Str → Option Value}
theorem look_rep {F : Hp} {q : Key} {d : D} : ∀ {ks : List Key} {ds : List D} {kvs : List (Key × V)}, kvs.map (·.1) = ks → RepL K mg F ds (kvs.map (·.2)) → lookD ks ds q = some d → ∃ v, valV kvs q = some v ∧ Rep K mg F d v
  | [], _, _, _, _, e => by simp [lookD] at e
  | _ :: _, [], _, _, _, e => by simp [lookD] at e
  | k :: ks, d0 :: ds, [], h, _, _ => by simp at h
  | k :: ks, d0 :: ds, kv :: kvs, h, r, e => by
    simp at h
    obtain ⟨x, t, e1, r1, r2⟩ := r
    simp at e1
    unfold lookD at e
    by_cases hq : k = q
    · rw [if_pos hq] at e; cases e
      refine ⟨kv.2, ?_, by rw [e1.1]; exact r1⟩
      unfold valV
      rw [List.find?_cons_of_pos (by simp [h.1, hq])]
      rfl
    · rw [if_neg hq] at e
      obtain ⟨v, hv, rv⟩ := look_rep h.2 (by rw [e1.2]; exact r2) e
      refine ⟨v, ?_, rv⟩
      unfold valV
      rw [List.find?_cons_of_neg (by simp [h.1, hq])]
      exact hv
theorem See.dic {F H : Hp} {ks : List Key} {ds : List D} {v : V} (h : See K mg F H (.dic ks ds) v) (s : Mono F H) : ∃ a kvs, v = .ref a ∧ Rd H a (.dK kvs) ∧ kvs.map (·.1) = ks ∧ RepL K mg F ds (kvs.map (·.2)) := by
  rcases h with ⟨a, kvs, e, h1, h2, h3⟩ | ⟨ft, a, kvs, e, _, h1, h2, h3⟩
  · exact ⟨a, kvs, e, s.rd h1, h2, h3⟩
  · exact ⟨a, kvs, e, .inl h1, h2, h3⟩
theorem key_rep {F H : Hp} {d : D} {k : Key} {v : V} (h : See K mg F H d v) (e : keyD d = some k) : v = kV k := by
  cases d with
  | int i => cases e; exact h.int
  | str i => cases e; exact h.str
  | _ => cases e
def gDGet : G2 := fun d e Q => match d, keyD e with
  | .dic ks ds, some k => match lookD ks ds k with
    | some x => Q (.val x)
    | none => False
  | _, _ => False
def rDGet : R2 := fun x y H Q => ∃ a v, x = .ref a ∧ DGet H a y (some v) ∧ Q v H
theorem op2_dget : Op2 K mg rDGet gDGet := by
  intro F H d e v u Qg Q s h1 h2 hg k
  unfold gDGet at hg
  split at hg
  next d ks ds k' hk =>
    obtain ⟨a, kvs, rfl, hr, hm, rp⟩ := h1.dic s
    cases q : lookD ks ds k' with
    | none => rw [q] at hg; exact hg.elim
    | some x =>
      rw [q] at hg
      obtain ⟨w, hw, rw'⟩ := look_rep hm rp q
      exact ⟨a, w, rfl, .inl ⟨kvs, k', hr, key_rep h2 hk, hw.symm⟩, fin_val s k rw' hg⟩
  next => exact hg.elim
end
section
variable {X : Cx} {XE : XK} {k : Nat}
theorem go_dget (C : Cc X XE k) {a b : Expr} {wa wb : WE} {pos : Pos} (ha : PdE X XE a wa) (hb : PdE X XE b wb) (hs : NoSl b := by exact fun _ _ => rfl) : PdE X XE (.Subscript a b pos) (wOp2 gDGet wa wb) := by
  obtain ⟨ta, pa, sa⟩ := ha
  obtain ⟨tb, pb, sb⟩ := hb
  exact ⟨_, pe_dget (Nat.lt_of_le_of_lt (by omega) C.room.units) pa pb hs, op2_run (r := rDGet) (a := a) (b := b) op2_dget sa sb⟩
/-- a module's constant -/
theorem go_gc {x : Str} {v : V} {d : D} {pos : Pos} (h : ∃ u, X.mg x = some u ∧ RelV v u) (r : ∀ F, Rep X.K X.mg F d v) (gl : Gl X x := by rfl) (hd : (x == ("__debug__" : Str)) = false := by decide) : PdE X XE (.Name x pos) (wC d) := by
  obtain ⟨u, hm, ru⟩ := h
  exact pd_c (pe_glob gl hm ru hd) r
/-- {"k": e, ..}: the values -/
def PdD (X : Cx) (XE : XK) (pos : Pos) (keys : List (Option Expr)) (values : List Expr) (ks : List Key) (w : WL) : Prop := ∃ trs, PPs X pos keys values trs ∧ ∀ (c : Cfg) (Qp : List D → Env → Prop) (Ep : Ex → Env → Prop) (Q : List (V × V) → Hp → Prop), Ok X.K X.mg c → w c.ρ Qp Ep → XOk X.K X.mg c Ep XE →
  (∀ (kvs : List (Key × V)) c' ds, Go X.K X.mg c c' → c'.σ = c.σ → kvs.map (·.1) = ks → RepL X.K X.mg c'.F ds (kvs.map (·.2)) → Qp ds c'.ρ → Q (kvs.map fun kv => (kV kv.1, kv.2)) c'.H) → tPairs trs c.σ c.H Q
theorem pdd_nil {pos : Pos} : PdD X XE pos [] [] [] wKn := ⟨[], pps_nil, fun c Qp Ep Q ok hw x k => k [] c [] (Go.refl _ _ ok) rfl rfl rfl hw⟩
theorem pdd_cons {pos p : Pos} {j : Nat} {x : Str} {v : Expr} {keys : List (Option Expr)} {values : List Expr} {ks : List Key} {w : WE} {wr : WL} (h : PdE X XE v w) (hr : PdD X XE pos keys values ks wr) : PdD X XE pos (some (.Constant (.str x) j p) :: keys) (v :: values) (.inr x :: ks) (wKc w wr) := by
  obtain ⟨t, pe, s⟩ := h
  obtain ⟨tr, pr, sr⟩ := hr
  refine ⟨_, pps_cons pe_str pe pr, fun c Qp Ep Q ok hw x' k => ?_⟩
  show t c.σ c.H _
  refine runK (e := v) s ok hw x' fun y c1 d g1 e1 r1 h1 => ?_
  show tPairs tr c.σ c1.H _
  rw [← e1]
  refine sr c1 _ Ep _ g1.ok h1 (x'.go X.K X.mg g1 e1) fun kvs c2 ds g2 e2 m2 r2 h2 => ?_
  have := k ((.inr x, y) :: kvs) c2 (d :: ds) (g1.trans X.K X.mg g2) (e2.trans e1) (by simp [m2]) (RepL.cons X.K X.mg (r1.mono X.K X.mg g2.fr.mono _ _) r2) h2
  exact this
theorem merge_app : ∀ (more acc : List (Key × V)), (acc ++ more).Pairwise (fun p q => p.1 ≠ q.1) → mergeK acc more = acc ++ more
  | [], acc, _ => by simp [mergeK]
  | p :: r, acc, h => by
    have hp : putK acc p.1 p.2 = acc ++ [p] := by
      unfold putK
      rw [if_neg]
      simp only [List.any_eq_true, decide_eq_true_eq, not_exists, not_and]
      intro q hq e
      have := (List.pairwise_append.mp h).2.2 q hq p List.mem_cons_self
      exact this e
    have : mergeK acc (p :: r) = mergeK (putK acc p.1 p.2) r := rfl
    rw [this, hp, merge_app r (acc ++ [p]) (by simpa using h)]
    simp
def wDic (ks : List Key) (w : WL) : WE := fun ρ Q Ep => w ρ (fun ds ρ' => Q (.tmp (.dic ks ds)) ρ') Ep
theorem pd_disp {pos : Pos} {keys : List (Option Expr)} {values : List Expr} {ks : List Key} {w : WL} (h : PdD X XE pos keys values ks w) (hn : ks.Nodup := by decide) (hk : ks.length ≤ 15 := by decide) (hall : keys.all (·.isSome) = true := by rfl) (hl : keys.length = values.length := by rfl) (h0 : keys ≠ [] := by simp)
    (h15 : keys.length ≤ 15 := by decide) : PdE X XE (.Dict keys values pos) (wDic ks w) := by
  obtain ⟨tr, pr, sr⟩ := h
  refine ⟨_, pe_disp pr hall hl h0 h15, fun c Qp Ep Q ok hw x k => ?_⟩
  intro A hA
  have fA : c.F A = none := fresh_F ok.sub hA
  have nfp : ∀ i, A ∉ c.fp i := fun i z => (ok.out i A z).2 hA
  have g0 : Go X.K X.mg c { c with H := upd c.H A (.dK []) } := list_go (Go.refl _ _ ok) hA fA nfp (pl_none hA)
  refine sr { c with H := upd c.H A (.dK []) } _ Ep _ g0.ok hw (x.go X.K X.mg g0 rfl) fun kvs c2 ds g2 e2 m2 r2 h2 => ?_
  have nA : upd c.H A (.dK []) A ≠ none := by rw [upd_same]; simp
  obtain ⟨k1, k2⟩ := g2.fr.keep A fA nA nfp (nt_of upd_same True.intro)
  have hA2 : c2.H A = some (.dK []) := by rw [k2]; exact upd_same
  have nf2 : ∀ i, A ∉ c2.fp i := fun i z => by
    rcases g2.orig i A z with ⟨j, hj⟩ | e
    · exact nfp j hj
    · exact nA e
  have lk : kvs.length = ks.length := by rw [← m2, List.length_map]
  refine ⟨hA2, kvs, rfl, by omega, ?_⟩
  have em : mergeK [] kvs = kvs := by
    rw [merge_app kvs [] (by
      rw [List.nil_append]
      have : (kvs.map (·.1)).Nodup := by rw [m2]; exact hn
      exact List.pairwise_map.mp this)]
    rfl
  rw [em]
  have gg := g0.trans X.K X.mg g2
  have g3 := list_go (A := A) (o := .dK kvs) gg hA k1 nf2 (pl_some hA2 True.intro)
  refine k _ { c2 with H := upd c2.H A (.dK kvs) } (.tmp (.dic ks ds)) g3 e2 ⟨[A], ⟨A, kvs, rfl, rfl, upd_same, m2, r2⟩, fun b hb => ?_⟩ h2
  have eb : b = A := by simpa using hb
  subst eb
  exact ⟨k1, by show upd c2.H b _ b ≠ none; rw [upd_same]; simp, hA, nf2⟩
end
end PL
/-! PL15: comparisons as tests. -/
namespace PL
open PySem PySem.Spec PyProof.Rows L2
variable [HasT]
section
variable {X : Cx} {XE : XK} {k : Nat}
theorem pt_cmpD {op : CmpOp} {r : R2} {g : G2} {a b : Expr} {wa wb : WE} {pos : Pos} (ho : OpR X (compareOp op) r) (hg : Op2 X.K X.mg r g) (ha : PdE X XE a wa) (hb : PdE X XE b wb) (hm : behindInMarks op b = false) : PdT X XE (.Compare a [op] [b] pos) (wB (wOp2 g wa wb)) := by
  obtain ⟨ta, pa, sa⟩ := ha
  obtain ⟨tb, pb, sb⟩ := hb
  exact ⟨_, pt_cmpR ho pa pb hm, fun c Qp Ep Q ok hw x k => bl_run (op2_run (a := a) (b := b) hg sa sb) ok hw x fun b c' g e q => ⟨b, rfl, k b c' g e q⟩⟩
theorem to_lt {a b : Expr} {wa wb : WE} {pos : Pos} (ha : PdE X XE a wa) (hb : PdE X XE b wb) : PdT X XE (.Compare a [.Lt] [b] pos) (wB (wOp2 (gI fun i j => .bl (decide (i < j))) wa wb)) := pt_cmpD op_lt (op2_int fun _ _ _ => rfl) ha hb (nomark _)
theorem to_le {a b : Expr} {wa wb : WE} {pos : Pos} (ha : PdE X XE a wa) (hb : PdE X XE b wb) : PdT X XE (.Compare a [.LtE] [b] pos) (wB (wOp2 (gI fun i j => .bl (decide (i ≤ j))) wa wb)) := pt_cmpD op_le (op2_int fun _ _ _ => rfl) ha hb (nomark _)
theorem to_gt {a b : Expr} {wa wb : WE} {pos : Pos} (ha : PdE X XE a wa) (hb : PdE X XE b wb) : PdT X XE (.Compare a [.Gt] [b] pos) (wB (wOp2 (gI fun i j => .bl (decide (i > j))) wa wb)) := pt_cmpD op_gt (op2_int fun _ _ _ => rfl) ha hb (nomark _)
theorem to_ge {a b : Expr} {wa wb : WE} {pos : Pos} (ha : PdE X XE a wa) (hb : PdE X XE b wb) : PdT X XE (.Compare a [.GtE] [b] pos) (wB (wOp2 (gI fun i j => .bl (decide (i ≥ j))) wa wb)) := pt_cmpD op_ge (op2_int fun _ _ _ => rfl) ha hb (nomark _)
theorem to_eq (C : Cc X XE k) {a b : Expr} {wa wb : WE} {pos : Pos} (ha : PdE X XE a wa) (hb : PdE X XE b wb) : PdT X XE (.Compare a [.Eq] [b] pos) (wB (wOp2 (gEq id) wa wb)) := pt_cmpD (op_eqD C.room.units) op2_eq ha hb (nomark _)
theorem to_ne (C : Cc X XE k) {a b : Expr} {wa wb : WE} {pos : Pos} (ha : PdE X XE a wa) (hb : PdE X XE b wb) : PdT X XE (.Compare a [.NotEq] [b] pos) (wB (wOp2 (gEq not) wa wb)) := pt_cmpD (op_neD C.room.units) op2_ne ha hb (nomark _)
theorem to_is {a b : Expr} {wa wb : WE} {pos : Pos} (ha : PdE X XE a wa) (hb : PdE X XE b wb) : PdT X XE (.Compare a [.Is] [b] pos) (wB (wOp2 (gIs id) wa wb)) := pt_cmpD op_isN op2_is ha hb (nomark _)
theorem to_isnot {a b : Expr} {wa wb : WE} {pos : Pos} (ha : PdE X XE a wa) (hb : PdE X XE b wb) : PdT X XE (.Compare a [.IsNot] [b] pos) (wB (wOp2 (gIs not) wa wb)) := pt_cmpD op_notN op2_isnot ha hb (nomark _)
theorem to_inS {a b : Expr} {wa wb : WE} {pos : Pos} (ha : PdE X XE a wa) (hb : PdE X XE b wb) (hm : behindInMarks .In b = false := by rfl) : PdT X XE (.Compare a [.In] [b] pos) (wB (wOp2 (gInS id) wa wb)) := pt_cmpD op_in_sign op2_inS ha hb hm
theorem pt_chainD {op op' : CmpOp} {r r' : R2} {g h : G2} {a b d : Expr} {wa wb wc : WE} {pos : Pos} (ho : OpR X (compareOp op) r) (ho' : OpR X (compareOp op') r') (hg : Op2 X.K X.mg r g) (hh : Op2 X.K X.mg r' h)
    (ha : PdE X XE a wa) (hb : PdE X XE b wb) (hc : PdE X XE d wc) (hm : lastMarks [op, op'] [b, d] = false := by with_unfolding_all rfl) : PdT X XE (.Compare a [op, op'] [b, d] pos) (wB (wChain g h wa wb wc)) := by
  obtain ⟨ta, pa, sa⟩ := ha
  obtain ⟨tb, pb, sb⟩ := hb
  obtain ⟨tc, pc, sc⟩ := hc
  exact ⟨_, pt_chain ho ho' pa pb pc hm, fun c Qp Ep Q ok hw x k => bl_run (chain_so (a := a) (b := b) (d := d) hg hh sa sb sc) ok hw x fun b c' g e q => ⟨b, rfl, k b c' g e q⟩⟩
theorem to_lele {a b d : Expr} {wa wb wc : WE} {pos : Pos} (ha : PdE X XE a wa) (hb : PdE X XE b wb) (hc : PdE X XE d wc) (hm : lastMarks [.LtE, .LtE] [b, d] = false := by with_unfolding_all rfl) : PdT X XE (.Compare a [.LtE, .LtE] [b, d] pos) (wB (wChain gLe gLe wa wb wc)) :=
  pt_chainD op_le op_le (op2_int fun _ _ _ => rfl) (op2_int fun _ _ _ => rfl) ha hb hc hm
theorem to_lelt {a b d : Expr} {wa wb wc : WE} {pos : Pos} (ha : PdE X XE a wa) (hb : PdE X XE b wb) (hc : PdE X XE d wc) (hm : lastMarks [.LtE, .Lt] [b, d] = false := by with_unfolding_all rfl) : PdT X XE (.Compare a [.LtE, .Lt] [b, d] pos) (wB (wChain gLe gLt wa wb wc)) :=
  pt_chainD op_le op_lt (op2_int fun _ _ _ => rfl) (op2_int fun _ _ _ => rfl) ha hb hc hm
theorem pt_ownEq {j : Nat} {cn : Str} {a b : Expr} {pos : Pos} {Cl f : Addr} {fd : FuncData} {ps : List Str} {fs : FS} {wa wb : WE} (C : Cc X XE k) (hC : X.mg cn = some (.ref Cl)) (hs : PySem.W.findIn X.K (.ref Cl) "__eq__" = some (some (.ref f))) (hf : PySem.W.isFn X.K (.ref f) = true)
    (F : FnOk X.prog X.w X.K X.mg X.base (L2.CX X.prog X.w) j f fd ps (spOf X.K X.mg fs 2)) (hj : j ≤ k) (hb : Binds X.K fd ps []) (ha : PdE X XE a wa) (hb2 : PdE X XE b wb) : PdT X XE (.Compare a [.Eq] [b] pos) (wB (wOwn cn fs wa wb)) := by
  obtain ⟨ta, pa, sa⟩ := ha
  obtain ⟨tb, pb, sb⟩ := hb2
  exact ⟨_, pt_cmpR (own_eq C hs hf F hj hb) pa pb (nomark _), fun c Qp Ep Q ok hw x k => bl_run (own_run (a := a) (b := b) hC sa sb fun x y H Q i1 i2 h => ⟨i1, i2, h⟩) ok hw x fun b c' g e q => ⟨b, rfl, k b c' g e q⟩⟩
theorem pt_ownNe {j : Nat} {cn : Str} {a b : Expr} {pos : Pos} {Cl f : Addr} {fd : FuncData} {ps : List Str} {fs : FS} {wa wb : WE} (C : Cc X XE k) (hC : X.mg cn = some (.ref Cl)) (hne : PySem.W.findIn X.K (.ref Cl) "__ne__" = some (some (.builtin "object.__ne__"))) (ho : PySem.W.subIn X.K (.ref Cl) (.type "object") = some true)
    (hs : PySem.W.findIn X.K (.ref Cl) "__eq__" = some (some (.ref f))) (hf : PySem.W.isFn X.K (.ref f) = true)
    (F : FnOk X.prog X.w X.K X.mg X.base (L2.CX X.prog X.w) j f fd ps (spOf X.K X.mg fs 2)) (hj : j + 1 ≤ k) (hb : Binds X.K fd ps []) (ha : PdE X XE a wa) (hb2 : PdE X XE b wb) : PdT X XE (.Compare a [.NotEq] [b] pos) (wB (wOwnB cn not fs wa wb)) := by
  obtain ⟨ta, pa, sa⟩ := ha
  obtain ⟨tb, pb, sb⟩ := hb2
  exact ⟨_, pt_cmpR (own_ne C hne ho hs hf F hj hb) pa pb (nomark _), fun c Qp Ep Q ok hw x k => bl_run (own_runB (a := a) (b := b) hC sa sb fun x y H Q i1 i2 h => ⟨i1, i2, h⟩) ok hw x fun b c' g e q => ⟨b, rfl, k b c' g e q⟩⟩
theorem pt_ownIn {j : Nat} {cn : Str} {a b : Expr} {pos : Pos} {Cl f : Addr} {fd : FuncData} {ps : List Str} {fs : FS} {wa wb : WE} (C : Cc X XE k) (hC : X.mg cn = some (.ref Cl)) (hs : PySem.W.findIn X.K (.ref Cl) "__contains__" = some (some (.ref f))) (hf : PySem.W.isFn X.K (.ref f) = true)
    (F : FnOk X.prog X.w X.K X.mg X.base (L2.CX X.prog X.w) j f fd ps (spOf X.K X.mg fs 2)) (hj : j ≤ k) (hb : Binds X.K fd ps []) (ha : PdE X XE a wa) (hb2 : PdE X XE b wb) (hm : behindInMarks .In b = false := by rfl) : PdT X XE (.Compare a [.In] [b] pos) (wB (wOwnIn cn id fs wa wb)) := by
  obtain ⟨ta, pa, sa⟩ := ha
  obtain ⟨tb, pb, sb⟩ := hb2
  exact ⟨_, pt_cmpR (own_in C hs hf F hj hb) pa pb hm, fun c Qp Ep Q ok hw x k => bl_run (own_runIn (a := a) (b := b) hC sa sb fun x y H Q i2 h => ⟨i2, h⟩) ok hw x fun b c' g e q => ⟨b, rfl, k b c' g e q⟩⟩
theorem pt_ownNotIn {j : Nat} {cn : Str} {a b : Expr} {pos : Pos} {Cl f : Addr} {fd : FuncData} {ps : List Str} {fs : FS} {wa wb : WE} (C : Cc X XE k) (hC : X.mg cn = some (.ref Cl)) (hs : PySem.W.findIn X.K (.ref Cl) "__contains__" = some (some (.ref f))) (hf : PySem.W.isFn X.K (.ref f) = true)
    (F : FnOk X.prog X.w X.K X.mg X.base (L2.CX X.prog X.w) j f fd ps (spOf X.K X.mg fs 2)) (hj : j ≤ k) (hb : Binds X.K fd ps []) (ha : PdE X XE a wa) (hb2 : PdE X XE b wb) (hm : behindInMarks .NotIn b = false := by rfl) : PdT X XE (.Compare a [.NotIn] [b] pos) (wB (wOwnIn cn not fs wa wb)) := by
  obtain ⟨ta, pa, sa⟩ := ha
  obtain ⟨tb, pb, sb⟩ := hb2
  exact ⟨_, pt_cmpR (own_notin C hs hf F hj hb) pa pb hm, fun c Qp Ep Q ok hw x k => bl_run (own_runIn (a := a) (b := b) hC sa sb fun x y H Q i2 h => ⟨i2, h⟩) ok hw x fun b c' g e q => ⟨b, rfl, k b c' g e q⟩⟩
theorem go_isT2 {p p2 p3 p4 pos : Pos} {a : Expr} {w : WE} {x1} (T T' : Ty) {x y : Str} (hi : X.mg "isinstance" = none) (hm : X.mg x = none) (hm' : X.mg y = none) (hv : bootBuiltins x = some (.type T.name)) (hv' : bootBuiltins y = some (.type T'.name)) (ha : PdE X XE a w) (gl : Gl X "isinstance" := by rfl) (gx : Gl X x := by rfl) (gy : Gl X y := by rfl)
    (hn : x ≠ "__name__" := by decide) (hn' : y ≠ "__name__" := by decide) (hd : (x == ("__debug__" : Str)) = false := by decide) (hd' : (y == ("__debug__" : Str)) = false := by decide)
    (hs1 : starEach [.Name x p3, .Name y p4] X.env = (false, eval (.Name x p3) X.env) :: starEach [.Name y p4] X.env := by rfl) (hs2 : starEach [.Name y p4] X.env = (false, eval (.Name y p4) X.env) :: starEach [] X.env := by rfl)
    (he : starEach [a, .Tuple [.Name x p3, .Name y p4] x1 p2] X.env = (false, eval a X.env) :: starEach [.Tuple [.Name x p3, .Name y p4] x1 p2] X.env := by rfl) (he2 : starEach [.Tuple [.Name x p3, .Name y p4] x1 p2] X.env = (false, eval (.Tuple [.Name x p3, .Name y p4] x1 p2) X.env) :: starEach [] X.env := by rfl)
    (hpl : (backTo pos (starEach [.Tuple [.Name x p3, .Name y p4] x1 p2] X.env)).any (·.1) = false := by rfl) : PdE X XE (.Call (.Name "isinstance" p) [a, .Tuple [.Name x p3, .Name y p4] x1 p2] [] pos) (wIsi (fT2 T T') w) :=
  pd_isiT (cs := [.ty T.name, .ty T'.name]) (us := [.type T.name, .type T'.name]) (fT2_ok T T') (pa_cons (pe_bltn (v := .ty T.name) gx hm hv rfl hn hd) (pa_cons (pe_bltn (v := .ty T'.name) gy hm' hv' rfl hn' hd') pa_nil hs2) hs1) (fun σ H Q h => h) (.cons (.ty _) (.cons (.ty _) .nil)) (by show 2 ≤ 16777216; decide) gl hi ha he he2 hpl
end
end PL
/-! PL16: reading the WP terms: comprehensions, loops, data equality. -/
namespace PL
open PySem PySem.Spec PyProof.Rows L2
variable [HasT]
/-- [f x for x in ds] -/
theorem lc_map {wt : WG} {we : WE} {vs : List Nat} {ρ : Env} {Q : R → Env → Prop} (f : D → D) : ∀ {ds acc : List D},
    (∀ d ∈ ds, ∀ k : D → Env → Prop, (∀ ρ3, wipeE ρ3 vs = ρ → k (f d) ρ3) → wt d ρ fun ρ1 => wK we ρ1 k (fun _ _ => False)) → Q (.tmp (.lst (acc ++ ds.map f))) ρ → wLcL wt wYes we vs ds acc ρ Q
  | [], acc, _, q => by simpa [wLcL] using q
  | d :: ds, acc, h, q => by
    have ih := fun acc' q' => lc_map (wt := wt) (we := we) (vs := vs) (ρ := ρ) (Q := Q) f (ds := ds) (acc := acc') (fun d' hd => h d' (List.mem_cons_of_mem _ hd)) q'
    have h1 := h d List.mem_cons_self (fun y ρ3 => wLcL wt wYes we vs ds (acc ++ [y]) (wipeE ρ3 vs) Q) fun ρ3 e => by
      rw [e]
      exact ih _ (by simpa using q)
    simp only [wLcL, wYes, if_true]
    exact h1
/-- [f x for x in ds if p x] -/
theorem lc_fil {wt : WG} {tt : WT} {we : WE} {vs : List Nat} {ρ : Env} {Q : R → Env → Prop} (p : D → Bool) (f : D → D) : ∀ {ds acc : List D},
    (∀ d ∈ ds, ∀ (k : D → Env → Prop) (k0 : Env → Prop), (p d = true → ∀ ρ3, wipeE ρ3 vs = ρ → k (f d) ρ3) → (p d = false → ∀ ρ2, wipeE ρ2 vs = ρ → k0 ρ2) → wt d ρ fun ρ1 => tt ρ1 (fun b ρ2 => if b = true then wK we ρ2 k (fun _ _ => False) else k0 ρ2) (fun _ _ => False)) →
    Q (.tmp (.lst (acc ++ (ds.filter p).map f))) ρ → wLcL wt tt we vs ds acc ρ Q
  | [], acc, _, q => by simpa [wLcL] using q
  | d :: ds, acc, h, q => by
    have ih := fun acc' q' => lc_fil (wt := wt) (tt := tt) (we := we) (vs := vs) (ρ := ρ) (Q := Q) p f (ds := ds) (acc := acc') (fun d' hd => h d' (List.mem_cons_of_mem _ hd)) q'
    have h1 := h d List.mem_cons_self (fun y ρ3 => wLcL wt tt we vs ds (acc ++ [y]) (wipeE ρ3 vs) Q) (fun ρ2 => wLcL wt tt we vs ds acc (wipeE ρ2 vs) Q) (fun hp ρ3 e => by
      rw [e]
      exact ih _ (by simpa [hp] using q)) (fun hp ρ2 e => by
      rw [e]
      exact ih _ (by simpa [hp] using q))
    simp only [wLcL]
    exact h1
/-- for x in ds: an invariant of the turns done -/
theorem for_inv {wt : WG} {wb : WS} {Dp : PEnds} (I : Nat → Env → Prop) : ∀ {ds : List D} {ρ : Env} (i : Nat), I i ρ →
    (∀ j (d : D) ρ, ds[j]? = some d → I (i + j) ρ → ∀ N : Env → Prop, (∀ ρ', I (i + j + 1) ρ' → N ρ') → wt d ρ fun ρ1 => wb { Dp with nx := N, ct := N, bk := Dp.nx } ρ1) →
    (∀ ρ, I (i + ds.length) ρ → Dp.nx ρ) → wForL wt wb ds Dp ρ
  | [], ρ, i, h, _, q => q ρ h
  | d :: ds, ρ, i, h, st, q => by
    refine st 0 d ρ rfl h _ fun ρ2 h2 => ?_
    refine for_inv I (i + 1) h2 (fun j d' ρ' e hI N hN => ?_) fun ρ' hI => q ρ' (by simpa [Nat.add_assoc, Nat.add_comm, Nat.add_left_comm] using hI)
    exact st (j + 1) d' ρ' (by simpa using e) (by rw [show i + (j + 1) = i + 1 + j by omega]; exact hI) N fun ρ2 h3 => hN ρ2 (by rw [show i + 1 + j + 1 = i + (j + 1) + 1 by omega]; exact h3)
/-- while: an invariant and a measure -/
theorem while_inv {wt : WT} {wb : WS} {Dp : PEnds} (I : Nat → Env → Prop) {ρ : Env} {n : Nat} (h : I n ρ)
    (st : ∀ n ρ, I n ρ → ∀ N : Env → Prop, (∀ m ρ', m < n → I m ρ' → N ρ') → wt ρ (fun b ρ' => if b = true then wb { Dp with nx := N, ct := N, bk := Dp.nx } ρ' else Dp.nx ρ') Dp.ex) : wWhile wt wb Dp ρ := by
  have aux : ∀ (n : Nat) (ρ : Env), I n ρ → ∀ m, n < m → wWhileN wt wb m Dp ρ := by
    intro n
    induction n using Nat.strongRecOn with
    | _ n ih =>
      intro ρ h m hm
      cases m with
      | zero => omega
      | succ m => exact st n ρ h _ fun m' ρ' h1 h2 => ih m' h1 ρ' h2 m (by omega)
  exact ⟨n + 1, aux n ρ h _ (Nat.lt_succ_self n)⟩
/-! ### places -/
theorem atI_nat {α : Type} (l : List α) (n : Nat) : atI l (n : Int) = l[n]? := by
  unfold atI ixN
  rw [if_pos (Int.natCast_nonneg n)]
  by_cases h : n < l.length
  · rw [if_pos (by omega)]
    rfl
  · rw [if_neg (by omega), List.getElem?_eq_none (by omega)]
    rfl
theorem atI_0 {α : Type} (a : α) (l : List α) : atI (a :: l) 0 = some a := atI_nat (a :: l) 0
theorem atI_1 {α : Type} (a b : α) (l : List α) : atI (a :: b :: l) 1 = some b := atI_nat (a :: b :: l) 1
theorem atI_2 {α : Type} (a b c : α) (l : List α) : atI (a :: b :: c :: l) 2 = some c := atI_nat (a :: b :: c :: l) 2
theorem atI_3 {α : Type} (a b c d : α) (l : List α) : atI (a :: b :: c :: d :: l) 3 = some d := atI_nat (a :: b :: c :: d :: l) 3
theorem atI_4 {α : Type} (a b c d e : α) (l : List α) : atI (a :: b :: c :: d :: e :: l) 4 = some e := atI_nat (a :: b :: c :: d :: e :: l) 4
theorem cut_from {α : Type} (l : List α) (n : Nat) : cut l (some (n : Int)) none = l.drop n := by
  unfold cut
  rw [HT.sIx_nat, HT.sIx_none]
  by_cases h : n ≤ l.length
  · rw [Nat.min_eq_left h, List.take_of_length_le (by simp)]
  · rw [Nat.min_eq_right (by omega), List.drop_eq_nil_of_le (Nat.le_refl _), List.drop_eq_nil_of_le (by omega)]
    simp
theorem cut_to {α : Type} (l : List α) (n : Nat) : cut l none (some (n : Int)) = l.take n := by
  unfold cut
  rw [HT.sIx_nat, HT.sIx_none]
  by_cases h : n ≤ l.length
  · rw [Nat.min_eq_left h]; rfl
  · rw [Nat.min_eq_right (by omega), List.take_of_length_le (by simp), List.take_of_length_le (by omega)]
    rfl
theorem cut_1 {α : Type} (a : α) (l : List α) : cut (a :: l) (some 1) none = l := cut_from (a :: l) 1
theorem rangeD_of (lo : Int) (n : Nat) : rangeD lo (lo + n) = (List.range n).map fun i : Nat => D.int (lo + i) := by
  unfold rangeD
  rw [show (lo + (n : Int) - lo).toNat = n by omega]
end PL
/-! PL17: the WP terms, one equation a combinator and case. Proved by Eq.trans rfl rfl, so that simp rewrites with a proof at each step and the kernel has nothing to unfold. -/
namespace PL
open PySem PySem.Spec PyProof.Rows L2
variable [HasT]
/-! ### what waits behind -/
def kIf (A B : Env → Prop) (b : Bool) (ρ : Env) : Prop := if b = true then A ρ else B ρ
theorem kIf_t {A B : Env → Prop} {ρ : Env} : kIf A B true ρ = A ρ := Eq.trans rfl rfl
theorem kIf_f {A B : Env → Prop} {ρ : Env} : kIf A B false ρ = B ρ := Eq.trans rfl rfl
def oK {α : Type} (o : Option α) (k : α → Prop) : Prop := match o with
  | some a => k a
  | none => False
theorem oK_s {α : Type} {a : α} {k : α → Prop} : oK (some a) k = k a := Eq.trans rfl rfl
def kV (Q : R → Env → Prop) (r : R) (ρ : Env) : Prop := match r with
  | .tmp d => frz d (Q (.val d) ρ)
  | r => Q r ρ
theorem kV_val {Q : R → Env → Prop} {d : D} {ρ : Env} : kV Q (.val d) ρ = Q (.val d) ρ := Eq.trans rfl rfl
theorem kV_tmp {Q : R → Env → Prop} {d : D} {ρ : Env} : kV Q (.tmp d) ρ = frz d (Q (.val d) ρ) := Eq.trans rfl rfl
theorem kV_slot {Q : R → Env → Prop} {i : Nat} {ρ : Env} : kV Q (.slot i) ρ = Q (.slot i) ρ := Eq.trans rfl rfl
theorem frz_lst {ds : List D} {p : Prop} : frz (.lst ds) p = p := Eq.trans rfl rfl
theorem frz_dic {ks : List Key} {ds : List D} {p : Prop} : frz (.dic ks ds) p = p := Eq.trans rfl rfl
theorem frz_obj {c : Str} {ks : List Str} {ds : List D} {p : Prop} : frz (.obj c ks ds) p = p := Eq.trans rfl rfl
def kK (Q : D → Env → Prop) (r : R) (ρ' : Env) : Prop := match r with
  | .val d => Q d ρ'
  | .tmp d => frz d (Q d ρ')
  | .slot i => match ρ'[i]? with
    | some (some (.val d)) => Q d ρ'
    | some (some (.own false d)) => frz d (Q d (ρ'.set i (some (.val d))))
    | _ => False
theorem kK_val {Q : D → Env → Prop} {d : D} {ρ : Env} : kK Q (.val d) ρ = Q d ρ := Eq.trans rfl rfl
theorem kK_tmp {Q : D → Env → Prop} {d : D} {ρ : Env} : kK Q (.tmp d) ρ = frz d (Q d ρ) := Eq.trans rfl rfl
def kKo (Q : D → Env → Prop) (i : Nat) (ρ : Env) (o : Option Ent) : Prop := match o with
  | some (.val d) => Q d ρ
  | some (.own false d) => frz d (Q d (ρ.set i (some (.val d))))
  | _ => False
theorem kKo_v {Q : D → Env → Prop} {d : D} {i : Nat} {ρ : Env} : kKo Q i ρ (some (.val d)) = Q d ρ := Eq.trans rfl rfl
theorem kKo_o {Q : D → Env → Prop} {d : D} {i : Nat} {ρ : Env} : kKo Q i ρ (some (.own false d)) = frz d (Q d (ρ.set i (some (.val d)))) := Eq.trans rfl rfl
theorem kK_slot {Q : D → Env → Prop} {i : Nat} {ρ : Env} : kK Q (.slot i) ρ = oK (ρ[i]?) (kKo Q i ρ) := by
  have e2 : kK Q (.slot i) ρ = (match ρ[i]? with
      | some (some (.val d)) => Q d ρ
      | some (some (.own false d)) => frz d (Q d (ρ.set i (some (.val d))))
      | _ => False) := rfl
  rw [e2]
  unfold oK kKo
  cases ρ[i]? with
  | none => rfl
  | some e =>
    rcases e with _ | ⟨d⟩ | ⟨b, d⟩
    · rfl
    · rfl
    · cases b <;> rfl
def kB (Q : Bool → Env → Prop) (r : R) (ρ' : Env) : Prop := match r with
  | .val (.bl b) => Q b ρ'
  | _ => False
theorem kB_bl {Q : Bool → Env → Prop} {b : Bool} {ρ : Env} : kB Q (.val (.bl b)) ρ = Q b ρ := Eq.trans rfl rfl
def kSo (Q : Option Int → Env → Prop) (r : R) (ρ' : Env) : Prop := match r with
  | .val (.int i) => Q (some i) ρ'
  | _ => False
theorem kSo_int {Q : Option Int → Env → Prop} {i : Int} {ρ : Env} : kSo Q (.val (.int i)) ρ = Q (some i) ρ := Eq.trans rfl rfl
/-! ### statements -/
section
variable {n bk ct : Env → Prop} {r : R → Env → Prop} {ex : Ex → Env → Prop} {ρ : Env} {D' : PEnds} {i' : Nat}
theorem x_seq {a b : WS} : wSeq a b ⟨n, r, bk, ct, ex⟩ ρ = a ⟨fun ρ' => b ⟨n, r, bk, ct, ex⟩ ρ', r, bk, ct, ex⟩ ρ := Eq.trans rfl rfl
theorem x_next : wNext ⟨n, r, bk, ct, ex⟩ ρ = n ρ := Eq.trans rfl rfl
theorem x_break : wBreak ⟨n, r, bk, ct, ex⟩ ρ = bk ρ := Eq.trans rfl rfl
theorem x_expr {w : WE} : wExpr w ⟨n, r, bk, ct, ex⟩ ρ = w ρ (fun _ ρ' => n ρ') ex := Eq.trans rfl rfl
def kRet (r : R → Env → Prop) (s : R) (ρ' : Env) : Prop := match s with
  | .slot i => match ρ'[i]? with
    | some (some (.val d)) => r (.val d) ρ'
    | some (some (.own false d)) => r (.tmp d) (ρ'.set i none)
    | _ => False
  | s => r s ρ'
theorem kRet_val {d : D} : kRet r (.val d) ρ = r (.val d) ρ := Eq.trans rfl rfl
theorem kRet_tmp {d : D} : kRet r (.tmp d) ρ = r (.tmp d) ρ := Eq.trans rfl rfl
def kRo (r : R → Env → Prop) (i : Nat) (ρ : Env) (o : Option Ent) : Prop := match o with
  | some (.val d) => r (.val d) ρ
  | some (.own false d) => r (.tmp d) (ρ.set i none)
  | _ => False
theorem kRo_v {i : Nat} {d : D} : kRo r i ρ (some (.val d)) = r (.val d) ρ := Eq.trans rfl rfl
theorem kRo_o {i : Nat} {d : D} : kRo r i ρ (some (.own false d)) = r (.tmp d) (ρ.set i none) := Eq.trans rfl rfl
theorem kRet_slot {i : Nat} : kRet r (.slot i) ρ = oK (ρ[i]?) (kRo r i ρ) := by
  have e2 : kRet r (.slot i) ρ = (match ρ[i]? with
      | some (some (.val d)) => r (.val d) ρ
      | some (some (.own false d)) => r (.tmp d) (ρ.set i none)
      | _ => False) := rfl
  rw [e2]
  unfold oK kRo
  cases ρ[i]? with
  | none => rfl
  | some e =>
    rcases e with _ | ⟨d⟩ | ⟨b, d⟩
    · rfl
    · rfl
    · cases b <;> rfl
theorem x_ret {w : WE} : wRet w ⟨n, r, bk, ct, ex⟩ ρ = w ρ (kRet r) ex := Eq.trans rfl rfl
theorem x_retN : wRetN ⟨n, r, bk, ct, ex⟩ ρ = r (.val .non) ρ := Eq.trans rfl rfl
theorem x_if {wt : WT} {wa wb : WS} : wIf wt wa wb ⟨n, r, bk, ct, ex⟩ ρ = wt ρ (kIf (wa ⟨n, r, bk, ct, ex⟩) (wb ⟨n, r, bk, ct, ex⟩)) ex := Eq.trans rfl rfl
theorem x_asg {w : WE} {g : WG} : wAsg w g ⟨n, r, bk, ct, ex⟩ ρ = w ρ (kK fun d ρ' => g d ρ' n) ex := Eq.trans rfl rfl
/-- slot i may be stored to -/
def frS (ρ : Env) (i : Nat) : Bool := match ρ[i]? with
  | some (some (.own true _)) => false
  | some _ => true
  | none => false
def frO (o : Option (Option Ent)) : Bool := match o with
  | some (some (.own true _)) => false
  | some _ => true
  | none => false
theorem frO_n : frO (some none) = true := Eq.trans rfl rfl
theorem frO_v {d : D} : frO (some (some (.val d))) = true := Eq.trans rfl rfl
theorem frO_o {d : D} : frO (some (some (.own false d))) = true := Eq.trans rfl rfl
theorem x_frS : frS ρ i' = frO (ρ[i']?) := by
  unfold frS frO
  cases ρ[i']? with
  | none => rfl
  | some e =>
    rcases e with _ | ⟨d⟩ | ⟨b, d⟩
    · rfl
    · rfl
    · cases b <;> rfl
def kSet (i : Nat) (n : Env → Prop) (r : R) (ρ' : Env) : Prop := match ρ'[i]? with
  | some (some (.own true _)) => False
  | some _ => match r with
    | .val d => n (ρ'.set i (some (.val d)))
    | .tmp d => n (ρ'.set i (some (.own false d)))
    | .slot j => match ρ'[j]? with
      | some (some (.val d)) => n (ρ'.set i (some (.val d)))
      | some (some (.own false d)) => frz d (n ((ρ'.set j (some (.val d))).set i (some (.val d))))
      | _ => False
  | none => False
theorem frS_cases {ρ : Env} {i : Nat} (h : frS ρ i = true) : ρ[i]? = some none ∨ (∃ d, ρ[i]? = some (some (.val d))) ∨ ∃ d, ρ[i]? = some (some (.own false d)) := by
  unfold frS at h
  split at h
  · cases h
  next y hy e =>
    cases y with
    | none => exact .inl e
    | some y =>
      cases y with
      | val d => exact .inr (.inl ⟨d, e⟩)
      | own b d =>
        cases b with
        | false => exact .inr (.inr ⟨d, e⟩)
        | true => exact absurd rfl (hy d)
  · cases h
theorem kSet_val {i : Nat} {d : D} (h : frS ρ i = true) : kSet i n (.val d) ρ = n (ρ.set i (some (.val d))) := by
  unfold kSet
  rcases frS_cases h with e | ⟨_, e⟩ | ⟨_, e⟩ <;> simp only [e]
theorem kSet_tmp {i : Nat} {d : D} (h : frS ρ i = true) : kSet i n (.tmp d) ρ = n (ρ.set i (some (.own false d))) := by
  unfold kSet
  rcases frS_cases h with e | ⟨_, e⟩ | ⟨_, e⟩ <;> simp only [e]
def kSl (i j : Nat) (n : Env → Prop) (ρ : Env) (o : Option Ent) : Prop := match o with
  | some (.val d) => n (ρ.set i (some (.val d)))
  | some (.own false d) => frz d (n ((ρ.set j (some (.val d))).set i (some (.val d))))
  | _ => False
theorem kSl_v {i j : Nat} {d : D} : kSl i j n ρ (some (.val d)) = n (ρ.set i (some (.val d))) := Eq.trans rfl rfl
theorem kSl_o {i j : Nat} {d : D} : kSl i j n ρ (some (.own false d)) = frz d (n ((ρ.set j (some (.val d))).set i (some (.val d)))) := Eq.trans rfl rfl
theorem kSet_slot {i j : Nat} (h : frS ρ i = true) : kSet i n (.slot j) ρ = oK (ρ[j]?) (kSl i j n ρ) := by
  have : kSet i n (.slot j) ρ = (match ρ[j]? with
      | some (some (.val d)) => n (ρ.set i (some (.val d)))
      | some (some (.own false d)) => frz d (n ((ρ.set j (some (.val d))).set i (some (.val d))))
      | _ => False) := by
    unfold kSet
    rcases frS_cases h with e | ⟨_, e⟩ | ⟨_, e⟩ <;> simp only [e]
  rw [this]
  unfold oK kSl
  cases ρ[j]? with
  | none => rfl
  | some e =>
    rcases e with _ | ⟨d⟩ | ⟨b, d⟩
    · rfl
    · rfl
    · cases b <;> rfl
theorem x_set {i : Nat} {w : WE} : wSet i w ⟨n, r, bk, ct, ex⟩ ρ = w ρ (kSet i n) ex := Eq.trans rfl rfl
theorem x_for {wi : WI} {wt : WG} {wb : WS} : wFor wi wt wb ⟨n, r, bk, ct, ex⟩ ρ = wi ρ (fun ds ρ1 => wForL wt wb ds ⟨n, r, bk, ct, ex⟩ ρ1) ex := Eq.trans rfl rfl
theorem x_name {i : Nat} {d : D} {Q : Env → Prop} (h : frS ρ i = true) : wName i d ρ Q = Q (ρ.set i (some (.val d))) := by
  unfold wName
  rcases frS_cases h with e | ⟨_, e⟩ | ⟨_, e⟩ <;> simp only [e]
theorem x_gn {Q : Env → Prop} : wGn [] ρ Q = Q ρ := Eq.trans rfl rfl
theorem x_gc {w : WG} {wr : WGs} {d : D} {ds : List D} {Q : Env → Prop} : wGc w wr (d :: ds) ρ Q = w d ρ (fun ρ' => wr ds ρ' Q) := Eq.trans rfl rfl
theorem x_unpT {k : Nat} {ws : WGs} {ds : List D} {Q : Env → Prop} (h : ds.length = k) : wUnp k ws (.tup ds) ρ Q = ws ds ρ Q := by
  show (ds.length = k ∧ ws ds ρ Q) = _
  simp only [h, true_and]
theorem x_unpL {k : Nat} {ws : WGs} {ds : List D} {Q : Env → Prop} (h : ds.length = k) : wUnp k ws (.lst ds) ρ Q = ws ds ρ Q := by
  show (ds.length = k ∧ ws ds ρ Q) = _
  simp only [h, true_and]
def kAug (i : Nat) (C : Int → Int → Prop) (f : Int → Int → Int) (m : Int) (n : Env → Prop) (r : R) (ρ' : Env) : Prop := match r with
  | .val (.int k) => C m k ∧ (match ρ'[i]? with
    | some (some (.own _ _)) => False
    | some _ => n (ρ'.set i (some (.val (.int (f m k)))))
    | none => False)
  | _ => False
/-- slot i holds no object of its own -/
def vlS (ρ : Env) (i : Nat) : Bool := match ρ[i]? with
  | some (some (.own _ _)) => false
  | some _ => true
  | none => false
def vlO (o : Option (Option Ent)) : Bool := match o with
  | some (some (.own _ _)) => false
  | some _ => true
  | none => false
theorem vlO_n : vlO (some none) = true := Eq.trans rfl rfl
theorem vlO_v {d : D} : vlO (some (some (.val d))) = true := Eq.trans rfl rfl
theorem x_vlS : vlS ρ i' = vlO (ρ[i']?) := by
  unfold vlS vlO
  cases ρ[i']? with
  | none => rfl
  | some e => rcases e with _ | ⟨d⟩ | ⟨b, d⟩ <;> rfl
theorem kAug_int {i : Nat} {C : Int → Int → Prop} {f : Int → Int → Int} {m k : Int} (h : vlS ρ i = true) : kAug i C f m n (.val (.int k)) ρ = (C m k ∧ n (ρ.set i (some (.val (.int (f m k)))))) := by
  unfold kAug
  unfold vlS at h
  cases e : ρ[i]? with
  | none => rw [e] at h; cases h
  | some y =>
    rw [e] at h
    rcases y with _ | ⟨d⟩ | ⟨b, d⟩
    · rfl
    · rfl
    · cases h
def kAu (i : Nat) (C : Int → Int → Prop) (f : Int → Int → Int) (w : WE) (n : Env → Prop) (ex : Ex → Env → Prop) (ρ : Env) (o : Option Ent) : Prop := match o with
  | some (.val (.int m)) => w ρ (kAug i C f m n) ex
  | _ => False
theorem kAu_i {i : Nat} {C : Int → Int → Prop} {f : Int → Int → Int} {w : WE} {m : Int} : kAu i C f w n ex ρ (some (.val (.int m))) = w ρ (kAug i C f m n) ex := Eq.trans rfl rfl
theorem x_aug {i : Nat} {C : Int → Int → Prop} {f : Int → Int → Int} {w : WE} : wAugI i C f w ⟨n, r, bk, ct, ex⟩ ρ = oK (ρ[i]?) (kAu i C f w n ex ρ) := by
  unfold wAugI oK kAu
  cases ρ[i]? with
  | none => rfl
  | some e =>
    rcases e with _ | ⟨d⟩ | ⟨b, d⟩
    · rfl
    · cases d <;> rfl
    · rfl
def kSetF (i : Nat) (cn f : Str) (n : Env → Prop) (d : D) (ρ' : Env) : Prop := match ρ'[i]? with
  | some (some (.own b (.obj c fs ds))) => c = cn ∧ fs.length < 1000 ∧ isBx d = false ∧ n (ρ'.set i (some (.own b (.obj c (putN fs f) (putD fs ds f d)))))
  | _ => False
def kSF (i : Nat) (cn f : Str) (n : Env → Prop) (d : D) (ρ : Env) (o : Option Ent) : Prop := match o with
  | some (.own b (.obj c fs ds)) => c = cn ∧ fs.length < 1000 ∧ isBx d = false ∧ n (ρ.set i (some (.own b (.obj c (putN fs f) (putD fs ds f d)))))
  | _ => False
theorem kSF_ok {i : Nat} {cn f : Str} {d : D} {b : Bool} {fs : List Str} {ds : List D} : kSF i cn f n d ρ (some (.own b (.obj cn fs ds))) = (fs.length < 1000 ∧ isBx d = false ∧ n (ρ.set i (some (.own b (.obj cn (putN fs f) (putD fs ds f d)))))) := by
  show (cn = cn ∧ _) = _
  simp only [true_and]
theorem kSetF_s {i : Nat} {cn f : Str} {d : D} : kSetF i cn f n d ρ = oK (ρ[i]?) (kSF i cn f n d ρ) := by
  unfold kSetF oK kSF
  cases ρ[i]? with
  | none => rfl
  | some e =>
    rcases e with _ | ⟨d'⟩ | ⟨b, d'⟩
    · rfl
    · rfl
    · cases d' <;> rfl
theorem x_setF {i : Nat} {cn f : Str} {w : WE} : wSetF i cn f w ⟨n, r, bk, ct, ex⟩ ρ = w ρ (kK (kSetF i cn f n)) ex := Eq.trans rfl rfl
theorem entOf_val {d : D} {k : Ent → Prop} : entOf (.val d) k = k (.val d) := Eq.trans rfl rfl
theorem entOf_tmp {d : D} {k : Ent → Prop} : entOf (.tmp d) k = k (.own false d) := Eq.trans rfl rfl
theorem freeE_ok {i : Nat} (h : frS ρ i = true) : freeE ρ i = True := by
  unfold freeE
  rcases frS_cases h with e | ⟨_, e⟩ | ⟨_, e⟩ <;> simp only [e]
theorem x_par {i j : Nat} {wa wb : WE} : wPar i j wa wb ⟨n, r, bk, ct, ex⟩ ρ = wa ρ (fun r1 ρ1 => wb ρ1 (fun r2 ρ2 => entOf r1 fun e1 => entOf r2 fun e2 => freeE ρ2 i ∧ freeE ρ2 j ∧ n ((ρ2.set i (some e1)).set j (some e2))) ex) ex := Eq.trans rfl rfl
end
/-! ### expressions -/
section
variable {ρ : Env} {Q : R → Env → Prop} {Ep : Ex → Env → Prop}
def kVar (i : Nat) (Q : R → Env → Prop) (ρ : Env) (o : Option Ent) : Prop := match o with
  | some (.val d) => Q (.val d) ρ
  | some (.own _ _) => Q (.slot i) ρ
  | none => False
theorem kVar_v {i : Nat} {d : D} : kVar i Q ρ (some (.val d)) = Q (.val d) ρ := Eq.trans rfl rfl
theorem kVar_o {i : Nat} {b : Bool} {d : D} : kVar i Q ρ (some (.own b d)) = Q (.slot i) ρ := Eq.trans rfl rfl
theorem x_var {i : Nat} : wVar i ρ Q Ep = oK (ρ[i]?) (kVar i Q ρ) := by
  unfold wVar oK kVar
  cases ρ[i]? with
  | none => rfl
  | some e => rcases e with _ | ⟨d⟩ | ⟨b, d⟩ <;> rfl
theorem x_C {d : D} : wC d ρ Q Ep = Q (.val d) ρ := Eq.trans rfl rfl
theorem pk1_val {d : D} {k : D → Prop} : pk1 ρ (.val d) k = k d := Eq.trans rfl rfl
theorem pk1_tmp {d : D} {k : D → Prop} : pk1 ρ (.tmp d) k = k d := Eq.trans rfl rfl
def kPk (k : D → Prop) (o : Option Ent) : Prop := match o with
  | some e => k e.d
  | none => False
theorem kPk_s {e : Ent} {k : D → Prop} : kPk k (some e) = k e.d := Eq.trans rfl rfl
theorem pk1_slot {i : Nat} {k : D → Prop} : pk1 ρ (.slot i) k = oK (ρ[i]?) (kPk k) := by
  have e2 : peek ρ (.slot i) = (match ρ[i]? with
      | some (some e) => some e.d
      | _ => none) := rfl
  unfold pk1
  rw [e2]
  unfold oK kPk
  cases ρ[i]? with
  | none => rfl
  | some e => cases e <;> rfl
theorem x_V {w : WE} : wV w ρ Q Ep = w ρ (kV Q) Ep := by
  unfold wV
  congr 1
theorem x_K {w : WE} {Q : D → Env → Prop} : wK w ρ Q Ep = w ρ (kK Q) Ep := Eq.trans rfl rfl
theorem x_op1 {g : G1} {wa : WE} : wOp1 g wa ρ Q Ep = wV wa ρ (fun r ρ1 => pk1 ρ1 r fun d => g d fun s => Q s ρ1) Ep := Eq.trans rfl rfl
theorem x_op2 {g : G2} {wa wb : WE} : wOp2 g wa wb ρ Q Ep = wV wa ρ (fun r ρ1 => wV wb ρ1 (fun s ρ2 => pk1 ρ2 r fun d => pk1 ρ2 s fun e => g d e fun z => Q z ρ2) Ep) Ep := Eq.trans rfl rfl
theorem x_B {w : WE} {Q : Bool → Env → Prop} : wB w ρ Q Ep = w ρ (kB Q) Ep := Eq.trans rfl rfl
theorem x_notT {w : WT} {Q : Bool → Env → Prop} : wNotT w ρ Q Ep = w ρ (fun b ρ' => Q (!b) ρ') Ep := Eq.trans rfl rfl
theorem x_andT {wa wb : WT} {Q : Bool → Env → Prop} : wAndT wa wb ρ Q Ep = wa ρ (kIf (fun ρ' => wb ρ' Q Ep) (fun ρ' => Q false ρ')) Ep := Eq.trans rfl rfl
theorem x_orT {wa wb : WT} {Q : Bool → Env → Prop} : wOrT wa wb ρ Q Ep = wa ρ (kIf (fun ρ' => Q true ρ') (fun ρ' => wb ρ' Q Ep)) Ep := Eq.trans rfl rfl
theorem x_and {wa wb : WE} : wAnd wa wb ρ Q Ep = wB wa ρ (kIf (fun ρ' => wb ρ' Q Ep) (fun ρ' => Q (.val (.bl false)) ρ')) Ep := Eq.trans rfl rfl
theorem x_or {wa wb : WE} : wOr wa wb ρ Q Ep = wB wa ρ (kIf (fun ρ' => Q (.val (.bl true)) ρ') (fun ρ' => wb ρ' Q Ep)) Ep := Eq.trans rfl rfl
theorem x_not {wa : WE} : wNot wa ρ Q Ep = wB wa ρ (fun b ρ' => Q (.val (.bl (!b))) ρ') Ep := Eq.trans rfl rfl
theorem x_ife {wt : WT} {wa wb : WE} : wIfE wt wa wb ρ Q Ep = wt ρ (kIf (fun ρ' => wa ρ' Q Ep) (fun ρ' => wb ρ' Q Ep)) Ep := Eq.trans rfl rfl
def kCh (h : G2) (wc : WE) (ρ2 : Env) (s : R) (Q : R → Env → Prop) (Ep : Ex → Env → Prop) (z : R) : Prop := match z with
  | .val (.bl true) => wV wc ρ2 (fun u ρ3 => pk1 ρ3 s fun e => pk1 ρ3 u fun f => h e f fun z => Q z ρ3) Ep
  | .val (.bl false) => Q (.val (.bl false)) ρ2
  | _ => False
theorem kCh_t {h : G2} {wc : WE} {s : R} : kCh h wc ρ s Q Ep (.val (.bl true)) = wV wc ρ (fun u ρ3 => pk1 ρ3 s fun e => pk1 ρ3 u fun f => h e f fun z => Q z ρ3) Ep := Eq.trans rfl rfl
theorem kCh_f {h : G2} {wc : WE} {s : R} : kCh h wc ρ s Q Ep (.val (.bl false)) = Q (.val (.bl false)) ρ := Eq.trans rfl rfl
theorem x_chain {g h : G2} {wa wb wc : WE} : wChain g h wa wb wc ρ Q Ep = wV wa ρ (fun r ρ1 => wV wb ρ1 (fun s ρ2 => pk1 ρ2 r fun d => pk1 ρ2 s fun e => g d e (kCh h wc ρ2 s Q Ep)) Ep) Ep := Eq.trans rfl rfl
theorem x_Kn {Q : List D → Env → Prop} : wKn ρ Q Ep = Q [] ρ := Eq.trans rfl rfl
theorem x_Kc {w : WE} {wr : WL} {Q : List D → Env → Prop} : wKc w wr ρ Q Ep = wK w ρ (fun d ρ1 => wr ρ1 (fun ds ρ2 => Q (d :: ds) ρ2) Ep) Ep := Eq.trans rfl rfl
theorem x_Vn {Q : List R → Env → Prop} : wVn ρ Q Ep = Q [] ρ := Eq.trans rfl rfl
theorem x_Vc {w : WE} {wr : WR} {Q : List R → Env → Prop} : wVc w wr ρ Q Ep = wV w ρ (fun d ρ1 => wr ρ1 (fun ds ρ2 => Q (d :: ds) ρ2) Ep) Ep := Eq.trans rfl rfl
theorem x_tup {w : WL} : wTup w ρ Q Ep = w ρ (fun ds ρ' => Q (.val (.tup ds)) ρ') Ep := Eq.trans rfl rfl
theorem x_lst {w : WL} : wLst w ρ Q Ep = w ρ (fun ds ρ' => Q (.tmp (.lst ds)) ρ') Ep := Eq.trans rfl rfl
theorem x_dic {ks : List Key} {w : WL} : wDic ks w ρ Q Ep = w ρ (fun ds ρ' => Q (.tmp (.dic ks ds)) ρ') Ep := Eq.trans rfl rfl
theorem x_None {Q : Option Int → Env → Prop} : wNone ρ Q Ep = Q none ρ := Eq.trans rfl rfl
theorem x_Some {w : WE} {Q : Option Int → Env → Prop} : wSome w ρ Q Ep = w ρ (kSo Q) Ep := Eq.trans rfl rfl
theorem x_Sl {w : WE} {wl wh : WO} : wSl w wl wh ρ Q Ep = wV w ρ (fun r ρ1 => wl ρ1 (fun lo ρ2 => wh ρ2 (fun hi ρ3 => pk1 ρ3 r fun d => gSl d lo hi fun z => Q z ρ3) Ep) Ep) Ep := Eq.trans rfl rfl
theorem gSl_lst {ds : List D} {lo hi : Option Int} {Q : R → Prop} : gSl (.lst ds) lo hi Q = Q (.tmp (.lst (cut ds lo hi))) := Eq.trans rfl rfl
theorem gSl_tup {ds : List D} {lo hi : Option Int} {Q : R → Prop} : gSl (.tup ds) lo hi Q = Q (.val (.tup (cut ds lo hi))) := Eq.trans rfl rfl
theorem x_call {g : GN} {w : WR} : wCall g w ρ Q Ep = w ρ (fun rs ρ' => pkL ρ' rs fun ds => g ds fun z => Q z ρ') Ep := Eq.trans rfl rfl
theorem pkL_nil {k : List D → Prop} : pkL ρ [] k = k [] := Eq.trans rfl rfl
theorem pkL_cons {r : R} {rs : List R} {k : List D → Prop} : pkL ρ (r :: rs) k = pk1 ρ r fun d => pkL ρ rs fun ds => k (d :: ds) := Eq.trans rfl rfl
def kIs (o : Option Bool) (Q : R → Env → Prop) (ρ : Env) : Prop := match o with
  | some b => Q (.val (.bl b)) ρ
  | none => False
theorem kIs_s {b : Bool} : kIs (some b) Q ρ = Q (.val (.bl b)) ρ := Eq.trans rfl rfl
theorem x_isi {f : D → Option Bool} {w : WE} : wIsi f w ρ Q Ep = wV w ρ (fun r ρ' => pk1 ρ' r fun d => kIs (f d) Q ρ') Ep := Eq.trans rfl rfl
theorem isBx_box {d : D} : isBx (.box d) = true := Eq.trans rfl rfl
theorem unB_box {d : D} : unB (.box d) = d := Eq.trans rfl rfl
theorem fQ_box {d : D} {k : D → Prop} : fldQ true (.box d) k = k d := by
  show ((true = true) ∧ k d) = _
  simp only [true_and]
theorem isBx_non : isBx (.non) = false := Eq.trans rfl rfl
theorem fQ_non {b' : Bool} {k : D → Prop} : fldQ b' (.non) k = k (.non) := Eq.trans rfl rfl
theorem isBx_bl {b : Bool} : isBx (.bl b) = false := Eq.trans rfl rfl
theorem fQ_bl {b : Bool} {b' : Bool} {k : D → Prop} : fldQ b' (.bl b) k = k (.bl b) := Eq.trans rfl rfl
theorem isBx_int {i : Int} : isBx (.int i) = false := Eq.trans rfl rfl
theorem fQ_int {i : Int} {b' : Bool} {k : D → Prop} : fldQ b' (.int i) k = k (.int i) := Eq.trans rfl rfl
theorem isBx_str {x : Str} : isBx (.str x) = false := Eq.trans rfl rfl
theorem fQ_str {x : Str} {b' : Bool} {k : D → Prop} : fldQ b' (.str x) k = k (.str x) := Eq.trans rfl rfl
theorem isBx_tup {ds : List D} : isBx (.tup ds) = false := Eq.trans rfl rfl
theorem fQ_tup {ds : List D} {b' : Bool} {k : D → Prop} : fldQ b' (.tup ds) k = k (.tup ds) := Eq.trans rfl rfl
theorem isBx_lst {ds : List D} : isBx (.lst ds) = false := Eq.trans rfl rfl
theorem fQ_lst {ds : List D} {b' : Bool} {k : D → Prop} : fldQ b' (.lst ds) k = k (.lst ds) := Eq.trans rfl rfl
theorem isBx_dic {ks : List Key} {ds : List D} : isBx (.dic ks ds) = false := Eq.trans rfl rfl
theorem fQ_dic {ks : List Key} {ds : List D} {b' : Bool} {k : D → Prop} : fldQ b' (.dic ks ds) k = k (.dic ks ds) := Eq.trans rfl rfl
theorem isBx_dit {ks : List (List Key)} {ds : List D} : isBx (.dit ks ds) = false := Eq.trans rfl rfl
theorem fQ_dit {ks : List (List Key)} {ds : List D} {b' : Bool} {k : D → Prop} : fldQ b' (.dit ks ds) k = k (.dit ks ds) := Eq.trans rfl rfl
theorem isBx_obj {c : Str} {fs : List Str} {ds : List D} : isBx (.obj c fs ds) = false := Eq.trans rfl rfl
theorem fQ_obj {c : Str} {fs : List Str} {ds : List D} {b' : Bool} {k : D → Prop} : fldQ b' (.obj c fs ds) k = k (.obj c fs ds) := Eq.trans rfl rfl
theorem isBx_exc {c : Str} {fs : List Str} {ds : List D} : isBx (.exc c fs ds) = false := Eq.trans rfl rfl
theorem fQ_exc {c : Str} {fs : List Str} {ds : List D} {b' : Bool} {k : D → Prop} : fldQ b' (.exc c fs ds) k = k (.exc c fs ds) := Eq.trans rfl rfl
theorem isBx_kst {ds : List D} : isBx (.kst ds) = false := Eq.trans rfl rfl
theorem fQ_kst {ds : List D} {b' : Bool} {k : D → Prop} : fldQ b' (.kst ds) k = k (.kst ds) := Eq.trans rfl rfl
theorem fQ_of {x : D} {b : Bool} {k : D → Prop} (h : isBx x = false) : fldQ b x k = k x := by
  unfold fldQ
  rw [if_neg (by rw [h]; simp)]
def frzO (o : Option (Option Ent)) : Bool := match o with
  | some (some (.val _)) => true
  | _ => false
theorem frzO_v {d : D} : frzO (some (some (.val d))) = true := Eq.trans rfl rfl
theorem frzO_o {b : Bool} {d : D} : frzO (some (some (.own b d))) = false := Eq.trans rfl rfl
theorem frzR_v {d : D} : frzR ρ (.val d) = true := Eq.trans rfl rfl
theorem frzR_s {i : Nat} : frzR ρ (.slot i) = frzO (ρ[i]?) := by
  show (match ρ[i]? with | some (some (.val _)) => true | _ => false) = _
  unfold frzO
  cases ρ[i]? with
  | none => rfl
  | some e =>
    rcases e with _ | ⟨d⟩ | ⟨b, d⟩ <;> rfl
def kFld (cn f : Str) (Q : R → Env → Prop) (ρ : Env) (r : R) (d : D) : Prop := match d with
  | .obj c fs ds => c = cn ∧ match fldD fs ds f with
    | some x => fldQ (frzR ρ r) x fun y => Q (.val y) ρ
    | none => False
  | _ => False
theorem kFld_o {cn f : Str} {fs : List Str} {ds : List D} {r : R} : kFld cn f Q ρ r (.obj cn fs ds) = oK (fldD fs ds f) fun x => fldQ (frzR ρ r) x fun y => Q (.val y) ρ := by
  show (cn = cn ∧ (match fldD fs ds f with | some x => fldQ (frzR ρ r) x fun y => Q (.val y) ρ | none => False)) = _
  simp only [true_and]
  unfold oK
  cases fldD fs ds f <;> rfl
theorem x_fld {cn f : Str} {w : WE} : wFld cn f w ρ Q Ep = wV w ρ (fun r ρ' => pk1 ρ' r (kFld cn f Q ρ' r)) Ep := Eq.trans rfl rfl
/-! calls -/
theorem toArgs_nil {k : List Ent → Prop} : toArgs ρ [] k = k [] := Eq.trans rfl rfl
theorem toArgs_val {d : D} {rs : List R} {k : List Ent → Prop} : toArgs ρ (.val d :: rs) k = toArgs ρ rs fun as => k (.val d :: as) := Eq.trans rfl rfl
def kTa (ρ : Env) (rs : List R) (k : List Ent → Prop) (o : Option Ent) : Prop := match o with
  | some (.val d) => toArgs ρ rs fun as => k (.val d :: as)
  | some (.own _ d) => toArgs ρ rs fun as => k (.own true d :: as)
  | none => False
theorem kTa_v {d : D} {rs : List R} {k : List Ent → Prop} : kTa ρ rs k (some (.val d)) = toArgs ρ rs fun as => k (.val d :: as) := Eq.trans rfl rfl
theorem kTa_o {b : Bool} {d : D} {rs : List R} {k : List Ent → Prop} : kTa ρ rs k (some (.own b d)) = toArgs ρ rs fun as => k (.own true d :: as) := Eq.trans rfl rfl
theorem toArgs_slot {i : Nat} {rs : List R} {k : List Ent → Prop} : toArgs ρ (.slot i :: rs) k = oK (ρ[i]?) (kTa ρ rs k) := by
  have e1 : toArgs ρ (.slot i :: rs) k = (match argOf ρ (.slot i) with
      | some a => toArgs ρ rs fun as => k (a :: as)
      | none => False) := by
    rw [toArgs]
    all_goals (cases argOf ρ (.slot i) <;> rfl)
  have e2 : argOf ρ (.slot i) = (match ρ[i]? with
      | some (some (.val d)) => some (.val d)
      | some (some (.own _ d)) => some (.own true d)
      | _ => none) := rfl
  rw [e1, e2]
  unfold oK kTa
  cases ρ[i]? with
  | none => rfl
  | some e => rcases e with _ | ⟨d⟩ | ⟨b, d⟩ <;> rfl
theorem x_callF {fs : FS} {dds : List D} {wr : WR} : wCallF fs dds wr ρ Q Ep = wr ρ (fun rs ρ' => toArgs ρ' rs fun args => ndS rs = true ∧ fs (args ++ dds.map .val) (fun r args' => Q r (backA rs args' ρ')) (fun y args' => Ep y (backA rs args' ρ'))) Ep := Eq.trans rfl rfl
theorem backA_no {rs : List R} {as : List Ent} (h : rs.any anySlot = false) : backA rs as ρ = ρ := by
  unfold backA
  simp only [h]
theorem backA_nil {as : List Ent} : backA [] as ρ = ρ := Eq.trans rfl rfl
theorem backA_v1 {d : D} {as : List Ent} : backA [.val d] as ρ = ρ := Eq.trans rfl rfl
theorem backA_v2 {d e : D} {as : List Ent} : backA [.val d, .val e] as ρ = ρ := Eq.trans rfl rfl
theorem backA_v3 {d e f : D} {as : List Ent} : backA [.val d, .val e, .val f] as ρ = ρ := Eq.trans rfl rfl
def kObj (cn m : Str) (d : D) : Prop := match d with
  | .obj c fn _ => c = cn ∧ fn.contains m = false
  | _ => False
theorem kObj_ok {cn m : Str} {fn : List Str} {ds : List D} (h : fn.contains m = false) : kObj cn m (.obj cn fn ds) = True := by
  unfold kObj
  simp only [h, and_self]
theorem x_meth {cn m : Str} {fs : FS} {dds : List D} {wo : WE} {wr : WR} : wMeth cn m fs dds wo wr ρ Q Ep = wV wo ρ (fun r0 ρ0 => pk1 ρ0 r0 fun d0 => kObj cn m d0 ∧ wr ρ0 (fun rs ρ' => toArgs ρ' (r0 :: rs) fun args => ndS (r0 :: rs) = true ∧ fs (args ++ dds.map .val) (fun r args' => Q r (backA (r0 :: rs) args' ρ')) (fun y args' => Ep y (backA (r0 :: rs) args' ρ'))) Ep) Ep := Eq.trans rfl rfl
def kMk (Q : R → Env → Prop) (rs : List R) (ρ' : Env) (r : R) (args' : List Ent) : Prop := match r, args' with
  | .val .non, .own true d :: rest => frz d (Q (.val d) (backA rs rest ρ'))
  | _, _ => False
theorem kMk_ok {rs : List R} {d : D} {rest : List Ent} : kMk Q rs ρ (.val .non) (.own true d :: rest) = frz d (Q (.val d) (backA rs rest ρ)) := Eq.trans rfl rfl
theorem x_make {cn : Str} {fs : FS} {dds : List D} {wr : WR} : wMake cn fs dds wr ρ Q Ep = wr ρ (fun rs ρ' => toArgs ρ' rs fun args => ndS rs = true ∧ fs (.own true (.obj cn [] []) :: (args ++ dds.map .val)) (kMk Q rs ρ') (fun y args' => Ep y (backA rs args'.tail ρ'))) Ep := Eq.trans rfl rfl
theorem isObj_val {cn : Str} {fs : List Str} {ds : List D} : PL.isObj cn ρ (.val (.obj cn fs ds)) = True := by
  show (cn = cn) = True
  simp
theorem x_own {cn : Str} {fs : FS} {wa wb : WE} : wOwn cn fs wa wb ρ Q Ep = wV wa ρ (fun r ρ1 => wV wb ρ1 (fun s ρ2 => PL.isObj cn ρ2 r ∧ PL.isObj cn ρ2 s ∧ toArgs ρ2 [r, s] fun args => ndS [r, s] = true ∧ fs (args ++ [].map .val) (fun z args' => Q z (backA [r, s] args' ρ2)) (fun y args' => Ep y (backA [r, s] args' ρ2))) Ep) Ep := Eq.trans rfl rfl
theorem x_ownB {cn : Str} {f : Bool → Bool} {fs : FS} {wa wb : WE} : wOwnB cn f fs wa wb ρ Q Ep = wV wa ρ (fun r ρ1 => wV wb ρ1 (fun s ρ2 => PL.isObj cn ρ2 r ∧ PL.isObj cn ρ2 s ∧ toArgs ρ2 [r, s] fun args => ndS [r, s] = true ∧ fs (args ++ [].map .val) (fun z args' => toB f Q (backA [r, s] args' ρ2) z) (fun y args' => Ep y (backA [r, s] args' ρ2))) Ep) Ep := Eq.trans rfl rfl
theorem x_ownIn {cn : Str} {f : Bool → Bool} {fs : FS} {wa wb : WE} : wOwnIn cn f fs wa wb ρ Q Ep = wV wa ρ (fun r ρ1 => wV wb ρ1 (fun s ρ2 => PL.isObj cn ρ2 s ∧ toArgs ρ2 [s, r] fun args => ndS [s, r] = true ∧ fs (args ++ [].map .val) (fun z args' => toB f Q (backA [s, r] args' ρ2) z) (fun y args' => Ep y (backA [s, r] args' ρ2))) Ep) Ep := Eq.trans rfl rfl
theorem toB_bl {f : Bool → Bool} {b : Bool} : toB f Q ρ (.val (.bl b)) = Q (.val (.bl (f b))) ρ := Eq.trans rfl rfl
theorem ndS_nil : ndS [] = true := Eq.trans rfl rfl
theorem ndS_val {d : D} {rs : List R} : ndS (.val d :: rs) = ndS rs := Eq.trans rfl rfl
/-! what is walked -/
def kSrc (Q : List D → Env → Prop) (d : D) (ρ' : Env) : Prop := match d with
  | .lst ds => Q ds ρ'
  | .tup ds => Q ds ρ'
  | .str z => z.cps.size ≤ sizeLine ∧ Q (z.cps.toList.map fun c => D.str ⟨#[c]⟩) ρ'
  | _ => False
theorem kSrc_lst {Q : List D → Env → Prop} {ds : List D} : kSrc Q (.lst ds) ρ = Q ds ρ := Eq.trans rfl rfl
theorem kSrc_tup {Q : List D → Env → Prop} {ds : List D} : kSrc Q (.tup ds) ρ = Q ds ρ := Eq.trans rfl rfl
theorem kSrc_str {Q : List D → Env → Prop} {z : Str} : kSrc Q (.str z) ρ = (z.cps.size ≤ sizeLine ∧ Q (z.cps.toList.map fun c => D.str ⟨#[c]⟩) ρ) := Eq.trans rfl rfl
theorem x_src {w : WE} {Q : List D → Env → Prop} : wSrc w ρ Q Ep = wK w ρ (kSrc Q) Ep := Eq.trans rfl rfl
def kEn (Q : List D → Env → Prop) (d : D) (ρ' : Env) : Prop := match d with
  | .lst ds => Q (enumD ds) ρ'
  | .tup ds => Q (enumD ds) ρ'
  | _ => False
theorem kEn_lst {Q : List D → Env → Prop} {ds : List D} : kEn Q (.lst ds) ρ = Q (enumD ds) ρ := Eq.trans rfl rfl
theorem kEn_tup {Q : List D → Env → Prop} {ds : List D} : kEn Q (.tup ds) ρ = Q (enumD ds) ρ := Eq.trans rfl rfl
theorem x_enum {w : WE} {Q : List D → Env → Prop} : wEnum w ρ Q Ep = wK w ρ (kEn Q) Ep := Eq.trans rfl rfl
def kR1 (Q : List D → Env → Prop) (d : D) (ρ' : Env) : Prop := match d with
  | .int j => (-(2 ^ 62) ≤ j ∧ j < 2 ^ 62 ∧ j.toNat ≤ sizeLine) ∧ Q (rangeD 0 j) ρ'
  | _ => False
theorem kR1_int {Q : List D → Env → Prop} {j : Int} : kR1 Q (.int j) ρ = ((-(2 ^ 62) ≤ j ∧ j < 2 ^ 62 ∧ j.toNat ≤ sizeLine) ∧ Q (rangeD 0 j) ρ) := Eq.trans rfl rfl
theorem x_rng1 {w : WE} {Q : List D → Env → Prop} : wRng1 w ρ Q Ep = wK w ρ (kR1 Q) Ep := Eq.trans rfl rfl
def kR2 (Q : List D → Env → Prop) (d e : D) (ρ' : Env) : Prop := match d, e with
  | .int i, .int j => (-(2 ^ 62) ≤ i ∧ i < 2 ^ 62 ∧ -(2 ^ 62) ≤ j ∧ j < 2 ^ 62 ∧ (j - i).toNat ≤ sizeLine) ∧ Q (rangeD i j) ρ'
  | _, _ => False
theorem kR2_int {Q : List D → Env → Prop} {i j : Int} : kR2 Q (.int i) (.int j) ρ = ((-(2 ^ 62) ≤ i ∧ i < 2 ^ 62 ∧ -(2 ^ 62) ≤ j ∧ j < 2 ^ 62 ∧ (j - i).toNat ≤ sizeLine) ∧ Q (rangeD i j) ρ) := Eq.trans rfl rfl
theorem x_rng2 {w u : WE} {Q : List D → Env → Prop} : wRng2 w u ρ Q Ep = wK w ρ (fun d ρ1 => wK u ρ1 (fun e ρ2 => kR2 Q d e ρ2) Ep) Ep := Eq.trans rfl rfl
def kZp (Q : List D → Env → Prop) (d e : D) (ρ' : Env) : Prop := match d, e with
  | .lst xs, .lst ys => Q (zipD xs ys) ρ'
  | .tup xs, .tup ys => Q (zipD xs ys) ρ'
  | _, _ => False
theorem kZp_lst {Q : List D → Env → Prop} {xs ys : List D} : kZp Q (.lst xs) (.lst ys) ρ = Q (zipD xs ys) ρ := Eq.trans rfl rfl
theorem kZp_tup {Q : List D → Env → Prop} {xs ys : List D} : kZp Q (.tup xs) (.tup ys) ρ = Q (zipD xs ys) ρ := Eq.trans rfl rfl
theorem x_zip {w u : WE} {Q : List D → Env → Prop} : wZip w u ρ Q Ep = wK w ρ (fun d ρ1 => wK u ρ1 (fun e ρ2 => kZp Q d e ρ2) Ep) Ep := Eq.trans rfl rfl
theorem x_lc {wi : WI} {wt : WG} {tt : WT} {we : WE} {vs : List Nat} : wLc wi wt tt we vs ρ Q Ep = wi ρ (fun ds ρ1 => okW ρ1 vs = true ∧ wLcL wt tt we vs ds [] (wipeE ρ1 vs) fun r ρ' => Q r (restE ρ' ρ1 vs)) Ep := Eq.trans rfl rfl
def kApp (i : Nat) (Q : R → Env → Prop) (d : D) (ρ' : Env) : Prop := match ρ'[i]? with
  | some (some (.own b (.lst ds))) => ds.length < sizeLine ∧ Q (.val .non) (ρ'.set i (some (.own b (.lst (ds ++ [d])))))
  | _ => False
def kAp1 (i : Nat) (Q : R → Env → Prop) (d : D) (ρ' : Env) (o : Option Ent) : Prop := match o with
  | some (.own b (.lst ds)) => ds.length < sizeLine ∧ Q (.val .non) (ρ'.set i (some (.own b (.lst (ds ++ [d])))))
  | _ => False
theorem kAp1_o {i : Nat} {d : D} {b : Bool} {ds : List D} : kAp1 i Q d ρ (some (.own b (.lst ds))) = (ds.length < sizeLine ∧ Q (.val .non) (ρ.set i (some (.own b (.lst (ds ++ [d])))))) := Eq.trans rfl rfl
theorem kApp_s {i : Nat} {d : D} : kApp i Q d ρ = oK (ρ[i]?) (kAp1 i Q d ρ) := by
  unfold kApp oK kAp1
  cases ρ[i]? with
  | none => rfl
  | some e =>
    rcases e with _ | ⟨d'⟩ | ⟨b, d'⟩
    · rfl
    · rfl
    · cases d' <;> rfl
def isOwnL (o : Option Ent) : Prop := match o with
  | some (.own _ (.lst _)) => True
  | _ => False
theorem isOwnL_o {b : Bool} {ds : List D} : isOwnL (some (.own b (.lst ds))) = True := Eq.trans rfl rfl
theorem x_append {i : Nat} {w : WE} : wAppend i w ρ Q Ep = (oK (ρ[i]?) isOwnL ∧ wK w ρ (kApp i Q) Ep) := by
  unfold wAppend
  congr 1
  unfold oK isOwnL
  cases ρ[i]? with
  | none => rfl
  | some e =>
    rcases e with _ | ⟨d'⟩ | ⟨b, d'⟩
    · rfl
    · rfl
    · cases d' <;> rfl
def kExt (i : Nat) (Q : R → Env → Prop) (d : D) (ρ' : Env) : Prop := match d with
  | .lst es => match ρ'[i]? with
    | some (some (.own b (.lst ds))) => ds.length + es.length ≤ sizeLine ∧ Q (.val .non) (ρ'.set i (some (.own b (.lst (ds ++ es)))))
    | _ => False
  | _ => False
def kEx1 (i : Nat) (Q : R → Env → Prop) (es : List D) (ρ' : Env) (o : Option Ent) : Prop := match o with
  | some (.own b (.lst ds)) => ds.length + es.length ≤ sizeLine ∧ Q (.val .non) (ρ'.set i (some (.own b (.lst (ds ++ es)))))
  | _ => False
theorem kEx1_o {i : Nat} {es : List D} {b : Bool} {ds : List D} : kEx1 i Q es ρ (some (.own b (.lst ds))) = (ds.length + es.length ≤ sizeLine ∧ Q (.val .non) (ρ.set i (some (.own b (.lst (ds ++ es)))))) := Eq.trans rfl rfl
theorem kExt_s {i : Nat} {es : List D} : kExt i Q (.lst es) ρ = oK (ρ[i]?) (kEx1 i Q es ρ) := by
  have e2 : kExt i Q (.lst es) ρ = (match ρ[i]? with
      | some (some (.own b (.lst ds))) => ds.length + es.length ≤ sizeLine ∧ Q (.val .non) (ρ.set i (some (.own b (.lst (ds ++ es)))))
      | _ => False) := rfl
  rw [e2]
  unfold oK kEx1
  cases ρ[i]? with
  | none => rfl
  | some e =>
    rcases e with _ | ⟨d'⟩ | ⟨b, d'⟩
    · rfl
    · rfl
    · cases d' <;> rfl
theorem x_extend {i : Nat} {w : WE} : wExtend i w ρ Q Ep = (oK (ρ[i]?) isOwnL ∧ wK w ρ (kExt i Q) Ep) := by
  unfold wExtend
  congr 1
  unfold oK isOwnL
  cases ρ[i]? with
  | none => rfl
  | some e =>
    rcases e with _ | ⟨d'⟩ | ⟨b, d'⟩
    · rfl
    · rfl
    · cases d' <;> rfl
end
/-! ### operations -/
section
variable {Q : R → Prop}
theorem gI_ii {f : Int → Int → D} {i j : Int} : gI f (.int i) (.int j) Q = Q (.val (f i j)) := Eq.trans rfl rfl
theorem gAdd_ii {i j : Int} : gAdd (.int i) (.int j) Q = Q (.val (.int (i + j))) := Eq.trans rfl rfl
theorem gAdd_ll {xs ys : List D} : gAdd (.lst xs) (.lst ys) Q = (xs.length + ys.length ≤ sizeLine ∧ Q (.tmp (.lst (xs ++ ys)))) := Eq.trans rfl rfl
theorem gAdd_tt {xs ys : List D} : gAdd (.tup xs) (.tup ys) Q = (xs.length + ys.length ≤ sizeLine ∧ Q (.val (.tup (xs ++ ys)))) := Eq.trans rfl rfl
theorem gMul_ii {i j : Int} : gMul (.int i) (.int j) Q = (CMul i j ∧ Q (.val (.int (i * j)))) := Eq.trans rfl rfl
theorem gIx_t {xs : List D} {i : Int} : gIx (.tup xs) (.int i) Q = oK (atI xs i) fun x => Q (.val x) := by
  show (match atI xs i with | some x => _ | none => False) = _
  unfold oK
  cases atI xs i <;> rfl
theorem gIx_l {xs : List D} {i : Int} : gIx (.lst xs) (.int i) Q = oK (atI xs i) fun x => Q (.val x) := by
  show (match atI xs i with | some x => _ | none => False) = _
  unfold oK
  cases atI xs i <;> rfl
theorem gIs_non {f : Bool → Bool} {d : D} : gIs f d .non Q = Q (.val (.bl (f (isNon d)))) := Eq.trans rfl rfl
theorem gLen_l {xs : List D} : gLen [.lst xs] Q = Q (.val (.int xs.length)) := Eq.trans rfl rfl
theorem gLen_t {xs : List D} : gLen [.tup xs] Q = Q (.val (.int xs.length)) := Eq.trans rfl rfl
theorem gLen_k {xs : List D} : gLen [.kst xs] Q = Q (.val (.int xs.length)) := Eq.trans rfl rfl
theorem gLen_s {z : Str} : gLen [.str z] Q = (z.length ≤ sizeLine ∧ Q (.val (.int z.length))) := Eq.trans rfl rfl
theorem gII_ii {f : Int → Int → Int} {i j : Int} : gII f [.int i, .int j] Q = Q (.val (.int (f i j))) := Eq.trans rfl rfl
theorem gTuple_l {xs : List D} : gTuple [.lst xs] Q = Q (.val (.tup xs)) := Eq.trans rfl rfl
theorem gTuple_t {xs : List D} : gTuple [.tup xs] Q = Q (.val (.tup xs)) := Eq.trans rfl rfl
theorem gList_l {xs : List D} : gList [.lst xs] Q = Q (.tmp (.lst xs)) := Eq.trans rfl rfl
theorem gList_t {xs : List D} : gList [.tup xs] Q = Q (.tmp (.lst xs)) := Eq.trans rfl rfl
theorem gAll_l {xs : List D} : gAll [.lst xs] Q = oK (blsD xs) fun bs => Q (.val (.bl (bs.all id))) := by
  show (match blsD xs with | some x => _ | none => False) = _
  unfold oK
  cases blsD xs <;> rfl
theorem gAny_l {xs : List D} : gAny [.lst xs] Q = oK (blsD xs) fun bs => Q (.val (.bl (bs.any id))) := by
  show (match blsD xs with | some x => _ | none => False) = _
  unfold oK
  cases blsD xs <;> rfl
theorem gSum_l {xs : List D} : gSum [.lst xs] Q = oK (intsD xs) fun bs => Q (.val (.int bs.sum)) := by
  show (match intsD xs with | some x => _ | none => False) = _
  unfold oK
  cases intsD xs <;> rfl
theorem gInS_1 {f : Bool → Bool} {c : Nat} {z : Str} : gInS f (.str ⟨#[c]⟩) (.str z) Q = Q (.val (.bl (f (decide (c ∈ z.cps.toList))))) := Eq.trans rfl rfl
theorem gDGet_o {ks : List Key} {ds : List D} {e : D} : gDGet (.dic ks ds) e Q = oK (keyD e) fun k => oK (lookD ks ds k) fun x => Q (.val x) := by
  unfold gDGet
  cases keyD e with
  | none => rfl
  | some k =>
    show (match lookD ks ds k with | some x => Q (.val x) | none => False) = oK (lookD ks ds k) fun x => Q (.val x)
    unfold oK
    cases lookD ks ds k <;> rfl
end
theorem env_of {args : List Ent} {m : Nat} : envOf args m = args.map some ++ List.replicate (m - args.length) none := Eq.trans rfl rfl
end PL
/-! PL18: an argument that is frozen ahead of the call. -/
namespace PL
open PySem PySem.Spec PyProof.Rows L2
variable [HasT]
def wVk (w : WE) (wr : WR) : WR := fun ρ Q Ep => wK w ρ (fun d ρ1 => wr ρ1 (fun ds ρ2 => Q (.val d :: ds) ρ2) Ep) Ep
theorem x_Vk {w : WE} {wr : WR} {ρ : Env} {Q : List R → Env → Prop} {Ep : Ex → Env → Prop} : wVk w wr ρ Q Ep = wK w ρ (fun d ρ1 => wr ρ1 (fun ds ρ2 => Q (.val d :: ds) ρ2) Ep) Ep := Eq.trans rfl rfl
section
variable {X : Cx} {XE : XK}
theorem pv_consK {e : Expr} {es : List Expr} {w : WE} {wr : WR} (h : PdE X XE e w) (hr : PdV X XE es wr) (hs : starEach (e :: es) X.env = (false, eval e X.env) :: starEach es X.env := by rfl) : PdV X XE (e :: es) (wVk w wr) := by
  obtain ⟨t, p, s⟩ := h
  obtain ⟨tr, pr, sr⟩ := hr
  refine ⟨_, pa_cons p pr hs, fun c Qp Ep Q ok hw x k => ?_⟩
  refine runK (e := e) s ok hw x fun v c1 d g1 e1 r1 h1 => ?_
  rw [← e1]
  refine sr c1 _ Ep _ g1.ok h1 (x.go X.K X.mg g1 e1) fun vs c2 rs g2 e2 r2 l2 h2 => ?_
  exact k (v :: vs) c2 (.val d :: rs) (g1.trans X.K X.mg g2) (e2.trans e1) ⟨v, vs, rfl, r1.mono X.K X.mg g2.fr.mono _ _, r2⟩ (by simp [l2]) h2
end
end PL
/-! PL19: a loop over what stands for a list, by the part that is done. -/
namespace PL
open PySem PySem.Spec PyProof.Rows L2
variable [HasT]
theorem for_pre {α : Type} (f : α → D) (I : List α → Env → Prop) {wt : WG} {wb : WS} {Dp : PEnds} {all : List α} : ∀ (post pre : List α) {ρ : Env}, all = pre ++ post → I pre ρ →
    (∀ pre a post ρ, all = pre ++ a :: post → I pre ρ → ∀ N : Env → Prop, (∀ ρ', I (pre ++ [a]) ρ' → N ρ') → wt (f a) ρ fun ρ1 => wb { Dp with nx := N, ct := N, bk := Dp.nx } ρ1) →
    (∀ ρ, I all ρ → Dp.nx ρ) → wForL wt wb (post.map f) Dp ρ
  | [], pre, ρ, e, h, _, q => q ρ (by rw [e, List.append_nil]; exact h)
  | a :: post, pre, ρ, e, h, st, q =>
    st pre a post ρ e h _ fun ρ2 h2 => for_pre f I post (pre ++ [a]) (by rw [e, List.append_assoc]; rfl) h2 st q
theorem for_all {α : Type} (f : α → D) (I : List α → Env → Prop) {wt : WG} {wb : WS} {Dp : PEnds} {all : List α} {ρ : Env} (h : I [] ρ)
    (st : ∀ pre a post ρ, all = pre ++ a :: post → I pre ρ → ∀ N : Env → Prop, (∀ ρ', I (pre ++ [a]) ρ' → N ρ') → wt (f a) ρ fun ρ1 => wb { Dp with nx := N, ct := N, bk := Dp.nx } ρ1)
    (q : ∀ ρ, I all ρ → Dp.nx ρ) : wForL wt wb (all.map f) Dp ρ := for_pre f I all [] rfl h st q
/-- [g a for a in l] -/
theorem lc_all {α : Type} (f g : α → D) {wt : WG} {we : WE} {vs : List Nat} {ρ : Env} {Q : R → Env → Prop} : ∀ {l : List α} {acc : List D},
    (∀ a ∈ l, ∀ k : D → Env → Prop, (∀ ρ3, wipeE ρ3 vs = ρ → k (g a) ρ3) → wt (f a) ρ fun ρ1 => wK we ρ1 k (fun _ _ => False)) → Q (.tmp (.lst (acc ++ l.map g))) ρ → wLcL wt wYes we vs (l.map f) acc ρ Q
  | [], acc, _, q => by simpa [wLcL] using q
  | a :: l, acc, h, q => by
    have ih := fun acc' q' => lc_all f g (wt := wt) (we := we) (vs := vs) (ρ := ρ) (Q := Q) (l := l) (acc := acc') (fun d' hd => h d' (List.mem_cons_of_mem _ hd)) q'
    have h1 := h a List.mem_cons_self (fun y ρ3 => wLcL wt wYes we vs (l.map f) (acc ++ [y]) (wipeE ρ3 vs) Q) fun ρ3 e => by
      rw [e]
      exact ih _ (by simpa using q)
    simp only [List.map_cons, wLcL, wYes, if_true]
    exact h1
/-- [g a for a in l if p a] -/
theorem lc_allF {α : Type} (f g : α → D) (p : α → Bool) {wt : WG} {tt : WT} {we : WE} {vs : List Nat} {ρ : Env} {Q : R → Env → Prop} : ∀ {l : List α} {acc : List D},
    (∀ a ∈ l, ∀ (k : D → Env → Prop) (k0 : Env → Prop), (p a = true → ∀ ρ3, wipeE ρ3 vs = ρ → k (g a) ρ3) → (p a = false → ∀ ρ2, wipeE ρ2 vs = ρ → k0 ρ2) → wt (f a) ρ fun ρ1 => tt ρ1 (fun b ρ2 => if b = true then wK we ρ2 k (fun _ _ => False) else k0 ρ2) (fun _ _ => False)) →
    Q (.tmp (.lst (acc ++ (l.filter p).map g))) ρ → wLcL wt tt we vs (l.map f) acc ρ Q
  | [], acc, _, q => by simpa [wLcL] using q
  | d :: ds, acc, h, q => by
    have ih := fun acc' q' => lc_allF f g p (wt := wt) (tt := tt) (we := we) (vs := vs) (ρ := ρ) (Q := Q) (l := ds) (acc := acc') (fun d' hd => h d' (List.mem_cons_of_mem _ hd)) q'
    have h1 := h d List.mem_cons_self (fun y ρ3 => wLcL wt tt we vs (ds.map f) (acc ++ [y]) (wipeE ρ3 vs) Q) (fun ρ2 => wLcL wt tt we vs (ds.map f) acc (wipeE ρ2 vs) Q) (fun hp ρ3 e => by
      rw [e]
      exact ih _ (by simpa [hp] using q)) (fun hp ρ2 e => by
      rw [e]
      exact ih _ (by simpa [hp] using q))
    simp only [List.map_cons, wLcL]
    exact h1
/-- a comprehension by an invariant: what it has collected, and the slots -/
theorem lc_pre {α : Type} (f : α → D) (I : List α → List D → Env → Prop) {wt : WG} {tt : WT} {we : WE} {vs : List Nat} {Q : R → Env → Prop} {all : List α} : ∀ (post pre : List α) {acc : List D} {ρ : Env}, all = pre ++ post → I pre acc ρ →
    (∀ pre a post acc ρ, all = pre ++ a :: post → I pre acc ρ → ∀ (k : D → Env → Prop) (k0 : Env → Prop), (∀ d ρ3, I (pre ++ [a]) (acc ++ [d]) (wipeE ρ3 vs) → k d ρ3) → (∀ ρ2, I (pre ++ [a]) acc (wipeE ρ2 vs) → k0 ρ2) → wt (f a) ρ fun ρ1 => tt ρ1 (fun b ρ2 => if b = true then wK we ρ2 k (fun _ _ => False) else k0 ρ2) (fun _ _ => False)) →
    (∀ acc ρ, I all acc ρ → Q (.tmp (.lst acc)) ρ) → wLcL wt tt we vs (post.map f) acc ρ Q
  | [], pre, acc, ρ, e, h, _, q => by
    simp only [List.map_nil, wLcL]
    exact q acc ρ (by rw [e, List.append_nil]; exact h)
  | a :: post, pre, acc, ρ, e, h, st, q => by
    have h1 := st pre a post acc ρ e h (fun y ρ3 => wLcL wt tt we vs (post.map f) (acc ++ [y]) (wipeE ρ3 vs) Q) (fun ρ2 => wLcL wt tt we vs (post.map f) acc (wipeE ρ2 vs) Q)
      (fun d ρ3 hI => lc_pre f I post (pre ++ [a]) (by rw [e, List.append_assoc]; rfl) hI st q) (fun ρ2 hI => lc_pre f I post (pre ++ [a]) (by rw [e, List.append_assoc]; rfl) hI st q)
    simp only [List.map_cons, wLcL]
    exact h1
end PL
/-! PL20: the dict of draws lent to a call. -/
namespace PL
open PySem PySem.Spec PyProof.Rows L2
variable [HasT]
def isDr : Option (Option Ent) → Bool
  | some (some (.own _ .draw)) => true
  | _ => false
theorem isDr_s {b : Bool} : isDr (some (some (.own b .draw))) = true := Eq.trans rfl rfl
theorem anySlot_v {d : D} : anySlot (.val d) = false := Eq.trans rfl rfl
theorem isSlot_v {j : Nat} {d : D} : isSlot j (.val d) = false := Eq.trans rfl rfl
theorem isSlot_s {i j : Nat} : isSlot j (.slot i) = (i == j) := Eq.trans rfl rfl
theorem ndS_slot {j : Nat} {rs : List R} : ndS (.slot j :: rs) = (!(rs.any (isSlot j)) && ndS rs) := Eq.trans rfl rfl
theorem findOwn_vals : ∀ {rs : List R} {as : List Ent} {j : Nat}, rs.any anySlot = false → findOwn rs as j = none
  | [], _, _, _ => rfl
  | .slot i :: rs, _, _, h => by simp [anySlot] at h
  | .val d :: rs, [], _, h => rfl
  | .val d :: rs, a :: as, j, h => findOwn_vals (rs := rs) (as := as) (j := j) (by simpa [anySlot] using h)
  | .tmp d :: rs, [], _, h => rfl
  | .tmp d :: rs, a :: as, j, h => findOwn_vals (rs := rs) (as := as) (j := j) (by simpa [anySlot] using h)
def noSlot : List R → Bool
  | [] => true
  | .slot _ :: _ => false
  | _ :: rs => noSlot rs
theorem noS_nil : noSlot [] = true := Eq.trans rfl rfl
theorem noS_v {d : D} {rs : List R} : noSlot (.val d :: rs) = noSlot rs := Eq.trans rfl rfl
theorem noS_any : ∀ {rs : List R}, noSlot rs = true → rs.any anySlot = false
  | [], _ => rfl
  | .slot i :: rs, h => by simp [noSlot] at h
  | .val d :: rs, h => by simpa [anySlot] using noS_any (rs := rs) h
  | .tmp d :: rs, h => by simpa [anySlot] using noS_any (rs := rs) h
theorem backA_dr {rs : List R} {as : List Ent} {ρ : Env} {j : Nat} {b : Bool} (h : isDr ρ[j]? = true) (h2' : noSlot rs = true) : backA (.slot j :: rs) (.own b .draw :: as) ρ = ρ := by
  have h2 := noS_any h2'
  refine List.ext_getElem? fun i => ?_
  rw [backA_get]
  cases hi : ρ[i]? with
  | none => rfl
  | some e =>
    show some (backE (.slot j :: rs) (.own b .draw :: as) i e) = some e
    congr 1
    cases e with
    | none => rfl
    | some e =>
      cases e with
      | val d => rfl
      | own b' d =>
        show (match findOwn (.slot j :: rs) (.own b .draw :: as) i with | some d' => some (Ent.own b' d') | none => some (Ent.own b' d)) = _
        rw [findOwn]
        by_cases e : j = i
        · subst e
          rw [if_pos rfl]
          rw [hi] at h
          unfold isDr at h
          split at h
          · rename_i q; cases q; rfl
          · cases h
        · rw [if_neg e, findOwn_vals h2]
end PL
/-! PX1: walks over a frozen dict: it is locked as it stands. -/
namespace PL
open PySem PySem.Spec PyProof.Rows L2
variable [HasT]
def IsDic (u : HO) : Prop := (∃ kvs, u = .dK kvs) ∨ ∃ kvs, u = .dT kvs
theorem IsDic.mut {u : HO} (h : IsDic u) : Mut (some u) := by
  rcases h with ⟨_, rfl⟩ | ⟨_, rfl⟩ <;> exact True.intro
/-- e's value, and a dict is locked -/
def tLockV (t : TE) : TE := fun σ H Q => t σ H fun v H' => (∃ d u, v = .ref d ∧ H' d = some u ∧ IsDic u ∧ ∀ od, Q v (upd H' d (.frz od u))) ∨ Q v H'
theorem pe_lockV {X : Cx} {e : Expr} {t : TE} (h : PE X e t) : PE X e (tLockV t) := by
  refine ⟨fun pins s σ H Q I hw => ?_⟩
  refine thn (h.run pins s σ H _ I hw) fun v s1 ⟨x, H1, I1, rx, q⟩ => ?_
  rcases q with ⟨d, u, rfl, hd, hu, q⟩ | q
  · obtain ⟨od, I2⟩ := I1.lock hd hu.mut
    exact ⟨_, _, I2, rx, q od⟩
  · exact ⟨x, H1, I1, rx, q⟩
/-- how many entries a locked dict has -/
def LenD (H : Hp) : Prop := (∀ a o kvs, H a = some (.frz o (.dK kvs)) → kvs.length ≤ sizeLine) ∧ ∀ a o kvs, H a = some (.frz o (.dT kvs)) → kvs.length ≤ sizeLine
theorem lenD_of {X : Cx} {pins : List (Addr × Obj)} {σ : L2.St} {H : Hp} {s : Shared} (I : Inv X pins σ H s) : LenD H := ⟨fun a o kvs e => (I.hok a _ e).2.1, fun a o kvs e => (I.hok a _ e).2.1⟩
theorem PI.lenD {X : Cx} {tg iter : Expr} {a : TI} (h : PI X tg iter a) : PI X tg iter (fun σ H R => a σ H fun J H1 => LenD H1 → R J H1) :=
  ⟨fun pins s σ H R I hw => by
    refine thn (h.run pins s σ H _ I hw) fun v s1 q => thn q fun itv s2 ⟨it, fp, tn, J, H', e, I', T, t0, hf, q⟩ => ?_
    exact ⟨it, fp, tn, J, H', e, I', T, t0, hf, q (lenD_of I')⟩⟩
section
variable {K : PySem.W.Frag} {mg : Str → Option Value}
theorem lock_go {c : Cfg} (ok : Ok K mg c) {a : Addr} {u : HO} {od : Obj} (hF : c.F a = some u) (hd : IsDic u) (hH : c.H a ≠ none) : Go K mg c { c with F := upd c.F a (.frz od u), H := upd c.H a (.frz od u) } := by
  have m : Mono c.F (upd c.F a (.frz od u)) := fun b o e => by
    by_cases hb : b = a
    · subst hb
      rw [hF] at e; cases e
      exact ⟨_, upd_same, .inr (.inl ⟨od, rfl, hd⟩)⟩
    · rw [upd_ne hb]; exact ⟨o, e, .refl _⟩
  have nin : ∀ i b, b ∈ c.fp i → b ≠ a := fun i b hb z => by
    have := (ok.out i b hb).1
    rw [z, hF] at this; cases this
  have hpl : ∀ o, c.H a = some o → Pl o := fun o e => by
    obtain ⟨o', e', l⟩ := ok.sub a u hF
    rw [e] at e'; cases e'
    rcases l with rfl | ⟨_, rfl, _⟩ | ⟨_, _, rfl, _⟩
    · rcases hd with ⟨_, rfl⟩ | ⟨_, rfl⟩ <;> exact True.intro
    · exact True.intro
    · rcases hd with ⟨_, z⟩ | ⟨_, z⟩ <;> cases z
  refine ⟨⟨tabs_upd ok.tabs hpl, fun b o e => ?_, ok.len, fun i e h => ?_, ok.non, fun i b hb => ?_, ok.disj, fun b xs e => by
    have e' : upd c.H a (.frz od u) b = some (.tup xs) := e
    by_cases hb : b = a
    · subst hb; rw [upd_same] at e'; cases e'
    · rw [upd_ne hb] at e'
      show upd c.F a _ b = _
      rw [upd_ne hb]; exact ok.tf b xs e'⟩, ⟨m, fun b h1 h2 h3 h4 => ?_, fun b hb => ?_⟩, fun i b hb => .inl ⟨i, hb⟩, fun i d h => ⟨d, h, Grw.refl _ _, rfl⟩⟩
  · show ∃ o', upd c.H a (.frz od u) b = some o' ∧ HLe o o'
    have e' : upd c.F a (.frz od u) b = some o := e
    by_cases hb : b = a
    · subst hb
      rw [upd_same] at e' ⊢; exact ⟨_, e', .refl _⟩
    · rw [upd_ne hb] at e' ⊢; exact ok.sub b o e'
  · obtain ⟨v, hv, eo⟩ := ok.slot i e h
    exact ⟨v, hv, eo.frame m fun b hb => upd_ne (nin i b hb)⟩
  · obtain ⟨q1, q2⟩ := ok.out i b hb
    have hne := nin i b hb
    exact ⟨by show upd c.F a _ b = none; rw [upd_ne hne]; exact q1, by show upd c.H a _ b ≠ none; rw [upd_ne hne]; exact q2⟩
  · have hne : b ≠ a := fun z => by rw [z, hF] at h1; cases h1
    exact ⟨by show upd c.F a _ b = none; rw [upd_ne hne]; exact h1, by show upd c.H a _ b = _; rw [upd_ne hne]⟩
  · show upd c.H a _ b ≠ none
    by_cases h : b = a
    · subst h; rw [upd_same]; simp
    · rw [upd_ne h]; exact hb
/-- a frozen dict, locked: in the heap, or told so -/
theorem rd_lock {c : Cfg} (ok : Ok K mg c) {a : Addr} {u : HO} (h : Rd c.F a u) (hd : IsDic u) :
    (c.H a = some u ∧ ∀ od, ∃ c', Go K mg c c' ∧ c'.σ = c.σ ∧ c'.ρ = c.ρ ∧ c'.F a = some (.frz od u) ∧ c'.H = upd c.H a (.frz od u)) ∨
    ∃ od c', Go K mg c c' ∧ c'.σ = c.σ ∧ c'.ρ = c.ρ ∧ c'.F a = some (.frz od u) ∧ c'.H = c.H := by
  rcases h with h | ⟨od, h⟩
  · obtain ⟨o', e, l⟩ := ok.sub a u h
    rcases l with rfl | ⟨od, rfl, _⟩ | ⟨_, _, rfl, _⟩
    · exact .inl ⟨e, fun od => ⟨_, lock_go ok h hd (by rw [e]; simp), rfl, rfl, upd_same, rfl⟩⟩
    · refine .inr ⟨od, _, lock_go (od := od) ok h hd (by rw [e]; simp), rfl, rfl, upd_same, ?_⟩
      show upd c.H a _ = c.H
      funext b
      by_cases hb : b = a
      · subst hb; rw [upd_same, e]
      · rw [upd_ne hb]
    · rcases hd with ⟨_, z⟩ | ⟨_, z⟩ <;> cases z
  · exact .inr ⟨od, c, Go.refl _ _ ok, rfl, rfl, h, rfl⟩
/-! ### what such a walk gives -/
def kD : Key → D
  | .inl i => .int i
  | .inr x => .str x
theorem kD_rep {F : Hp} (k : Key) : Rep K mg F (kD k) (L2.kV k) := by
  cases k <;> exact rfl
def tD (k : List Key) : D := .tup (k.map kD)
theorem rep_key {kvs : List (Key × V)} {i : Nat} {k : Key} {v : V} (h : kvs[i]? = some (k, v)) : (kvs.map (·.1))[i]? = some k := by rw [List.getElem?_map, h]; rfl
theorem it_keys {a : Addr} {o : Obj} {kvs : List (Key × V)} (hl : kvs.length ≤ sizeLine) : ItOk K mg (Itk a o kvs) ((kvs.map (·.1)).map kD) (fun F => F a = some (.frz o (.dK kvs))) := by
  refine ⟨fun F H i d s _ h e => ?_, fun F H s h => ⟨s.frz h, by simp⟩, fun F F' m h => m.frz h, by simpa using hl⟩
  rw [List.getElem?_map, List.getElem?_map] at e
  cases q : kvs[i]? with
  | none => rw [q] at e; cases e
  | some p =>
    rw [q] at e
    cases e
    have hi : i < kvs.length := (List.getElem?_eq_some_iff.mp q).1
    refine ⟨⟨s.frz h, hi⟩, fun x H' y => ?_⟩
    obtain ⟨rfl, k, v, e1, rfl⟩ := y
    rw [q] at e1
    cases e1
    exact ⟨F, Step.refl s, kD_rep _⟩
theorem it_vals {a : Addr} {o : Obj} {kvs : List (Key × V)} {ds : List D} (hl : kvs.length ≤ sizeLine) (hd : ds.length = kvs.length) : ItOk K mg (Itd a o kvs) ds (fun F => F a = some (.frz o (.dK kvs)) ∧ RepL K mg F ds (kvs.map (·.2))) := by
  refine ⟨fun F H i d s _ h e => ?_, fun F H s h => ⟨s.frz h.1, by omega⟩, fun F F' m h => ⟨m.frz h.1, h.2.mono K mg m _ _⟩, by omega⟩
  obtain ⟨x, hx, rx⟩ := h.2.get K mg e
  have hi : i < kvs.length := by have := (List.getElem?_eq_some_iff.mp e).1; omega
  refine ⟨⟨s.frz h.1, hi⟩, fun y H' q => ?_⟩
  obtain ⟨rfl, k, e1⟩ := q
  rw [List.getElem?_map, e1] at hx
  cases hx
  exact ⟨F, Step.refl s, rx⟩
def itemsD (ks : List Key) (ds : List D) : List D := (ks.zip ds).map fun p => D.tup [kD p.1, p.2]
theorem it_items {a : Addr} {o : Obj} {kvs : List (Key × V)} {ds : List D} (hl : kvs.length ≤ sizeLine) (hd : ds.length = kvs.length) : ItOk K mg (Iti a o kvs) (itemsD (kvs.map (·.1)) ds) (fun F => F a = some (.frz o (.dK kvs)) ∧ RepL K mg F ds (kvs.map (·.2))) := by
  have hlen : (itemsD (kvs.map (·.1)) ds).length = kvs.length := by simp [itemsD]; omega
  refine ⟨fun F H i d s _ h e => ?_, fun F H s h => ⟨s.frz h.1, by omega⟩, fun F F' m h => ⟨m.frz h.1, h.2.mono K mg m _ _⟩, by omega⟩
  unfold itemsD at e
  rw [List.getElem?_map] at e
  cases q : ((kvs.map (·.1)).zip ds)[i]? with
  | none => rw [q] at e; cases e
  | some p =>
    rw [q] at e
    cases e
    obtain ⟨e1, e2⟩ := get_zip q
    obtain ⟨x, hx, rx⟩ := h.2.get K mg e2
    have hi : i < kvs.length := by have := (List.getElem?_eq_some_iff.mp e2).1; omega
    refine ⟨⟨s.frz h.1, hi⟩, fun y H' z => ?_⟩
    obtain ⟨T, k, v, e3, rfl, hT, rfl⟩ := z
    rw [rep_key e3] at e1
    cases e1
    rw [List.getElem?_map, e3] at hx
    cases hx
    obtain ⟨F', st, r⟩ := step_pair (d := kD p.1) (e := p.2) s hT (kD_rep p.1) rx
    exact ⟨F', st, r⟩
end
/-! ### the rules -/
def wKeys (w : WE) : WI := fun ρ Q Ep => wK w ρ (fun d ρ' => match d with
  | .dic ks _ => Q (ks.map kD) ρ'
  | _ => False) Ep
def wVals (w : WE) : WI := fun ρ Q Ep => wK w ρ (fun d ρ' => match d with
  | .dic _ ds => Q ds ρ'
  | _ => False) Ep
def wItems (w : WE) : WI := fun ρ Q Ep => wK w ρ (fun d ρ' => match d with
  | .dic ks ds => Q (itemsD ks ds) ρ'
  | _ => False) Ep
section
variable {X : Cx} {XE : XK}
theorem pi_dkeys {tg e : Expr} {w : WE} (h : PdE X XE e w) : PdI X XE tg e (wKeys w) := by
  obtain ⟨t, p, s⟩ := h
  refine ⟨_, PI.lenD (pi_keys (pe_lockV p)), fun c Qp Ep R ok hw x k => ?_⟩
  refine runK (e := e) s ok hw x fun v c1 d g1 e1 r1 h1 => ?_
  cases d with
  | dic ks ds =>
    obtain ⟨a, kvs, rfl, ha, rfl, ra⟩ := r1
    rcases rd_lock g1.ok ha (.inl ⟨_, rfl⟩) with ⟨hH, z⟩ | ⟨od, c2, g2, s2, r2, F2, H2⟩
    · refine .inl ⟨a, _, rfl, hH, .inl ⟨_, rfl⟩, fun od => ?_⟩
      obtain ⟨c2, g2, s2, r2, F2, H2⟩ := z od
      refine ⟨a, od, rfl, .inl ⟨kvs, upd_same, fun L => ?_⟩⟩
      rw [← H2] at L ⊢
      exact k _ _ _ c2 (g1.trans X.K X.mg g2) (s2.trans e1) (it_keys (L.1 a od kvs (g2.ok.sub.frz F2))) F2 (by rw [r2]; exact h1)
    · refine .inr ⟨a, od, rfl, .inl ⟨kvs, by rw [← H2]; exact g2.ok.sub.frz F2, fun L => ?_⟩⟩
      rw [← H2] at L ⊢
      exact k _ _ _ c2 (g1.trans X.K X.mg g2) (s2.trans e1) (it_keys (L.1 a od kvs (g2.ok.sub.frz F2))) F2 (by rw [r2]; exact h1)
  | _ => exact h1.elim
theorem pi_dvals {tg e : Expr} {w : WE} {apos cpos : Pos} (h : PdE X XE e w) (hb : attributeBase e "values" X.env (eval e X.env) = eval e X.env := by rfl) (hl : (apos.endLine == cpos.line) = true := by rfl) : PdI X XE tg (.Call (.Attribute e "values" apos) [] [] cpos) (wVals w) := by
  obtain ⟨t, p, s⟩ := h
  refine ⟨_, PI.lenD (pi_values (pe_lockV p) hb hl), fun c Qp Ep R ok hw x k => ?_⟩
  refine runK (e := e) s ok hw x fun v c1 d g1 e1 r1 h1 => ?_
  cases d with
  | dic ks ds =>
    obtain ⟨a, kvs, rfl, ha, rfl, ra⟩ := r1
    have hlen : ds.length = kvs.length := by have := ra.len X.K X.mg; simpa using this
    rcases rd_lock g1.ok ha (.inl ⟨_, rfl⟩) with ⟨hH, z⟩ | ⟨od, c2, g2, s2, r2, F2, H2⟩
    · refine .inl ⟨a, _, rfl, hH, .inl ⟨_, rfl⟩, fun od => ?_⟩
      obtain ⟨c2, g2, s2, r2, F2, H2⟩ := z od
      refine ⟨a, od, kvs, rfl, upd_same, fun L => ?_⟩
      rw [← H2] at L ⊢
      exact k _ _ _ c2 (g1.trans X.K X.mg g2) (s2.trans e1) (it_vals (L.1 a od kvs (g2.ok.sub.frz F2)) hlen) ⟨F2, ra.mono X.K X.mg g2.fr.mono _ _⟩ (by rw [r2]; exact h1)
    · refine .inr ⟨a, od, kvs, rfl, by rw [← H2]; exact g2.ok.sub.frz F2, fun L => ?_⟩
      rw [← H2] at L ⊢
      exact k _ _ _ c2 (g1.trans X.K X.mg g2) (s2.trans e1) (it_vals (L.1 a od kvs (g2.ok.sub.frz F2)) hlen) ⟨F2, ra.mono X.K X.mg g2.fr.mono _ _⟩ (by rw [r2]; exact h1)
  | _ => exact h1.elim
theorem pi_ditems {e : Expr} {w : WE} {apos cpos tpos : Pos} {elts : List Expr} {kk : Nat} (h : PdE X XE e w) (hb : attributeBase e "items" X.env (eval e X.env) = eval e X.env := by rfl) (hl : (apos.endLine == cpos.line) = true := by rfl) : PdI X XE (.Tuple elts kk tpos) (.Call (.Attribute e "items" apos) [] [] cpos) (wItems w) := by
  obtain ⟨t, p, s⟩ := h
  refine ⟨_, PI.lenD (pi_items (pe_lockV p) hb hl), fun c Qp Ep R ok hw x k => ?_⟩
  refine runK (e := e) s ok hw x fun v c1 d g1 e1 r1 h1 => ?_
  cases d with
  | dic ks ds =>
    obtain ⟨a, kvs, rfl, ha, rfl, ra⟩ := r1
    have hlen : ds.length = kvs.length := by have := ra.len X.K X.mg; simpa using this
    rcases rd_lock g1.ok ha (.inl ⟨_, rfl⟩) with ⟨hH, z⟩ | ⟨od, c2, g2, s2, r2, F2, H2⟩
    · refine .inl ⟨a, _, rfl, hH, .inl ⟨_, rfl⟩, fun od => ?_⟩
      obtain ⟨c2, g2, s2, r2, F2, H2⟩ := z od
      refine ⟨a, od, kvs, rfl, upd_same, fun L => ?_⟩
      rw [← H2] at L ⊢
      exact k _ _ _ c2 (g1.trans X.K X.mg g2) (s2.trans e1) (it_items (L.1 a od kvs (g2.ok.sub.frz F2)) hlen) ⟨F2, ra.mono X.K X.mg g2.fr.mono _ _⟩ (by rw [r2]; exact h1)
    · refine .inr ⟨a, od, kvs, rfl, by rw [← H2]; exact g2.ok.sub.frz F2, fun L => ?_⟩
      rw [← H2] at L ⊢
      exact k _ _ _ c2 (g1.trans X.K X.mg g2) (s2.trans e1) (it_items (L.1 a od kvs (g2.ok.sub.frz F2)) hlen) ⟨F2, ra.mono X.K X.mg g2.fr.mono _ _⟩ (by rw [r2]; exact h1)
  | _ => exact h1.elim
end
end PL
/-! PX2: a, *b = .. ; (a, *b); x in ..; properties. -/
namespace PL
open PySem PySem.Spec PyProof.Rows L2
variable [HasT]

section
variable {X : Cx} {pos : Pos}
/-- (a, *b, ..) = a tuple: what the star takes is a new list -/
def gStar (K : PySem.W.Frag) (n i : Nat) (t : TGs) : TG := fun v σ H Q => ∃ a xs, v = .ref a ∧ SqT K H a xs ∧ i < n ∧ n ≤ xs.length + 1 ∧
  ∀ p, H p = none → t (xs.take i ++ [.ref p] ++ (xs.drop i).drop (xs.length + 1 - n)) σ (upd H p (.lst ((xs.drop i).take (xs.length + 1 - n)))) Q
theorem starT {prog : Program} {w : World} {A : Around} {E : Value → Shared → Prop} {s : Shared} {l : Addr} {items : Array Value} {n i : Nat} {Q : List Value → Shared → Prop} (hl : IsTup s.heap l items) (hh : A.handled = none) (hi : i < n) (hn : n ≤ items.size + 1) (hz : items.size ≤ sizeLine)
    (h : ∀ h' : Heap, (∀ b o, s.heap.get? b = some o → h'.get? b = some o) → ∀ tk, Q (items.toList.take i ++ [.ref h'.objs.size] ++ (items.toList.drop i).drop (items.size + 1 - n)) { s with heap := h'.push { cls := .type "list", data := .seq ((items.toList.drop i).take (items.size + 1 - n)).toArray }, toks := tk }) : wpAny (model prog w) A (unpackItems (.ref l) n (some i)) Q E s := by
  have hlt : l ≠ s.heap.objs.size := by obtain ⟨o, ho, _⟩ := hl; exact Nat.ne_of_lt (Heap.lt_size ho)
  have hll : l < s.heap.objs.size := by obtain ⟨o, ho, _⟩ := hl; exact Heap.lt_size ho
  unfold unpackItems
  refine wpAny_bind ?_
  unfold notIterableAtAll
  refine wpAny_bind (wpAny_specialOf hl.typeIs PySem.F.slot_tuple_iter.lookup ?_)
  refine wpAny_pure ?_
  simp only [Bool.false_eq_true, if_false]
  refine wpAny_bind (wpAny_holding (iter_tuple hl ?_))
  refine wpAny_bind (wpAny_holding (draw_tuple hlt i 0 _ _ ⟨_, Heap.get?_push_size _ rfl, rfl, rfl⟩ (hl.push _) (by omega) fun h₁ hit₁ hs₁ => ?_))
  have hl₁ : IsTup h₁ l items := (hl.push _).extBut hs₁.extBut hlt
  rw [Nat.zero_add] at hit₁
  have hit₁' := hit₁
  obtain ⟨oi, hoi, _⟩ := hit₁'
  have hl₁' := hl₁
  obtain ⟨ol, hol, _⟩ := hl₁'
  rw [List.drop_zero]
  have hfl : (items.toList.take i).length = i := by rw [List.length_take, Array.length_toList]; omega
  rw [if_neg (show ¬ ((items.toList.take i).length < i) by rw [hfl]; omega)]
  refine wpAny_bind (wpAny_holding (PySem.W.kun_collect (s := { s with heap := h₁ }) (T := "tuple_iterator") (.inr (.inr (.inr rfl))) (Walks.tuple (A := A.in1) hh s.heap.objs.size l hlt items) (fun j u st => st.1.typeIs) (k := i) (by omega) ⟨hit₁, hl₁⟩ (Heap.lt_size hoi) (Heap.lt_size hol) (fun h₂ tk hk => ?_) hz))
  have hrl : (items.toList.drop i).length = items.size - i := by rw [List.length_drop, Array.length_toList]
  have hmid : (items.toList.drop i).length - (n - 1 - i) = items.size + 1 - n := by rw [hrl]; omega
  show wpAny _ _ (if (items.toList.drop i).length < n - 1 - i then _ else _) _ _ _
  rw [if_neg (by rw [hrl]; omega)]
  show wpAny _ _ (newList ((items.toList.drop i).take ((items.toList.drop i).length - (n - 1 - i))) >>= fun d => pure (items.toList.take i ++ [d] ++ (items.toList.drop i).drop ((items.toList.drop i).length - (n - 1 - i)))) _ _ _
  rw [hmid]
  have he : ∀ b o, s.heap.get? b = some o → h₂.get? b = some o := fun b o e => hk b o (Nat.ne_of_lt (Heap.lt_size e)) (hs₁.extBut b o (Nat.ne_of_lt (Heap.lt_size e)) (Heap.get?_push_of_some _ e))
  exact wpAny_bind (wpAny_newList (s := { s with heap := h₂, toks := tk }) (wpAny_pure (h h₂ he tk)) (by rw [List.length_take, hrl]; omega))
theorem vals_take {xs : List V} {us : List Value} (r : Vals xs us) : ∀ n, Vals (xs.take n) (us.take n) := by
  induction r with
  | nil => intro n; simp; exact .nil
  | cons h t ih =>
    intro n
    cases n with
    | zero => exact .nil
    | succ n => exact .cons h (ih n)
theorem vals_drop {xs : List V} {us : List Value} (r : Vals xs us) : ∀ n, Vals (xs.drop n) (us.drop n) := by
  induction r with
  | nil => intro n; simp; exact .nil
  | cons h t ih =>
    intro n
    cases n with
    | zero => exact .cons h t
    | succ n => exact ih n
theorem pg_star {es : List Expr} {k : Nat} {t : TGs} {n i : Nat} (hc : X.calm = true) (h : ∃ g, g = t ∧ ∀ (pins : List (Addr × Obj)) (s : Shared) (σ : L2.St) (H : Hp) (vs : List V) (us : List Value) (Q : L2.St → Hp → Prop), Inv X pins σ H s → Vals vs us → t vs σ H Q →
      wpAny (model X.prog X.w) X.A (assignInOrder ((assignEach es X.env).map (·.2)) us) (fun _ s' => ∃ σ' H', Inv X pins σ' H' s' ∧ Q σ' H') X.xe s)
    (hn : (assignEach es X.env).length = n := by rfl) (hst : (assignEach es X.env).findIdx? (·.1) = some i := by rfl) : PG X (.Tuple es k pos) (gStar X.K n i t) := by
  obtain ⟨_, _, h⟩ := h
  refine ⟨fun pins s σ H v u Q I r hw => ?_⟩
  obtain ⟨a, xs, e1, hq, hi, hl, hw⟩ := hw
  subst e1
  cases r
  obtain ⟨its, rv, ht, hz⟩ := I.tuple hq
  have el := rv.length
  rw [PyProof.Rows.assign_Tuple]
  refine wpAny_bind (wpAny_standAt ?_)
  unfold unpack
  rw [hn, hst]
  refine wpAny_bind (wpAny_holding (starT ht (I.ok.hd hc) hi (by simp; omega) (by simp; omega) fun h' hx tk => ?_))
  have I1 : Inv X pins σ H { s with heap := h' } := I.kept (t' := s.toks) hx
  have hf : H h'.objs.size = none := I1.hok.fresh (Nat.le_refl _)
  have hsz : its.toArray.size + 1 - n = xs.length + 1 - n := by simp [el]
  simp only [hsz]
  have I2 : Inv X pins σ (upd H h'.objs.size (.lst ((xs.drop i).take (xs.length + 1 - n)))) { s with heap := h'.push { cls := .type "list", data := .seq ((its.drop i).take (xs.length + 1 - n)).toArray }, toks := tk } :=
    I1.laid (t' := tk) (fun b u e => Heap.get?_push_of_some _ e) (Nat.le_refl _) ⟨by rw [List.length_take, List.length_drop]; omega, _, 0, vals_take (vals_drop rv i) _, Heap.get?_push_size _ rfl⟩
  refine h pins _ σ _ _ _ Q I2 ?_ (hw _ hf)
  refine Vals.append (Vals.append (vals_take rv i) (.cons rfl .nil)) (vals_drop (vals_drop rv i) _)
theorem pgs_consS {e s : Expr} {es : List Expr} {t : TG} {u : TGs} (h1 : PG X e t) (h2 : PGs X es u)
    (hs : (assignEach (s :: es) X.env).map (·.2) = assign e X.env :: (assignEach es X.env).map (·.2)) : PGs X (s :: es) (gCons t u) := by
  refine ⟨fun pins s σ H vs us Q I r h => ?_⟩
  obtain ⟨v, vr, e1, h⟩ := h
  subst e1
  cases r with
  | cons r rr =>
    rw [hs]
    refine assignInOrder_cons (thn (h1.run pins s σ H _ _ _ I r h) fun _ s1 ⟨σ1, H1, I1, q1⟩ => ?_)
    exact h2.run pins s1 σ1 H1 _ _ Q I1 rr q1
/-- a, *b = .. -/
def wUnpS (n i : Nat) (ws : WGs) : WG := fun d ρ Q => match d with
  | .tup ds => i < n ∧ n ≤ ds.length + 1 ∧ ws (ds.take i ++ [.lst ((ds.drop i).take (ds.length + 1 - n))] ++ (ds.drop i).drop (ds.length + 1 - n)) ρ Q
  | _ => False
theorem pgs_cS {e s : Expr} {es : List Expr} {i1 i2 : List Nat} {w : WG} {wr : WGs} (h1 : PdG X e i1 w) (h2 : PdGs X es i2 wr) (hs : (assignEach (s :: es) X.env).map (·.2) = assign e X.env :: (assignEach es X.env).map (·.2) := by rfl) : PdGs X (s :: es) (i1 ++ i2) (wGc w wr) := by
  obtain ⟨t, p, s⟩ := h1
  obtain ⟨tr, pr, sr⟩ := h2
  refine ⟨_, pgs_consS p pr hs, fun c d v Qp Q ok r h k => ?_⟩
  cases d with
  | nil => exact h.elim
  | cons d ds =>
    obtain ⟨x, xs, rfl, r1, r2⟩ := r
    refine ⟨x, xs, rfl, s c d x _ _ ok r1 h fun c1 g1 e1 w1 q1 => ?_⟩
    exact sr c1 ds xs _ _ g1.ok (r2.mono X.K X.mg e1 _ _) q1 fun c2 g2 e2 w2 q2 => k c2 (g1.trans X.K X.mg g2) (e1.trans e2) (fun vs h => (w2 vs fun i hi => h i (List.mem_append_right _ hi)).trans (w1 vs fun i hi => h i (List.mem_append_left _ hi))) q2
theorem pg_us {es : List Expr} {kk n i : Nat} {is_ : List Nat} {pos : Pos} {ws : WGs} (hc : X.calm = true) (h : PdGs X es is_ ws) (hn : (assignEach es X.env).length = n := by rfl) (hst : (assignEach es X.env).findIdx? (·.1) = some i := by rfl) : PdG X (.Tuple es kk pos) is_ (wUnpS n i ws) := by
  obtain ⟨t, p, s⟩ := h
  refine ⟨_, pg_star hc ⟨t, rfl, p.run⟩ hn hst, fun c d v Qp Q ok r h k => ?_⟩
  cases d with
  | tup ds =>
    obtain ⟨a, xs, rfl, ha, ra⟩ := r
    have el := ra.len X.K X.mg
    refine ⟨a, xs, rfl, ok.sub.sqT X.K ha, h.1, by rw [← el]; exact h.2.1, fun p hp => ?_⟩
    have st := Step.tup' (o := .lst ((xs.drop i).take (xs.length + 1 - n))) ok.sub hp
    have g := st.go ok
    have h2 := h.2.2
    rw [el] at h2
    have rm := (RepL.take X.K X.mg (xs.length + 1 - n) (RepL.drop X.K X.mg i ra))
    have m : Mono c.F (upd c.F p (.lst ((xs.drop i).take (xs.length + 1 - n)))) := st.mono
    refine s { c with F := upd c.F p (.lst ((xs.drop i).take (xs.length + 1 - n))), H := upd c.H p (.lst ((xs.drop i).take (xs.length + 1 - n))) } _ _ _ _ g.ok ?_ h2 fun c2 g2 e2 w2 q2 => k c2 (g.trans X.K X.mg g2) (m.trans e2) w2 q2
    refine RepL.app X.K X.mg (RepL.app X.K X.mg ((RepL.take X.K X.mg i ra).mono X.K X.mg m _ _) (RepL.one X.K X.mg ⟨p, _, rfl, upd_same, rm.mono X.K X.mg m _ _⟩)) ((RepL.drop X.K X.mg _ (RepL.drop X.K X.mg i ra)).mono X.K X.mg m _ _)
  | _ => exact h.elim
end
end PL
/-! PX3: x in .. (dicts by keys; lists and tuples by data). -/
namespace PL
open PySem PySem.Spec PyProof.Rows L2
variable [HasT]
section
variable {X : Cx}
def rInA (K : PySem.W.Frag) (f : Bool → Bool) : R2 := fun x y H Q =>
  (∃ a o, y = .ref a ∧ DGet H a x o ∧ Q (.bl (f o.isSome)) H) ∨ (∃ a kvs, y = .ref a ∧ x = .non ∧ Rd H a (.dK kvs) ∧ Q (.bl (f false)) H) ∨
  (∃ d ds, Dp K H x d ∧ Dp K H y (.list ds) ∧ SeqAt.shaped d = true ∧ SeqAt.shaped (.list ds) = true ∧ Q (.bl (f (ds.any fun z => PyData.eqv z d))) H) ∨
  ∃ d ds, Dp K H x d ∧ Dp K H y (.tuple ds) ∧ SeqAt.shaped d = true ∧ SeqAt.shaped (.tuple ds) = true ∧ Q (.bl (f (ds.any fun z => PyData.eqv z d))) H
theorem op_inA (hu : X.A.units + 65 < cLine) : OpR X (compareOp .In) (rInA X.K id) := by
  intro pins s σ H x y v u Q I rx ry h
  rcases h with ⟨a, o, rfl, g, q⟩ | ⟨a, kvs, rfl, rfl, g, q⟩ | ⟨d, ds, hd, he, sd, se, q⟩ | ⟨d, ds, hd, he, sd, se, q⟩
  · obtain rfl : u = Value.ref a := ry
    exact d_in (Nat.lt_of_le_of_lt (by omega) hu) I g rx fun s3 I3 => ⟨.bl o.isSome, H, I3, rfl, q⟩
  · obtain rfl : u = Value.ref a := ry
    obtain rfl : v = Value.none := rx
    exact d_inNone I g fun s3 I3 => ⟨.bl false, H, I3, rfl, q⟩
  · obtain ⟨as, r1⟩ := Dp.reads I d x v hd rx
    obtain ⟨bs, r2⟩ := Dp.reads I (.list ds) y u he ry
    exact SeqAt.in_list_reads r2 r1 (SeqAt.canLay_of_shaped se) (SeqAt.canLay_of_shaped sd) (room_in_shaped sd hu) ⟨.bl _, H, I, rfl, q⟩
  · obtain ⟨as, r1⟩ := Dp.reads I d x v hd rx
    obtain ⟨bs, r2⟩ := Dp.reads I (.tuple ds) y u he ry
    exact SeqAt.in_tuple_reads r2 r1 (SeqAt.canLay_of_shaped se) (SeqAt.canLay_of_shaped sd) (room_in_shaped sd hu) ⟨.bl _, H, I, rfl, q⟩
theorem op_notInA (hu : X.A.units + 65 < cLine) : OpR X (compareOp .NotIn) (rInA X.K not) := by
  intro pins s σ H x y v u Q I rx ry h
  rcases h with ⟨a, o, rfl, g, q⟩ | ⟨a, kvs, rfl, rfl, g, q⟩ | ⟨d, ds, hd, he, sd, se, q⟩ | ⟨d, ds, hd, he, sd, se, q⟩
  · obtain rfl : u = Value.ref a := ry
    exact d_notIn (Nat.lt_of_le_of_lt (by omega) hu) I g rx fun s3 I3 => ⟨.bl (!o.isSome), H, I3, rfl, q⟩
  · obtain rfl : u = Value.ref a := ry
    obtain rfl : v = Value.none := rx
    exact d_notInNone I g fun s3 I3 => ⟨.bl true, H, I3, rfl, q⟩
  · obtain ⟨as, r1⟩ := Dp.reads I d x v hd rx
    obtain ⟨bs, r2⟩ := Dp.reads I (.list ds) y u he ry
    exact SeqAt.notIn_list_reads r2 r1 (SeqAt.canLay_of_shaped se) (SeqAt.canLay_of_shaped sd) (room_in_shaped sd hu) ⟨.bl _, H, I, rfl, q⟩
  · obtain ⟨as, r1⟩ := Dp.reads I d x v hd rx
    obtain ⟨bs, r2⟩ := Dp.reads I (.tuple ds) y u he ry
    exact SeqAt.notIn_tuple_reads r2 r1 (SeqAt.canLay_of_shaped se) (SeqAt.canLay_of_shaped sd) (room_in_shaped sd hu) ⟨.bl _, H, I, rfl, q⟩
end
section
variable {K : PySem.W.Frag} {mg : Str → Option Value}
/-- is the datum there? -/
def dIn (d : D) : D → Option Bool
  | .dic ks _ => match d with
    | .non => some false
    | _ => (keyD d).map fun k => ks.any fun q => decide (q = k)
  | e => match toP d, toP e with
    | some p, some (.list qs) => if (SeqAt.shaped p && SeqAt.shaped (.list qs)) = true then some (qs.any fun z => PyData.eqv z p) else none
    | some p, some (.tuple qs) => if (SeqAt.shaped p && SeqAt.shaped (.tuple qs)) = true then some (qs.any fun z => PyData.eqv z p) else none
    | _, _ => none
def gIn (f : Bool → Bool) : G2 := fun d e Q => match dIn d e with
  | some b => Q (.val (.bl (f b)))
  | none => False
theorem valV_mem {q : Key} : ∀ (kvs : List (Key × V)), (valV kvs q).isSome = (kvs.map (·.1)).any fun k => decide (k = q)
  | [] => rfl
  | kv :: kvs => by
    by_cases h : kv.1 = q
    · rw [valV_pos h]; simp [h]
    · rw [valV_neg h, valV_mem kvs]; simp [h]
theorem dIn_seq {d e : D} {b : Bool} (h : dIn d e = some b) (hn : ∀ ks ds, e ≠ .dic ks ds) : ∃ p, toP d = some p ∧ ((∃ qs, toP e = some (.list qs) ∧ SeqAt.shaped p = true ∧ SeqAt.shaped (.list qs) = true ∧ b = qs.any fun z => PyData.eqv z p) ∨
    ∃ qs, toP e = some (.tuple qs) ∧ SeqAt.shaped p = true ∧ SeqAt.shaped (.tuple qs) = true ∧ b = qs.any fun z => PyData.eqv z p) := by
  have go : ∀ e', (match toP d, toP e' with
    | some p, some (.list qs) => if (SeqAt.shaped p && SeqAt.shaped (.list qs)) = true then some (qs.any fun z => PyData.eqv z p) else none
    | some p, some (.tuple qs) => if (SeqAt.shaped p && SeqAt.shaped (.tuple qs)) = true then some (qs.any fun z => PyData.eqv z p) else none
    | _, _ => none) = some b → ∃ p, toP d = some p ∧ ((∃ qs, toP e' = some (.list qs) ∧ SeqAt.shaped p = true ∧ SeqAt.shaped (.list qs) = true ∧ b = qs.any fun z => PyData.eqv z p) ∨
    ∃ qs, toP e' = some (.tuple qs) ∧ SeqAt.shaped p = true ∧ SeqAt.shaped (.tuple qs) = true ∧ b = qs.any fun z => PyData.eqv z p) := by
    intro e' he
    split at he
    next p qs h1 h2 =>
      split at he
      next hs =>
        rw [Bool.and_eq_true] at hs
        cases he
        exact ⟨p, h1, .inl ⟨qs, h2, hs.1, hs.2, rfl⟩⟩
      next => cases he
    next p qs h1 h2 =>
      split at he
      next hs =>
        rw [Bool.and_eq_true] at hs
        cases he
        exact ⟨p, h1, .inr ⟨qs, h2, hs.1, hs.2, rfl⟩⟩
      next => cases he
    next => cases he
  cases e with
  | dic ks ds => exact absurd rfl (hn ks ds)
  | _ => exact go _ h
theorem op2_in {f : Bool → Bool} : Op2 K mg (rInA K f) (gIn f) := by
  intro F H d e v u Qg Q s h1 h2 hg k
  unfold gIn at hg
  cases hb : dIn d e with
  | none => rw [hb] at hg; exact hg.elim
  | some b =>
    rw [hb] at hg
    have seq : (∀ ks ds, e ≠ .dic ks ds) → rInA K f v u H Q := fun hn => by
      obtain ⟨p, hp, ⟨qs, he, s1, s2, rfl⟩ | ⟨qs, he, s1, s2, rfl⟩⟩ := dIn_seq hb hn
      · exact .inr (.inr (.inl ⟨p, qs, h1.dp s hp, h2.dp s he, s1, s2, fin_val s k (d := .bl _) rfl hg⟩))
      · exact .inr (.inr (.inr ⟨p, qs, h1.dp s hp, h2.dp s he, s1, s2, fin_val s k (d := .bl _) rfl hg⟩))
    cases e with
    | dic ks ds =>
      obtain ⟨a, kvs, rfl, hr, hm, rp⟩ := h2.dic s
      have key : ∀ q, keyD d = some q → (ks.any fun x => decide (x = q)) = b → rInA K f v (.ref a) H Q := fun q hq e => by
        refine .inl ⟨a, _, rfl, .inl ⟨kvs, q, hr, key_rep h1 hq, rfl⟩, ?_⟩
        rw [valV_mem, hm, e]
        exact fin_val s k (d := .bl _) rfl hg
      cases d with
      | non =>
        obtain rfl : false = b := by simpa [dIn] using hb
        rw [h1.non]
        exact .inr (.inl ⟨a, kvs, rfl, rfl, hr, fin_val s k (d := .bl _) rfl hg⟩)
      | int i => exact key _ rfl (by simpa [dIn, keyD] using hb)
      | str i => exact key _ rfl (by simpa [dIn, keyD] using hb)
      | _ => simp [dIn, keyD] at hb
    | _ => exact seq fun _ _ => D.noConfusion
end
section
variable {X : Cx} {XE : XK} {k : Nat}
theorem Cc.u65 (C : Cc X XE k) : X.A.units + 65 < cLine := by have := C.room.un; omega
theorem go_in (C : Cc X XE k) {a b : Expr} {wa wb : WE} {pos : Pos} (ha : PdE X XE a wa) (hb : PdE X XE b wb) (hm : behindInMarks .In b = false := by rfl) : PdE X XE (.Compare a [.In] [b] pos) (wOp2 (gIn id) wa wb) := pd_cmp (op_inA C.u65) op2_in ha hb hm
theorem go_notin (C : Cc X XE k) {a b : Expr} {wa wb : WE} {pos : Pos} (ha : PdE X XE a wa) (hb : PdE X XE b wb) (hm : behindInMarks .NotIn b = false := by rfl) : PdE X XE (.Compare a [.NotIn] [b] pos) (wOp2 (gIn not) wa wb) := pd_cmp (op_notInA C.u65) op2_in ha hb hm
theorem to_in (C : Cc X XE k) {a b : Expr} {wa wb : WE} {pos : Pos} (ha : PdE X XE a wa) (hb : PdE X XE b wb) (hm : behindInMarks .In b = false := by rfl) : PdT X XE (.Compare a [.In] [b] pos) (wB (wOp2 (gIn id) wa wb)) := pt_cmpD (op_inA C.u65) op2_in ha hb hm
theorem to_notin (C : Cc X XE k) {a b : Expr} {wa wb : WE} {pos : Pos} (ha : PdE X XE a wa) (hb : PdE X XE b wb) (hm : behindInMarks .NotIn b = false := by rfl) : PdT X XE (.Compare a [.NotIn] [b] pos) (wB (wOp2 (gIn not) wa wb)) := pt_cmpD (op_notInA C.u65) op2_in ha hb hm
/-! ### (a, *b) -/
def wSc (w : WE) (wr : WL) : WL := fun ρ Q Ep => wK w ρ (fun d ρ1 => match d with
  | .lst xs => wr ρ1 (fun ds ρ2 => Q (xs ++ ds) ρ2) Ep
  | .tup xs => wr ρ1 (fun ds ρ2 => Q (xs ++ ds) ρ2) Ep
  | _ => False) Ep
/-- as PdK, of any length -/
def PdKs (X : Cx) (XE : XK) (es : List Expr) (w : WL) : Prop := ∃ t, PA X es t ∧ ∀ (c : Cfg) (Qp : List D → Env → Prop) (Ep : Ex → Env → Prop) (Q : List V → Hp → Prop), Ok X.K X.mg c → w c.ρ Qp Ep → XOk X.K X.mg c Ep XE →
  (∀ vs c' ds, Go X.K X.mg c c' → c'.σ = c.σ → RepL X.K X.mg c'.F ds vs → Qp ds c'.ρ → Q vs c'.H) → t c.σ c.H Q
theorem pks_nil : PdKs X XE [] wKn := ⟨_, pa_nil, fun c Qp Ep Q ok hw x k => k [] c [] (Go.refl _ _ ok) rfl rfl hw⟩
theorem pks_cons {e : Expr} {es : List Expr} {w : WE} {wr : WL} (h : PdE X XE e w) (hr : PdKs X XE es wr) (hs : starEach (e :: es) X.env = (false, eval e X.env) :: starEach es X.env := by rfl) : PdKs X XE (e :: es) (wKc w wr) := by
  obtain ⟨t, p, s⟩ := h
  obtain ⟨tr, pr, sr⟩ := hr
  refine ⟨_, pa_cons p pr hs, fun c Qp Ep Q ok hw x k => ?_⟩
  refine runK (e := e) s ok hw x fun v c1 d g1 e1 r1 h1 => ?_
  rw [← e1]
  refine sr c1 _ _ _ g1.ok h1 (x.go X.K X.mg g1 e1) fun vs c2 ds g2 e2 r2 h2 => ?_
  exact k (v :: vs) c2 (d :: ds) (g1.trans X.K X.mg g2) (e2.trans e1) (RepL.cons X.K X.mg (r1.mono X.K X.mg g2.fr.mono _ _) r2) h2
theorem pks_star {e : Expr} {es : List Expr} {p : Pos} {w : WE} {wr : WL} (h : PdE X XE e w) (hr : PdKs X XE es wr) (hs : starEach (.Starred e p :: es) X.env = (true, eval e X.env) :: starEach es X.env := by rfl) : PdKs X XE (.Starred e p :: es) (wSc w wr) := by
  obtain ⟨t, pe, s⟩ := h
  obtain ⟨tr, pr, sr⟩ := hr
  refine ⟨_, StX.pa_star pe pr hs, fun c Qp Ep Q ok hw x k => ?_⟩
  refine runK (e := e) s ok hw x fun v c1 d g1 e1 r1 h1 => ?_
  have fin : ∀ (a : Addr) (xs : List V) (ds : List D), RepL X.K X.mg c1.F ds xs → v = .ref a → (SqT X.K c1.H a xs ∨ SqL X.K c1.H a xs) → wr c1.ρ (fun es ρ2 => Qp (ds ++ es) ρ2) Ep → ∃ p xs, v = V.ref p ∧ (SqT X.K c1.H p xs ∨ SqL X.K c1.H p xs) ∧ tr c.σ c1.H fun ys H2 => Q (xs ++ ys) H2 := fun a xs ds ra ev hq hw => by
    refine ⟨a, xs, ev, hq, ?_⟩
    rw [← e1]
    refine sr c1 _ _ _ g1.ok hw (x.go X.K X.mg g1 e1) fun vs c2 es g2 e2 r2 h2 => ?_
    exact k (xs ++ vs) c2 (ds ++ es) (g1.trans X.K X.mg g2) (e2.trans e1) (RepL.app X.K X.mg (ra.mono X.K X.mg g2.fr.mono _ _) r2) h2
  cases d with
  | lst ds =>
    obtain ⟨a, xs, ev, ha, ra⟩ := r1
    exact fin a xs ds ra ev (.inr (SqL.of (g1.ok.sub.lst ha))) h1
  | tup ds =>
    obtain ⟨a, xs, ev, ha, ra⟩ := r1
    exact fin a xs ds ra ev (.inl (g1.ok.sub.sqT X.K ha)) h1
  | _ => exact h1.elim
def wTupS (w : WL) : WE := fun ρ Q Ep => w ρ (fun ds ρ' => ds.length ≤ sizeLine ∧ Q (.val (.tup ds)) ρ') Ep
def wLstS (w : WL) : WE := fun ρ Q Ep => w ρ (fun ds ρ' => ds.length ≤ sizeLine ∧ Q (.tmp (.lst ds)) ρ') Ep
theorem pd_tupS {es : List Expr} {x1} {pos : Pos} {w : WL} (h : PdKs X XE es w) : PdE X XE (.Tuple es x1 pos) (wTupS w) := by
  obtain ⟨t, p, s⟩ := h
  refine ⟨_, pe_tup p, fun c Qp Ep Q ok hw x k => ?_⟩
  refine s c _ Ep _ ok hw x fun vs c1 ds g1 e1 r1 h1 => ?_
  refine ⟨by rw [← r1.len X.K X.mg]; exact h1.1, fun p hp => ?_⟩
  have st := Step.tup' (o := .tup vs) g1.ok.sub hp
  exact k (.ref p) { c1 with F := upd c1.F p (.tup vs), H := upd c1.H p (.tup vs) } _ (g1.trans X.K X.mg (st.go g1.ok)) e1 (newR_rr g1 st (new_tup hp g1.ok.sub r1)) h1.2
theorem pd_lstS {es : List Expr} {pos : Pos} {w : WL} (h : PdKs X XE es w) : PdE X XE (.List es pos) (wLstS w) := by
  obtain ⟨t, p, s⟩ := h
  refine ⟨_, pe_lst p, fun c Qp Ep Q ok hw x k => ?_⟩
  refine s c _ Ep _ ok hw x fun vs c1 ds g1 e1 r1 h1 => ?_
  refine ⟨by rw [← r1.len X.K X.mg]; exact h1.1, fun p hp => ?_⟩
  have st := Step.new (o := .lst vs) g1.ok.sub hp
  exact k (.ref p) { c1 with H := upd c1.H p (.lst vs) } _ (g1.trans X.K X.mg (st.go g1.ok)) e1 (newR_rr g1 st (new_lst hp g1.ok.sub r1)) h1.2
end
end PL
/-! PX4: dict comprehensions. -/
namespace PL
open PySem PySem.Spec PyProof.Rows L2
variable [HasT]
def putKs (ks : List Key) (q : Key) : List Key := if (ks.any fun k => decide (k = q)) = true then ks else ks ++ [q]
def putDs (ks : List Key) (ds : List D) (q : Key) (d : D) : List D := if (ks.any fun k => decide (k = q)) = true then (ks.zip ds).map (fun p => if p.1 = q then d else p.2) else ds ++ [d]
theorem putK_len (kvs : List (Key × V)) (k : Key) (v : V) : (putK kvs k v).length ≤ kvs.length + 1 := by
  unfold putK
  split
  · rw [List.length_map]; omega
  · simp
section
variable {K : PySem.W.Frag} {mg : Str → Option Value}
theorem put_in {F : Hp} {q : Key} {d : D} {v : V} (r : Rep K mg F d v) : ∀ {kvs : List (Key × V)} {ks : List Key} {ds : List D}, kvs.map (·.1) = ks → RepL K mg F ds (kvs.map (·.2)) →
    (kvs.map (fun kv => if kv.1 = q then (kv.1, v) else kv)).map (·.1) = ks ∧ RepL K mg F ((ks.zip ds).map (fun p => if p.1 = q then d else p.2)) ((kvs.map (fun kv => if kv.1 = q then (kv.1, v) else kv)).map (·.2))
  | [], _, ds, h, rl => by
    subst h
    exact ⟨rfl, rfl⟩
  | kv :: kvs, _, [], h, rl => by
    exact absurd (show (kv :: kvs).map (·.2) = [] from rl) (by simp)
  | kv :: kvs, _, d0 :: ds, h, rl => by
    subst h
    obtain ⟨x, t, e1, r1, r2⟩ := rl
    rw [List.map_cons] at e1
    injection e1 with e1 e2
    obtain ⟨h1, h2⟩ := put_in r (kvs := kvs) (ds := ds) rfl (by rw [e2]; exact r2)
    simp only [List.map_cons, List.zip_cons_cons]
    by_cases hq : kv.1 = q
    · simp only [hq, if_true]
      exact ⟨by rw [h1], v, _, rfl, r, h2⟩
    · simp only [hq, if_false]
      exact ⟨by rw [h1], kv.2, _, rfl, by rw [e1]; exact r1, h2⟩
theorem putkd {F : Hp} {q : Key} {d : D} {v : V} {kvs : List (Key × V)} {ks : List Key} {ds : List D} (h : kvs.map (·.1) = ks) (rl : RepL K mg F ds (kvs.map (·.2))) (r : Rep K mg F d v) :
    (putK kvs q v).map (·.1) = putKs ks q ∧ RepL K mg F (putDs ks ds q d) ((putK kvs q v).map (·.2)) := by
  have e : (kvs.any fun kv => decide (kv.1 = q)) = ks.any fun k => decide (k = q) := by
    subst h
    rw [List.any_map]
    rfl
  unfold putK putKs putDs
  rw [e]
  by_cases hb : (ks.any fun k => decide (k = q)) = true
  · rw [if_pos hb, if_pos hb, if_pos hb]
    exact put_in r h rl
  · rw [if_neg hb, if_neg hb, if_neg hb]
    refine ⟨by rw [List.map_append, h]; rfl, ?_⟩
    rw [List.map_append]
    exact RepL.app K mg rl (RepL.one K mg r)
end
def wDcL (wt : WG) (tt : WT) (wk we : WE) (vs : List Nat) : List D → List Key → List D → Env → (R → Env → Prop) → Prop
  | [], ks, acc, ρ, Q => Q (.tmp (.dic ks acc)) ρ
  | d :: ds, ks, acc, ρ, Q => wt d ρ fun ρ1 => tt ρ1 (fun b ρ2 => if b = true then wK wk ρ2 (fun y ρ3 => match keyD y with
      | some q => wK we ρ3 (fun z ρ4 => wDcL wt tt wk we vs ds (putKs ks q) (putDs ks acc q z) (wipeE ρ4 vs) Q) (fun _ _ => False)
      | none => False) (fun _ _ => False) else wDcL wt tt wk we vs ds ks acc (wipeE ρ2 vs) Q) (fun _ _ => False)
def wDc (wi : WI) (wt : WG) (tt : WT) (wk we : WE) (vs : List Nat) : WE := fun ρ Q Ep => wi ρ (fun ds ρ1 => okW ρ1 vs = true ∧ wDcL wt tt wk we vs ds [] [] (wipeE ρ1 vs) fun r ρ' => Q r (restE ρ' ρ1 vs)) Ep
section
variable {X : Cx} {XE : XK}
theorem dc_so {k : Nat} {kx vx : Expr} {own : List (Str × Nat)} {is_ : List Nat} {ti : TI} {g : TG} {t : TT} {tk te : TE} {wi : WI} {wt : WG} {tt : WT} {wk we : WE} (C : Cc X XE k)
    (si : ∀ (c : Cfg) (Qp : List D → Env → Prop) (Ep : Ex → Env → Prop) (R : It → Hp → Prop), Ok X.K X.mg c → wi c.ρ Qp Ep → XOk X.K X.mg c Ep XE →
      (∀ J items P c', Go X.K X.mg c c' → c'.σ = c.σ → ItOk X.K X.mg J items P → P c'.F → Qp items c'.ρ → R J c'.H) → ti c.σ c.H R)
    (sg : ∀ (c : Cfg) (d : D) (v : V) (Qp : Env → Prop) (Q : L2.St → Hp → Prop), Ok X.K X.mg c → Rep X.K X.mg c.F d v → wt d c.ρ Qp →
      (∀ c', Go X.K X.mg c c' → Mono c.F c'.F → (∀ vs, (∀ i ∈ is_, i ∈ vs) → wipe c'.σ vs = wipe c.σ vs) → Qp c'.ρ → Q c'.σ c'.H) → g v c.σ c.H Q)
    (st : SoT X E0 t tt) (sk : SoE X E0 tk wk) (se : SoE X E0 te we) (hv : ∀ i ∈ is_, i ∈ own.map (·.2)) : SoE X XE (tDc ti g t tk te (own.map (·.2))) (wDc wi wt tt wk we (own.map (·.2))) := by
  intro c Qp Ep Q okc hw x k
  generalize hvs : own.map (·.2) = vs at hv hw
  refine si c _ Ep _ okc hw x fun J items Pi c1 g1 e1 it p1 h1 => ?_
  obtain ⟨ow, h1⟩ := h1
  intro A hA
  have fA : c1.F A = none := fresh_F g1.ok.sub hA
  have nfp : ∀ i, A ∉ c1.fp i := fun i z => (g1.ok.out i A z).2 hA
  have g0 : Go X.K X.mg c1 { c1 with H := upd c1.H A (.dK []) } := list_go (Go.refl _ _ g1.ok) hA fA nfp (pl_none hA)
  have nbor : ∀ i ∈ vs, ∀ d, c1.ρ[i]? ≠ some (some (.own true d)) := fun i hi d z => by
    obtain ⟨d', e⟩ := okW_of ow hi z
    cases e
  have gw : Go X.K X.mg c1 { c1 with H := upd c1.H A (.dK []), σ := wipe c.σ vs, ρ := wipeE c1.ρ vs, fp := fpW c1.fp vs } :=
    wipe_go g0 nbor (by rw [wipe_length]; exact congrArg _ e1.symm) fun i hi => by rw [wipe_out hi]; exact congrArg (fun l : L2.St => l[i]?) e1.symm
  refine ⟨fun i m H => ∃ c' acks acc xs, Go X.K X.mg c1 c' ∧ c'.σ = wipe c.σ vs ∧ c'.H = H ∧ m = items.length - i ∧ i ≤ items.length ∧ Pi c'.F ∧ (∀ j ∈ vs, ∀ e, c'.ρ[j]? ≠ some (some e)) ∧ H A = some (.dK xs) ∧ xs.map (·.1) = acks ∧ RepL X.K X.mg c'.F acc (xs.map (·.2)) ∧ c'.F A = none ∧ (∀ j, A ∉ c'.fp j) ∧ xs.length ≤ i ∧
    wDcL wt tt wk we vs (items.drop i) acks acc c'.ρ fun r ρ' => Qp r (restE ρ' c1.ρ vs),
    ⟨_, _, [], [], [], gw, rfl, rfl, rfl, Nat.zero_le _, p1, fun j hj e => wipeE_in hj, upd_same, rfl, rfl, fA, fun j z => ?_, Nat.le_refl _, h1⟩, ?_⟩
  · have z' : A ∈ fpW c1.fp vs j := z
    unfold fpW at z'
    split at z'
    · cases z'
    · exact nfp j z'
  rintro i m H ⟨c', acks, acc, xs, g', es, rfl, rfl, hi, p', hn', hA', rk, ra, fA', nf', hx', h'⟩
  by_cases hlt : i < items.length
  · have ed : items.drop i = items[i] :: items.drop (i + 1) := by rw [List.drop_eq_getElem_cons hlt]
    rw [ed] at h'
    have gi : items[i]? = some items[i] := by simp [hlt]
    obtain ⟨q1, q2⟩ := it.item c'.F c'.H i items[i] g'.ok.sub g'.ok.tf p' gi
    refine .inr ⟨q1, fun H2 => ∃ c2 acks2 acc2 xs2, Go X.K X.mg c1 c2 ∧ c2.σ = wipe c.σ vs ∧ c2.H = H2 ∧ Pi c2.F ∧ (∀ j ∈ vs, ∀ e, c2.ρ[j]? ≠ some (some e)) ∧ H2 A = some (.dK xs2) ∧ xs2.map (·.1) = acks2 ∧ RepL X.K X.mg c2.F acc2 (xs2.map (·.2)) ∧ c2.F A = none ∧ (∀ j, A ∉ c2.fp j) ∧ xs2.length ≤ i + 1 ∧
      wDcL wt tt wk we vs (items.drop (i + 1)) acks2 acc2 c2.ρ fun r ρ' => Qp r (restE ρ' c1.ρ vs), fun H2 ⟨c2, ak2, a2, x2, b1, b2, b3, b4, b5, b6, b6', b7, b8, b9, b10, b11⟩ => ⟨items.length - (i + 1), by omega, c2, ak2, a2, x2, b1, b2, b3, rfl, hlt, b4, b5, b6, b6', b7, b8, b9, b10, b11⟩, fun v H' y => ?_⟩
    obtain ⟨F', stp, r⟩ := q2 v H' y
    have g2 := stp.go g'.ok
    have gg := g'.trans X.K X.mg g2
    have ew : wipe (wipe c.σ vs) vs = wipe c.σ vs := by
      have aux : ∀ (l : List Nat) (σ : L2.St), (∀ j ∈ l, ∀ y, σ[j]? ≠ some (some y)) → wipe σ l = σ := by
        intro l
        induction l with
        | nil => intro σ _; rfl
        | cons a l ih =>
          intro σ h
          unfold wipe
          rw [ih σ fun j hj => h j (List.mem_cons_of_mem _ hj)]
          apply List.ext_getElem?
          intro j
          by_cases hj : a = j
          · subst hj
            by_cases hl : a < σ.length
            · rw [List.getElem?_set_self hl]
              have e1 : σ[a]? = some σ[a] := by simp [hl]
              cases q : σ[a] with
              | none => rw [e1, q]
              | some y => exact absurd (e1.trans (congrArg some q)) (h a List.mem_cons_self y)
            · rw [List.getElem?_eq_none (by simpa using hl), List.getElem?_eq_none (by omega)]
          · rw [List.getElem?_set_ne hj]
      exact aux vs _ fun j hj y z => (wipe_some z).2 hj
    rw [← es]
    refine sg { c' with F := F', H := H' } items[i] v _ _ g2.ok r h' fun c3 g3 e3 w3 h3 => ?_
    have gg3 := gg.trans X.K X.mg g3
    have w3' : wipe c3.σ vs = wipe c.σ vs := (w3 vs hv).trans (by show wipe c'.σ vs = _; rw [es, ew])
    refine ⟨by rw [w3', es], ?_⟩
    refine st c3 _ _ _ g3.ok h3 (XOk.none X.K X.mg) fun b c4 g4 e4 h4 => ?_
    have gg4 := gg3.trans X.K X.mg g4
    -- what stands at A still stands
    have stay : ∀ c5, Go X.K X.mg { c' with F := F', H := H' } c5 → c5.F A = none ∧ c5.H A = some (.dK xs) ∧ ∀ j, A ∉ c5.fp j := fun c5 g5 => by
      have g6 := g2.trans X.K X.mg g5
      obtain ⟨k1, k2⟩ := g6.fr.keep A fA' (by rw [hA']; simp) nf' (nt_of hA' True.intro)
      refine ⟨k1, k2.trans hA', fun j z => ?_⟩
      rcases g6.orig j A z with ⟨j', hj⟩ | e
      · exact nf' j' hj
      · rw [hA'] at e; cases e
    have keepP : ∀ c5, Go X.K X.mg { c' with F := F', H := H' } c5 → Pi c5.F := fun c5 g5 => it.mono _ _ g5.fr.mono (it.mono _ _ stp.mono p')
    have hlen : ∀ c5, Go X.K X.mg c1 c5 → c5.σ.length = (wipe c.σ vs).length → True := fun _ _ _ => True.intro
    cases b with
    | true =>
      rw [if_pos rfl] at h4 ⊢
      rw [← e4]
      refine runK (e := kx) sk g4.ok h4 (XOk.none X.K X.mg) fun vk ck dk gk ek rk' hk => ?_
      cases hq : keyD dk with
      | none => rw [hq] at hk; exact hk.elim
      | some q =>
      rw [hq] at hk
      rw [← ek]
      refine runK (e := vx) se gk.ok hk (XOk.none X.K X.mg) fun v5 c5 d5 g5' e5' r5 h5 => ?_
      have g5 := gk.trans X.K X.mg g5'
      have e5 := e5'.trans ek
      have gx := (g3.trans X.K X.mg g4).trans X.K X.mg g5
      have gg5 := gg4.trans X.K X.mg g5
      obtain ⟨s1, s2, s3⟩ := stay c5 gx
      refine ⟨xs, q, key_rep (.inl rk' : See X.K X.mg ck.F ck.H dk vk) hq, s2, Nat.lt_of_lt_of_le (Nat.lt_of_le_of_lt hx' hlt) it.len, ?_⟩
      have eσ : c5.σ = c3.σ := e5.trans e4
      have gl : Go X.K X.mg c1 { c5 with H := upd c5.H A (.dK (putK xs q v5)) } := list_go gg5 hA s1 s3 (pl_some s2 True.intro)
      have w5 : wipe c5.σ vs = wipe c.σ vs := by rw [eσ, w3']
      have gw5 : Go X.K X.mg c1 { c5 with H := upd c5.H A (.dK (putK xs q v5)), σ := wipe c.σ vs, ρ := wipeE c5.ρ vs, fp := fpW c5.fp vs } :=
        wipe_go gl nbor (by rw [← w5, wipe_length]) fun j hj => by rw [← w5, wipe_out hj]
      have pr := putkd (q := q) rk (RepL.mono X.K X.mg (stp.mono.trans gx.fr.mono) _ _ ra) r5
      refine ⟨_, putKs acks q, putDs acks acc q d5, putK xs q v5, gw5, es.symm, rfl, keepP c5 gx, fun j hj e => wipeE_in hj, upd_same, pr.1, pr.2, s1, fun j z => ?_, Nat.le_trans (putK_len xs q v5) (Nat.succ_le_succ hx'), h5⟩
      have z' : A ∈ fpW c5.fp vs j := z
      unfold fpW at z'
      split at z'
      · cases z'
      · exact s3 j z'
    | false =>
      rw [if_neg Bool.false_ne_true] at h4 ⊢
      have gx := g3.trans X.K X.mg g4
      obtain ⟨s1, s2, s3⟩ := stay c4 gx
      have w5 : wipe c4.σ vs = wipe c.σ vs := by rw [e4, w3']
      have gw5 : Go X.K X.mg c1 { c4 with σ := wipe c.σ vs, ρ := wipeE c4.ρ vs, fp := fpW c4.fp vs } :=
        wipe_go gg4 nbor (by rw [← w5, wipe_length]) fun j hj => by rw [← w5, wipe_out hj]
      refine ⟨_, acks, acc, xs, gw5, es.symm, rfl, keepP c4 gx, fun j hj e => wipeE_in hj, s2, rk, ra.mono X.K X.mg (stp.mono.trans gx.fr.mono) _ _, s1, fun j z => ?_, by omega, h4⟩
      have z' : A ∈ fpW c4.fp vs j := z
      unfold fpW at z'
      split at z'
      · cases z'
      · exact s3 j z'
  · have e : i = items.length := by omega
    subst e
    rw [List.drop_length] at h'
    refine .inl ⟨it.stop c'.F c'.H g'.ok.sub p', ?_⟩
    have ls : c1.σ.length = c'.σ.length := by rw [es, wipe_length, e1]
    have gr := rest_go g1 g' ow e1 hn' ls fun j hj => by rw [es, wipe_out hj, e1]
    refine k _ { c' with σ := c1.σ, ρ := restE c'.ρ c1.ρ vs } (.tmp (.dic acks acc)) gr e1 ⟨[A], ⟨A, xs, rfl, rfl, hA', rk, ra⟩, fun b hb => ?_⟩ h'
    have eb : b = A := by simpa using hb
    subst eb
    refine ⟨fA', by show c'.H b ≠ none; rw [hA']; simp, ?_, nf'⟩
    cases q : c.H b with
    | none => rfl
    | some o => exact absurd hA (g1.fr.grow b (by rw [q]; simp))
theorem pd_dc {k : Nat} {kx vx tg iter : Expr} {ifs : List Expr} {scope : Scope} {own : List (Str × Nat)} {pos : Pos} {is_ : List Nat} {wi : WI} {wt : WG} {tt : WT} {wk we : WE} (C : Cc X XE k) (hN : X.N.Nodup) (hi : PdI X XE tg iter wi) (ok : BlkOk X.N X.env.scope scope own)
    (hg : ∀ i, PdG (bx X scope i) tg is_ wt) (ht : ∀ i, PdTs (bx X scope i) E0 ifs tt) (hk : ∀ i, PdE (bx X scope i) E0 kx wk) (he : ∀ i, PdE (bx X scope i) E0 vx we) (hv : ∀ i ∈ is_, i ∈ own.map (·.2) := by decide) (hs : ∀ x, foldedSetIterable iter X.env x = pure x := by intro _; rfl) :
    PdE X XE (.DictComp kx vx [⟨tg, iter, ifs, 0⟩] scope pos) (wDc wi wt tt wk we (own.map (·.2))) := by
  obtain ⟨ti, pi, si⟩ := hi
  obtain ⟨g, pg, sg⟩ := uniG hg
  obtain ⟨t, pt, st⟩ := uniT ht
  obtain ⟨tk, pk, sk⟩ := uniE hk
  obtain ⟨te, pe, se⟩ := uniE he
  exact ⟨_, pe_dc C.calm hN pi ok (fun s H C cl fp => pg ⟨s, H, C, cl, fp⟩) (fun s H C cl fp => pt ⟨s, H, C, cl, fp⟩) (fun s H C cl fp => pk ⟨s, H, C, cl, fp⟩) (fun s H C cl fp => pe ⟨s, H, C, cl, fp⟩) hs, dc_so (kx := kx) (vx := vx) C si sg st sk se hv⟩
end
end PL
/-! PX5: list comprehensions of two generators. -/
namespace PL
open PySem PySem.Spec PyProof.Rows L2
variable [HasT]
def wLcI (wt : WG) (tt : WT) (we : WE) (vs : List Nat) : List D → List D → Env → (List D → Env → Prop) → Prop
  | [], acc, ρ, Q => Q acc ρ
  | d :: ds, acc, ρ, Q => wt d ρ fun ρ1 => tt ρ1 (fun b ρ2 => if b = true then wK we ρ2 (fun y ρ3 => acc.length < sizeLine ∧ wLcI wt tt we vs ds (acc ++ [y]) (wipeE ρ3 vs) Q) (fun _ _ => False) else wLcI wt tt we vs ds acc (wipeE ρ2 vs) Q) (fun _ _ => False)
def wLcO (wt : WG) (tt : WT) (wi1 : WI) (wt1 : WG) (tt1 : WT) (we : WE) (vs vs1 : List Nat) : List D → List D → Env → (R → Env → Prop) → Prop
  | [], acc, ρ, Q => Q (.tmp (.lst acc)) ρ
  | d :: ds, acc, ρ, Q => wt d ρ fun ρ1 => tt ρ1 (fun b ρ2 => if b = true then wi1 ρ2 (fun items ρ3 => wLcI wt1 tt1 we vs1 items acc (wipeE ρ3 vs1) fun acc' ρ4 => wLcO wt tt wi1 wt1 tt1 we vs vs1 ds acc' (wipeE ρ4 vs) Q) (fun _ _ => False) else wLcO wt tt wi1 wt1 tt1 we vs vs1 ds acc (wipeE ρ2 vs) Q) (fun _ _ => False)
def wLc2 (wi : WI) (wt : WG) (tt : WT) (wi1 : WI) (wt1 : WG) (tt1 : WT) (we : WE) (vs vs1 : List Nat) : WE := fun ρ Q Ep => wi ρ (fun ds ρ1 => okW ρ1 vs = true ∧ wLcO wt tt wi1 wt1 tt1 we vs vs1 ds [] (wipeE ρ1 vs) fun r ρ' => Q r (restE ρ' ρ1 vs)) Ep
theorem wipe_in {σ : L2.St} {i : Nat} : ∀ {vs : List Nat}, i ∈ vs → i < σ.length → (wipe σ vs)[i]? = some none
  | [], h, _ => by cases h
  | v :: vs, h, hl => by
    unfold wipe
    by_cases e : v = i
    · subst e
      rw [List.getElem?_set_self (by rw [wipe_length]; exact hl)]
    · rw [List.getElem?_set_ne e]
      rcases List.mem_cons.mp h with h | h
      · exact absurd h.symm e
      · exact wipe_in h hl
theorem wipe_wipe {σ : L2.St} {vs1 vs : List Nat} (h : ∀ i ∈ vs1, i ∈ vs) : wipe (wipe σ vs1) vs = wipe σ vs := by
  apply List.ext_getElem?
  intro j
  by_cases hl : j < σ.length
  · by_cases hj : j ∈ vs
    · rw [wipe_in hj (by rw [wipe_length]; exact hl), wipe_in hj hl]
    · rw [wipe_out hj, wipe_out hj, wipe_out fun z => hj (h j z)]
  · rw [List.getElem?_eq_none (by rw [wipe_length, wipe_length]; omega), List.getElem?_eq_none (by rw [wipe_length]; omega)]
section
variable {X : Cx} {XE : XK} {scope : Scope}
theorem uniI {tg iter : Expr} {w : WI} (h : ∀ i, PdI (bx X scope i) E0 tg iter w) : ∃ t, (∀ i, PI (bx X scope i) tg iter t) ∧ ∀ (c : Cfg) (Qp : List D → Env → Prop) (Ep : Ex → Env → Prop) (R : It → Hp → Prop), Ok X.K X.mg c → w c.ρ Qp Ep → XOk X.K X.mg c Ep E0 →
    (∀ J items P c', Go X.K X.mg c c' → c'.σ = c.σ → ItOk X.K X.mg J items P → P c'.F → Qp items c'.ρ → R J c'.H) → t c.σ c.H R :=
  ⟨fun σ H R => ∀ i, Classical.choose (h i) σ H R, fun i => ⟨fun pins s σ H R I hq => (Classical.choose_spec (h i)).1.run pins s σ H R I (hq i)⟩,
    fun c Qp Ep R ok hw x k i => (Classical.choose_spec (h i)).2 c Qp Ep R ok hw x k⟩
theorem lc2_so {k : Nat} {elt : Expr} {own : List (Str × Nat)} {is_ is1 vs1 : List Nat} {ti ti1 : TI} {g g1_ : TG} {t t1 : TT} {te : TE} {wi wi1 : WI} {wt wt1 : WG} {tt tt1 : WT} {we : WE} (C : Cc X XE k)
    (si : ∀ (c : Cfg) (Qp : List D → Env → Prop) (Ep : Ex → Env → Prop) (R : It → Hp → Prop), Ok X.K X.mg c → wi c.ρ Qp Ep → XOk X.K X.mg c Ep XE →
      (∀ J items P c', Go X.K X.mg c c' → c'.σ = c.σ → ItOk X.K X.mg J items P → P c'.F → Qp items c'.ρ → R J c'.H) → ti c.σ c.H R)
    (sg : ∀ (c : Cfg) (d : D) (v : V) (Qp : Env → Prop) (Q : L2.St → Hp → Prop), Ok X.K X.mg c → Rep X.K X.mg c.F d v → wt d c.ρ Qp →
      (∀ c', Go X.K X.mg c c' → Mono c.F c'.F → (∀ vs, (∀ i ∈ is_, i ∈ vs) → wipe c'.σ vs = wipe c.σ vs) → Qp c'.ρ → Q c'.σ c'.H) → g v c.σ c.H Q)
    (st : SoT X E0 t tt)
    (si1 : ∀ (c : Cfg) (Qp : List D → Env → Prop) (Ep : Ex → Env → Prop) (R : It → Hp → Prop), Ok X.K X.mg c → wi1 c.ρ Qp Ep → XOk X.K X.mg c Ep E0 →
      (∀ J items P c', Go X.K X.mg c c' → c'.σ = c.σ → ItOk X.K X.mg J items P → P c'.F → Qp items c'.ρ → R J c'.H) → ti1 c.σ c.H R)
    (sg1 : ∀ (c : Cfg) (d : D) (v : V) (Qp : Env → Prop) (Q : L2.St → Hp → Prop), Ok X.K X.mg c → Rep X.K X.mg c.F d v → wt1 d c.ρ Qp →
      (∀ c', Go X.K X.mg c c' → Mono c.F c'.F → (∀ vs, (∀ i ∈ is1, i ∈ vs) → wipe c'.σ vs = wipe c.σ vs) → Qp c'.ρ → Q c'.σ c'.H) → g1_ v c.σ c.H Q)
    (st1 : SoT X E0 t1 tt1) (se : SoE X E0 te we) (hv : ∀ i ∈ is_, i ∈ own.map (·.2)) (hv1 : ∀ i ∈ is1, i ∈ vs1) (hvv : ∀ i ∈ vs1, i ∈ own.map (·.2)) : SoE X XE (tLc2 ti g t ti1 g1_ t1 te (own.map (·.2)) vs1) (wLc2 wi wt tt wi1 wt1 tt1 we (own.map (·.2)) vs1) := by
  intro c Qp Ep Q okc hw x k
  generalize hvs : own.map (·.2) = vs at hv hvv hw
  refine si c _ Ep _ okc hw x fun J items Pi c1 g1 e1 it p1 h1 => ?_
  obtain ⟨ow, h1⟩ := h1
  intro A hA
  have fA : c1.F A = none := fresh_F g1.ok.sub hA
  have nfp : ∀ i, A ∉ c1.fp i := fun i z => (g1.ok.out i A z).2 hA
  have g0 : Go X.K X.mg c1 { c1 with H := upd c1.H A (.lst []) } := list_go (Go.refl _ _ g1.ok) hA fA nfp (pl_none hA)
  have nbor : ∀ i ∈ vs, ∀ d, c1.ρ[i]? ≠ some (some (.own true d)) := fun i hi d z => by
    obtain ⟨d', e⟩ := okW_of ow hi z
    cases e
  have nbor1 : ∀ i ∈ vs1, ∀ d, c1.ρ[i]? ≠ some (some (.own true d)) := fun i hi => nbor i (hvv i hi)
  have ewd : ∀ ws, wipe (wipe c.σ ws) ws = wipe c.σ ws := fun ws => wipe_wipe fun _ h => h
  have gw : Go X.K X.mg c1 { c1 with H := upd c1.H A (.lst []), σ := wipe c.σ vs, ρ := wipeE c1.ρ vs, fp := fpW c1.fp vs } :=
    wipe_go g0 nbor (by rw [wipe_length]; exact congrArg _ e1.symm) fun i hi => by rw [wipe_out hi]; exact congrArg (fun l : L2.St => l[i]?) e1.symm
  refine ⟨fun i m H => ∃ c' acc xs, Go X.K X.mg c1 c' ∧ c'.σ = wipe c.σ vs ∧ c'.H = H ∧ m = items.length - i ∧ i ≤ items.length ∧ Pi c'.F ∧ (∀ j ∈ vs, ∀ e, c'.ρ[j]? ≠ some (some e)) ∧ H A = some (.lst xs) ∧ RepL X.K X.mg c'.F acc xs ∧ c'.F A = none ∧ (∀ j, A ∉ c'.fp j) ∧
    wLcO wt tt wi1 wt1 tt1 we vs vs1 (items.drop i) acc c'.ρ fun r ρ' => Qp r (restE ρ' c1.ρ vs),
    ⟨_, _, [], [], gw, rfl, rfl, rfl, Nat.zero_le _, p1, fun j hj e => wipeE_in hj, upd_same, rfl, fA, fun j z => ?_, h1⟩, ?_⟩
  · have z' : A ∈ fpW c1.fp vs j := z
    unfold fpW at z'
    split at z'
    · cases z'
    · exact nfp j z'
  rintro i m H ⟨c', acc, xs, g', es, rfl, rfl, hi, p', hn', hA', ra, fA', nf', h'⟩
  by_cases hlt : i < items.length
  · have ed : items.drop i = items[i] :: items.drop (i + 1) := by rw [List.drop_eq_getElem_cons hlt]
    rw [ed] at h'
    have gi : items[i]? = some items[i] := by simp [hlt]
    obtain ⟨q1, q2⟩ := it.item c'.F c'.H i items[i] g'.ok.sub g'.ok.tf p' gi
    refine .inr ⟨q1, fun H2 => ∃ c2 acc2 xs2, Go X.K X.mg c1 c2 ∧ c2.σ = wipe c.σ vs ∧ c2.H = H2 ∧ Pi c2.F ∧ (∀ j ∈ vs, ∀ e, c2.ρ[j]? ≠ some (some e)) ∧ H2 A = some (.lst xs2) ∧ RepL X.K X.mg c2.F acc2 xs2 ∧ c2.F A = none ∧ (∀ j, A ∉ c2.fp j) ∧
      wLcO wt tt wi1 wt1 tt1 we vs vs1 (items.drop (i + 1)) acc2 c2.ρ fun r ρ' => Qp r (restE ρ' c1.ρ vs), fun H2 ⟨c2, a2, x2, b1, b2, b3, b4, b5, b6, b7, b8, b9, b11⟩ => ⟨items.length - (i + 1), by omega, c2, a2, x2, b1, b2, b3, rfl, hlt, b4, b5, b6, b7, b8, b9, b11⟩, fun v H' y => ?_⟩
    obtain ⟨F', stp, r⟩ := q2 v H' y
    have g2 := stp.go g'.ok
    have gg := g'.trans X.K X.mg g2
    rw [← es]
    refine sg { c' with F := F', H := H' } items[i] v _ _ g2.ok r h' fun c3 g3 e3 w3 h3 => ?_
    have gg3 := gg.trans X.K X.mg g3
    have w3' : wipe c3.σ vs = wipe c.σ vs := (w3 vs hv).trans (by show wipe c'.σ vs = _; rw [es, ewd])
    refine ⟨by rw [w3', es], ?_⟩
    refine st c3 _ _ _ g3.ok h3 (XOk.none X.K X.mg) fun b c4 g4 e4 h4 => ?_
    have gg4 := gg3.trans X.K X.mg g4
    -- what stands at A still stands
    have stay : ∀ c5, Go X.K X.mg { c' with F := F', H := H' } c5 → c5.F A = none ∧ c5.H A = some (.lst xs) ∧ ∀ j, A ∉ c5.fp j := fun c5 g5 => by
      have g6 := g2.trans X.K X.mg g5
      obtain ⟨k1, k2⟩ := g6.fr.keep A fA' (by rw [hA']; simp) nf' (nt_of hA' True.intro)
      refine ⟨k1, k2.trans hA', fun j z => ?_⟩
      rcases g6.orig j A z with ⟨j', hj⟩ | e
      · exact nf' j' hj
      · rw [hA'] at e; cases e
    have keepP : ∀ c5, Go X.K X.mg { c' with F := F', H := H' } c5 → Pi c5.F := fun c5 g5 => it.mono _ _ g5.fr.mono (it.mono _ _ stp.mono p')
    cases b with
    | true =>
      rw [if_pos rfl] at h4 ⊢
      rw [← e4]
      refine si1 c4 _ _ _ g4.ok h4 (XOk.none X.K X.mg) fun J1 items1 Pi1 c5 g5 e5 it1 p5 h5 => ?_
      have gx := (g3.trans X.K X.mg g4).trans X.K X.mg g5
      have gg5 := gg4.trans X.K X.mg g5
      obtain ⟨s1, s2, s3⟩ := stay c5 gx
      have eσ5 : c5.σ = c4.σ := e5
      have w5 : wipe c4.σ vs = wipe c.σ vs := by rw [e4, w3']
      have gw5 : Go X.K X.mg c1 { c5 with σ := wipe c4.σ vs1, ρ := wipeE c5.ρ vs1, fp := fpW c5.fp vs1 } :=
        wipe_go gg5 nbor1 (by rw [eσ5, wipe_length]) fun j hj => by rw [eσ5, wipe_out hj]
      refine ⟨fun j m H => ∃ ci acci xsi, Go X.K X.mg c1 ci ∧ ci.σ = wipe c4.σ vs1 ∧ ci.H = H ∧ m = items1.length - j ∧ j ≤ items1.length ∧ Pi ci.F ∧ Pi1 ci.F ∧ H A = some (.lst xsi) ∧ RepL X.K X.mg ci.F acci xsi ∧ ci.F A = none ∧ (∀ j, A ∉ ci.fp j) ∧
        wLcI wt1 tt1 we vs1 (items1.drop j) acci ci.ρ fun acc' ρ4 => wLcO wt tt wi1 wt1 tt1 we vs vs1 (items.drop (i + 1)) acc' (wipeE ρ4 vs) fun r ρ' => Qp r (restE ρ' c1.ρ vs),
        ⟨_, _, acc, xs, gw5, rfl, rfl, rfl, Nat.zero_le _, keepP c5 gx, p5, s2, ra.mono X.K X.mg (stp.mono.trans gx.fr.mono) _ _, s1, fun j z => ?_, h5⟩, ?_⟩
      · have z' : A ∈ fpW c5.fp vs1 j := z
        unfold fpW at z'
        split at z'
        · cases z'
        · exact s3 j z'
      rintro j mj Hj ⟨ci, acci, xsi, gi', ei, rfl, rfl, hj, pi', pi1', hAi, rai, fAi, nfi, hi'⟩
      by_cases hjt : j < items1.length
      · have edj : items1.drop j = items1[j] :: items1.drop (j + 1) := by rw [List.drop_eq_getElem_cons hjt]
        rw [edj] at hi'
        have gij : items1[j]? = some items1[j] := by simp [hjt]
        obtain ⟨q3, q4⟩ := it1.item ci.F ci.H j items1[j] gi'.ok.sub gi'.ok.tf pi1' gij
        refine .inr ⟨q3, fun H2 => ∃ c2 acc2 xs2, Go X.K X.mg c1 c2 ∧ c2.σ = wipe c4.σ vs1 ∧ c2.H = H2 ∧ Pi c2.F ∧ Pi1 c2.F ∧ H2 A = some (.lst xs2) ∧ RepL X.K X.mg c2.F acc2 xs2 ∧ c2.F A = none ∧ (∀ j, A ∉ c2.fp j) ∧
          wLcI wt1 tt1 we vs1 (items1.drop (j + 1)) acc2 c2.ρ fun acc' ρ4 => wLcO wt tt wi1 wt1 tt1 we vs vs1 (items.drop (i + 1)) acc' (wipeE ρ4 vs) fun r ρ' => Qp r (restE ρ' c1.ρ vs),
          fun H2 ⟨c2, a2, x2, b1, b2, b3, b4, b5, b6, b7, b8, b9, b11⟩ => ⟨items1.length - (j + 1), by omega, c2, a2, x2, b1, b2, b3, rfl, hjt, b4, b5, b6, b7, b8, b9, b11⟩, fun v6 H6 y6 => ?_⟩
        obtain ⟨F6, stp6, r6⟩ := q4 v6 H6 y6
        have g6 := stp6.go gi'.ok
        have gg6 := gi'.trans X.K X.mg g6
        rw [← ei]
        refine sg1 { ci with F := F6, H := H6 } items1[j] v6 _ _ g6.ok r6 hi' fun c7 g7 e7 w7 h7 => ?_
        have gg7 := gg6.trans X.K X.mg g7
        have ew4 : wipe (wipe c4.σ vs1) vs1 = wipe c4.σ vs1 := wipe_wipe fun _ h => h
        have w7' : wipe c7.σ vs1 = wipe c4.σ vs1 := (w7 vs1 hv1).trans (by show wipe ci.σ vs1 = _; rw [ei, ew4])
        refine ⟨by rw [w7', ei], ?_⟩
        refine st1 c7 _ _ _ g7.ok h7 (XOk.none X.K X.mg) fun b8 c8 g8 e8 h8 => ?_
        have gg8 := gg7.trans X.K X.mg g8
        have stay6 : ∀ c5, Go X.K X.mg { ci with F := F6, H := H6 } c5 → c5.F A = none ∧ c5.H A = some (.lst xsi) ∧ ∀ j, A ∉ c5.fp j := fun c5 g5 => by
          have g6' := g6.trans X.K X.mg g5
          obtain ⟨k1, k2⟩ := g6'.fr.keep A fAi (by rw [hAi]; simp) nfi (nt_of hAi True.intro)
          refine ⟨k1, k2.trans hAi, fun j z => ?_⟩
          rcases g6'.orig j A z with ⟨j', hj⟩ | e
          · exact nfi j' hj
          · rw [hAi] at e; cases e
        have keep6 : ∀ c5, Go X.K X.mg { ci with F := F6, H := H6 } c5 → Pi c5.F ∧ Pi1 c5.F := fun c5 g5 => ⟨it.mono _ _ g5.fr.mono (it.mono _ _ stp6.mono pi'), it1.mono _ _ g5.fr.mono (it1.mono _ _ stp6.mono pi1')⟩
        cases b8 with
        | true =>
          rw [if_pos rfl] at h8 ⊢
          rw [← e8]
          refine runK (e := elt) se g8.ok h8 (XOk.none X.K X.mg) fun v9 c9 d9 g9 e9 r9 h9 => ?_
          obtain ⟨hz9, h9⟩ := h9
          have gx9 := (g7.trans X.K X.mg g8).trans X.K X.mg g9
          have gg9 := gg8.trans X.K X.mg g9
          obtain ⟨u1, u2, u3⟩ := stay6 c9 gx9
          refine ⟨xsi, u2, by rw [← rai.len X.K X.mg]; exact hz9, ?_⟩
          have eσ : c9.σ = c7.σ := e9.trans e8
          have gl : Go X.K X.mg c1 { c9 with H := upd c9.H A (.lst (xsi ++ [v9])) } := list_go gg9 hA u1 u3 (pl_some u2 True.intro)
          have w9 : wipe c9.σ vs1 = wipe c4.σ vs1 := by rw [eσ, w7']
          have gw9 : Go X.K X.mg c1 { c9 with H := upd c9.H A (.lst (xsi ++ [v9])), σ := wipe c4.σ vs1, ρ := wipeE c9.ρ vs1, fp := fpW c9.fp vs1 } :=
            wipe_go gl nbor1 (by rw [← w9, wipe_length]) fun j hj => by rw [← w9, wipe_out hj]
          refine ⟨_, acci ++ [d9], xsi ++ [v9], gw9, ei.symm, rfl, (keep6 c9 gx9).1, (keep6 c9 gx9).2, upd_same, ?_, u1, fun j z => ?_, h9⟩
          · exact RepL.app X.K X.mg (rai.mono X.K X.mg (stp6.mono.trans gx9.fr.mono) _ _) (RepL.one X.K X.mg r9)
          · have z' : A ∈ fpW c9.fp vs1 j := z
            unfold fpW at z'
            split at z'
            · cases z'
            · exact u3 j z'
        | false =>
          rw [if_neg Bool.false_ne_true] at h8 ⊢
          have gx8 := g7.trans X.K X.mg g8
          obtain ⟨u1, u2, u3⟩ := stay6 c8 gx8
          have w8 : wipe c8.σ vs1 = wipe c4.σ vs1 := by rw [e8, w7']
          have gw8 : Go X.K X.mg c1 { c8 with σ := wipe c4.σ vs1, ρ := wipeE c8.ρ vs1, fp := fpW c8.fp vs1 } :=
            wipe_go gg8 nbor1 (by rw [← w8, wipe_length]) fun j hj => by rw [← w8, wipe_out hj]
          refine ⟨_, acci, xsi, gw8, ei.symm, rfl, (keep6 c8 gx8).1, (keep6 c8 gx8).2, u2, rai.mono X.K X.mg (stp6.mono.trans gx8.fr.mono) _ _, u1, fun j z => ?_, h8⟩
          have z' : A ∈ fpW c8.fp vs1 j := z
          unfold fpW at z'
          split at z'
          · cases z'
          · exact u3 j z'
      · have ej : j = items1.length := by omega
        subst ej
        rw [List.drop_length] at hi'
        refine .inl ⟨it1.stop ci.F ci.H gi'.ok.sub pi1', ?_⟩
        have wi' : wipe ci.σ vs = wipe c.σ vs := by rw [ei, wipe_wipe hvv, w5]
        have gwi : Go X.K X.mg c1 { ci with σ := wipe c.σ vs, ρ := wipeE ci.ρ vs, fp := fpW ci.fp vs } :=
          wipe_go gi' nbor (by rw [← wi', wipe_length]) fun j hj => by rw [← wi', wipe_out hj]
        refine ⟨_, acci, xsi, gwi, es.symm, rfl, pi', fun j hj e => wipeE_in hj, hAi, rai, fAi, fun j z => ?_, hi'⟩
        have z' : A ∈ fpW ci.fp vs j := z
        unfold fpW at z'
        split at z'
        · cases z'
        · exact nfi j z'
    | false =>
      rw [if_neg Bool.false_ne_true] at h4 ⊢
      have gx := g3.trans X.K X.mg g4
      obtain ⟨s1, s2, s3⟩ := stay c4 gx
      have w5 : wipe c4.σ vs = wipe c.σ vs := by rw [e4, w3']
      have gw5 : Go X.K X.mg c1 { c4 with σ := wipe c.σ vs, ρ := wipeE c4.ρ vs, fp := fpW c4.fp vs } :=
        wipe_go gg4 nbor (by rw [← w5, wipe_length]) fun j hj => by rw [← w5, wipe_out hj]
      refine ⟨_, acc, xs, gw5, es.symm, rfl, keepP c4 gx, fun j hj e => wipeE_in hj, s2, ra.mono X.K X.mg (stp.mono.trans gx.fr.mono) _ _, s1, fun j z => ?_, h4⟩
      have z' : A ∈ fpW c4.fp vs j := z
      unfold fpW at z'
      split at z'
      · cases z'
      · exact s3 j z'
  · have e : i = items.length := by omega
    subst e
    rw [List.drop_length] at h'
    refine .inl ⟨it.stop c'.F c'.H g'.ok.sub p', ?_⟩
    have ls : c1.σ.length = c'.σ.length := by rw [es, wipe_length, e1]
    have gr := rest_go g1 g' ow e1 hn' ls fun j hj => by rw [es, wipe_out hj, e1]
    refine k _ { c' with σ := c1.σ, ρ := restE c'.ρ c1.ρ vs } (.tmp (.lst acc)) gr e1 ⟨[A], ⟨A, xs, rfl, rfl, hA', ra⟩, fun b hb => ?_⟩ h'
    have eb : b = A := by simpa using hb
    subst eb
    refine ⟨fA', by show c'.H b ≠ none; rw [hA']; simp, ?_, nf'⟩
    cases q : c.H b with
    | none => rfl
    | some o => exact absurd hA (g1.fr.grow b (by rw [q]; simp))
theorem pd_lc2 {k : Nat} {elt tg iter tg1 iter1 : Expr} {ifs ifs1 : List Expr} {own : List (Str × Nat)} {pos : Pos} {is_ is1 vs1 : List Nat} {wi wi1 : WI} {wt wt1 : WG} {tt tt1 : WT} {we : WE} (C : Cc X XE k) (hN : X.N.Nodup) (hi : PdI X XE tg iter wi) (ok : BlkOk X.N X.env.scope scope own)
    (hg : ∀ i, PdG (bx X scope i) tg is_ wt) (ht : ∀ i, PdTs (bx X scope i) E0 ifs tt) (hi1 : ∀ i, PdI (bx X scope i) E0 tg1 iter1 wi1) (hg1 : ∀ i, PdG (bx X scope i) tg1 is1 wt1) (ht1 : ∀ i, PdTs (bx X scope i) E0 ifs1 tt1) (he : ∀ i, PdE (bx X scope i) E0 elt we)
    (hv : ∀ i ∈ is_, i ∈ own.map (·.2) := by decide) (hv1 : ∀ i ∈ is1, i ∈ vs1 := by decide) (hvv : ∀ i ∈ vs1, i ∈ own.map (·.2) := by decide) (hs : ∀ x, foldedSetIterable iter X.env x = pure x := by intro _; rfl) (hs1 : ∀ env x, foldedSetIterable iter1 env x = pure x := by intro _ _; rfl) :
    PdE X XE (.ListComp elt [⟨tg, iter, ifs, 0⟩, ⟨tg1, iter1, ifs1, 0⟩] scope pos) (wLc2 wi wt tt wi1 wt1 tt1 we (own.map (·.2)) vs1) := by
  obtain ⟨ti, pi, si⟩ := hi
  obtain ⟨ti1, pi1, si1⟩ := uniI hi1
  obtain ⟨g, pg, sg⟩ := uniG hg
  obtain ⟨t, pt, st⟩ := uniT ht
  obtain ⟨g1, pg1, sg1⟩ := uniG hg1
  obtain ⟨t1, pt1, st1⟩ := uniT ht1
  obtain ⟨te, pe, se⟩ := uniE he
  exact ⟨_, pe_lc2 C.calm hN pi ok hvv (fun s H C cl fp => pg ⟨s, H, C, cl, fp⟩) (fun s H C cl fp => pt ⟨s, H, C, cl, fp⟩) (fun s H C cl fp => pi1 ⟨s, H, C, cl, fp⟩) (fun s H C cl fp => pg1 ⟨s, H, C, cl, fp⟩) (fun s H C cl fp => pt1 ⟨s, H, C, cl, fp⟩) (fun s H C cl fp => pe ⟨s, H, C, cl, fp⟩) hs hs1,
    lc2_so (elt := elt) C si sg st si1 sg1 st1 se hv hv1 hvv⟩
end
end PL
/-! PX6: dict(..), list(d), sorted(d), d.get(k, x), d[k] = v; properties. -/
namespace PL
open PySem PySem.Spec PyProof.Rows L2
variable [HasT]
def rOr (r s : List V → Hp → VK → Prop) : List V → Hp → VK → Prop := fun xs H Q => r xs H Q ∨ s xs H Q
theorem callr_or {X : Cx} {f : Value} {r s : List V → Hp → VK → Prop} (h1 : CallR X f r) (h2 : CallR X f s) : CallR X f (rOr r s) := by
  intro pins st σ H xs us Q I rx h
  rcases h with h | h
  · exact h1 pins st σ H xs us Q I rx h
  · exact h2 pins st σ H xs us Q I rx h
def rDictP (K : PySem.W.Frag) : List V → Hp → VK → Prop := fun xs H Q => ∃ (a : Addr) (ps : List Addr) (kvs : List (Key × V)), xs = [.ref a] ∧ SqL K H a (ps.map V.ref) ∧ Paired (fun p kv => SqT K H p [L2.kV kv.1, kv.2]) ps kvs ∧
    ∀ p, H p = none → Q (.ref p) (upd H p (.dK (mergeK [] kvs)))
def rDictD : List V → Hp → VK → Prop := fun xs H Q => ∃ (a : Addr) (kvs : List (Key × V)), xs = [.ref a] ∧ Rd H a (.dK kvs) ∧ ∀ p, H p = none → Q (.ref p) (upd H p (.dK kvs))
def rListS (K : PySem.W.Frag) : List V → Hp → VK → Prop := fun xs H Q => ∃ p ys, xs = [.ref p] ∧ (SqL K H p ys ∨ SqT K H p ys) ∧ ∀ l, H l = none → Q (.ref l) (upd H l (.lst ys))
def rListD : List V → Hp → VK → Prop := fun xs H Q => ∃ (a : Addr) (kvs : List (Key × V)), xs = [.ref a] ∧ Rd H a (.dK kvs) ∧ ∀ p, H p = none → Q (.ref p) (upd H p (.lst (kvs.map fun kv => L2.kV kv.1)))
def rSortKs : List V → Hp → VK → Prop := fun xs H Q => ∃ (a : Addr) (kvs : List (Key × V)) (ks : List Str), xs = [.ref a] ∧ Rd H a (.dK kvs) ∧ kvs.map (·.1) = ks.map Sum.inr ∧ ks.length < 64 ∧
    ∀ ys p, ys.Perm ks → sortedS ys = true → H p = none → Q (.ref p) (upd H p (.lst (ys.map V.str)))
/-- the pairs of a list -/
def pairsD : List D → Option (List (Key × D))
  | [] => some []
  | .tup [k, d] :: r => (keyD k).bind fun q => (pairsD r).map fun t => (q, d) :: t
  | _ => none
def mergeKs : List (Key × D) → List Key → List D → List Key × List D
  | [], ks, ds => (ks, ds)
  | (q, d) :: r, ks, ds => mergeKs r (putKs ks q) (putDs ks ds q d)
def gDict : GN := fun ds Q => match ds with
  | [.lst xs] => match pairsD xs with
    | some ps => Q (.tmp (.dic (mergeKs ps [] []).1 (mergeKs ps [] []).2))
    | none => False
  | [.dic ks ds] => Q (.tmp (.dic ks ds))
  | _ => False
def gListA : GN := fun ds Q => match ds with
  | [.lst xs] => Q (.tmp (.lst xs))
  | [.tup xs] => Q (.tmp (.lst xs))
  | [.dic ks _] => Q (.tmp (.lst (ks.map kD)))
  | _ => False
def strsK : List Key → Option (List Str)
  | [] => some []
  | .inr x :: r => (strsK r).map (x :: ·)
  | _ => none
def gSortA : GN := fun ds Q => match ds with
  | [.dic ks _] => match strsK ks with
    | some xs => xs.length < 64 ∧ ∀ ys : List Str, ys.Perm xs → sortedS ys = true → Q (.tmp (.lst (ys.map .str)))
    | none => False
  | [.lst xs] => gSort [.lst xs] Q
  | _ => False
section
variable {K : PySem.W.Frag} {mg : Str → Option Value}
theorem mergeKs_rep {F : Hp} : ∀ {ps : List (Key × D)} {kvs : List (Key × V)} {acc : List (Key × V)} {ks : List Key} {ds : List D}, kvs.map (·.1) = ps.map (·.1) → RepL K mg F (ps.map (·.2)) (kvs.map (·.2)) →
    acc.map (·.1) = ks → RepL K mg F ds (acc.map (·.2)) → (mergeK acc kvs).map (·.1) = (mergeKs ps ks ds).1 ∧ RepL K mg F (mergeKs ps ks ds).2 ((mergeK acc kvs).map (·.2))
  | [], [], acc, ks, ds, _, _, h3, h4 => ⟨h3, h4⟩
  | [], _ :: _, _, _, _, h, _, _, _ => by simp at h
  | _ :: _, [], _, _, _, h, _, _, _ => by simp at h
  | (q, d) :: ps, kv :: kvs, acc, ks, ds, h, r, h3, h4 => by
    obtain ⟨x, t, e1, r1, r2⟩ := r
    rw [List.map_cons] at e1
    injection e1 with e1 e2
    simp only [List.map_cons, List.cons.injEq] at h
    have pr := putkd (q := q) h3 h4 (show Rep K mg F d kv.2 by rw [e1]; exact r1)
    have := mergeKs_rep (ps := ps) (kvs := kvs) (acc := putK acc q kv.2) (ks := putKs ks q) (ds := putDs ks ds q d) h.2 (by rw [e2]; exact r2) pr.1 pr.2
    show (mergeK (putK acc kv.1 kv.2) kvs).map (·.1) = _ ∧ RepL K mg F _ ((mergeK (putK acc kv.1 kv.2) kvs).map (·.2))
    rw [h.1]
    exact this
theorem pairs_rep {F H : Hp} (s : Mono F H) : ∀ {ds : List D} {xs : List V} {ps : List (Key × D)}, RepL K mg F ds xs → pairsD ds = some ps → ∃ as kvs, xs = as.map V.ref ∧ Paired (fun p (kv : Key × V) => SqT K H p [L2.kV kv.1, kv.2]) as kvs ∧ kvs.map (·.1) = ps.map (·.1) ∧ RepL K mg F (ps.map (·.2)) (kvs.map (·.2))
  | [], _, _, h, e => by
    cases e
    rw [show _ = [] from h]
    exact ⟨[], [], rfl, .nil, rfl, rfl⟩
  | d :: ds, _, ps, h, e => by
    obtain ⟨x, r, rfl, h1, h2⟩ := h
    unfold pairsD at e
    split at e
    next => contradiction
    next _ k' d' r' e' =>
      cases e'
      cases hq : keyD k' with
      | none => rw [hq] at e; cases e
      | some q =>
        rw [hq] at e
        cases hp : pairsD ds with
        | none => rw [hp] at e; cases e
        | some pt =>
          rw [hp] at e
          cases e
          obtain ⟨as, kvs, rfl, p1, p2, p3⟩ := pairs_rep s h2 hp
          obtain ⟨a, ys, rfl, ha, ra⟩ := h1
          obtain ⟨u, t, rfl, ru, rt⟩ := ra
          obtain ⟨u2, t2, rfl, ru2, rt2⟩ := rt
          obtain rfl : t2 = [] := rt2
          refine ⟨a :: as, (q, u2) :: kvs, rfl, .cons ?_ p1, by simp [p2], u2, _, rfl, ru2, p3⟩
          show SqT K H a [L2.kV q, u2]
          have := key_rep (H := H) (.inl ru : See K mg F H k' u) hq
          rw [← this]
          exact s.sqT K ha
    next => cases e
theorem new_dic {F H : Hp} {p : Addr} {kvs : List (Key × V)} {ks : List Key} {ds : List D} (h : H p = none) (s : Mono F H) (m : kvs.map (·.1) = ks) (r : RepL K mg F ds (kvs.map (·.2))) : NewR K mg H F (upd H p (.dK kvs)) (.tmp (.dic ks ds)) (.ref p) :=
  ⟨[p], ⟨p, kvs, rfl, rfl, upd_same, m, r⟩, fun b hb => by
    have e : b = p := by simpa using hb
    subst e
    exact ⟨fresh_F s h, by rw [upd_same]; simp, h⟩⟩
theorem opn_dict : OpN K mg (rOr (rDictP K) rDictD) gDict := by
  intro F H ds vs Qg Q s h hg k
  unfold gDict at hg
  split at hg
  next xs =>
    obtain ⟨v, rfl, h1⟩ := seeL1 h
    obtain ⟨a, zs, rfl, ha, ra⟩ := h1.lst s
    split at hg
    next ps hp =>
      obtain ⟨as, kvs, rfl, p1, p2, p3⟩ := pairs_rep s ra hp
      have mr := mergeKs_rep (acc := []) (ks := []) (ds := []) p2 p3 rfl rfl
      exact .inl ⟨a, as, kvs, rfl, SqL.of ha, p1, fun p hp => k _ _ _ _ (Step.new s hp) (new_dic hp s mr.1 mr.2) hg⟩
    next => exact hg.elim
  next ks ds =>
    obtain ⟨v, rfl, h1⟩ := seeL1 h
    obtain ⟨a, kvs, rfl, ha, hm, ra⟩ := h1.dic s
    exact .inr ⟨a, kvs, rfl, ha, fun p hp => k _ _ _ _ (Step.new s hp) (new_dic hp s hm ra) hg⟩
  next => exact hg.elim
theorem opn_listA : OpN K mg (rOr (rListS K) rListD) gListA := by
  intro F H ds vs Qg Q s h hg k
  unfold gListA at hg
  split at hg
  next ds =>
    obtain ⟨v, rfl, h1⟩ := seeL1 h
    obtain ⟨a, xs, rfl, ha, ra⟩ := h1.lst s
    exact .inl ⟨a, xs, rfl, .inl (SqL.of ha), fun p hp => k _ _ _ _ (Step.new s hp) (new_lst hp s ra) hg⟩
  next ds =>
    obtain ⟨v, e, h'⟩ := seeL1 h
    subst e
    obtain ⟨a, xs, rfl, ha, ra⟩ := h'.tup
    exact .inl ⟨a, xs, rfl, .inr (s.sqT K ha), fun p hp => k _ _ _ _ (Step.new s hp) (new_lst hp s ra) hg⟩
  next ks ds =>
    obtain ⟨v, rfl, h1⟩ := seeL1 h
    obtain ⟨a, kvs, rfl, ha, hm, ra⟩ := h1.dic s
    refine .inr ⟨a, kvs, rfl, ha, fun p hp => k _ _ _ _ (Step.new s hp) (new_lst hp s ?_) hg⟩
    have e : kvs.map (fun kv => L2.kV kv.1) = ks.map L2.kV := by rw [← hm, List.map_map]; rfl
    rw [e]
    exact RepL.map K mg kD L2.kV kD_rep ks
  next => exact hg.elim
theorem strsK_of : ∀ {ks : List Key} {xs : List Str}, strsK ks = some xs → ks = xs.map Sum.inr
  | [], _, e => by cases e; rfl
  | .inl _ :: _, _, e => by cases e
  | .inr x :: r, _, e => by
    unfold strsK at e
    cases q : strsK r with
    | none => rw [q] at e; cases e
    | some t => rw [q] at e; cases e; rw [strsK_of q]; rfl
theorem opn_sortA : OpN K mg (rOr rSortKs (rSortD K)) gSortA := by
  intro F H ds vs Qg Q s h hg k
  unfold gSortA at hg
  split at hg
  next ks ds =>
    obtain ⟨v, rfl, h1⟩ := seeL1 h
    obtain ⟨a, kvs, rfl, ha, hm, ra⟩ := h1.dic s
    split at hg
    next xs hx =>
      refine .inl ⟨a, kvs, xs, rfl, ha, by rw [hm, strsK_of hx], hg.1, fun ys p hy hs hp => k _ _ _ _ (Step.new s hp) (new_lst hp s (RepL.map K mg .str V.str (fun _ => rfl) ys)) (hg.2 ys hy hs)⟩
    next => exact hg.elim
  next xs => exact .inr (opn_sort F H _ vs Qg Q s h hg k)
  next => exact hg.elim
end
section
variable {X : Cx} {XE : XK} {k : Nat} {p pos : Pos} {e : Expr} {w : WR}
theorem go_dict (C : Cc X XE k) (hm : X.mg "dict" = none) (ha : PdV X XE [e] w) (gl : Gl X "dict" := by rfl) (he : starEach [e] X.env = (false, eval e X.env) :: starEach [] X.env := by rfl) (hpl : (backTo pos (starEach [] X.env)).any (·.1) = false := by rfl) : PdE X XE (.Call (.Name "dict" p) [e] [] pos) (wCall gDict w) :=
  pd_callTy (callr_or (call_dictP C.calm) call_dictD) opn_dict gl hm (by decide +kernel) ha (by decide) (by decide) he hpl
theorem go_listA (C : Cc X XE k) (hm : X.mg "list" = none) (ha : PdV X XE [e] w) (gl : Gl X "list" := by rfl) (he : starEach [e] X.env = (false, eval e X.env) :: starEach [] X.env := by rfl) (hpl : (backTo pos (starEach [] X.env)).any (·.1) = false := by rfl) : PdE X XE (.Call (.Name "list" p) [e] [] pos) (wCall gListA w) :=
  pd_callTy (callr_or call_list_of (call_listD C.calm)) opn_listA gl hm PySem.Pv.boot_list ha (by decide) (by decide) he hpl
theorem go_sortA (C : Cc X XE k) (hm : X.mg "sorted" = none) (ha : PdV X XE [e] w) (gl : Gl X "sorted" := by rfl) (he : starEach [e] X.env = (false, eval e X.env) :: starEach [] X.env := by rfl) (hpl : (backTo pos (starEach [] X.env)).any (·.1) = false := by rfl) : PdE X XE (.Call (.Name "sorted" p) [e] [] pos) (wCall gSortA w) :=
  pd_callB (callr_or (call_sortedD C.calm) (cr_sortD C.room.units)) opn_sortA gl hm boot_sorted ha (by decide) (by decide) he hpl
end
/-! ### d[k] = v, d the object of slot i -/
def isDic (ρ : Env) (i : Nat) : Prop := match ρ[i]? with
  | some (some (.own _ (.dic _ _))) => True
  | _ => False
def wPutD (i : Nat) (wk wv : WE) : WS := fun Dp ρ => wK wv ρ (fun d ρ1 => isDic ρ1 i ∧ wK wk ρ1 (fun y ρ2 => match ρ2[i]?, keyD y with
  | some (some (.own b (.dic ks ds))), some q => ks.length < sizeLine ∧ Dp.nx (ρ2.set i (some (.own b (.dic (putKs ks q) (putDs ks ds q d)))))
  | _, _ => False) Dp.ex) Dp.ex
section
variable {X : Cx} {XE : XK} {k : Nat}
theorem pst_putD {i : Nat} {x : Str} {e ix : Expr} {p pos' pos : Pos} {wk wv : WE} (C : Cc X XE k) (hx : PE X (.Name x p) (tVar i)) (hv : PdE X XE e wv) (hk : PdE X XE ix wk)
    (hs : swapsWith e (some (.Subscript (.Name x p) ix pos')) pos.line X.env = pure false := by rfl) : PdS X XE (.Assign [.Subscript (.Name x p) ix pos'] e pos) (wPutD i wk wv) := by
  obtain ⟨tv, pv, sv⟩ := hv
  obtain ⟨tk, pk, sk⟩ := hk
  refine ⟨_, ps_dput (by have := C.u65; omega) hx pk pv hs, fun c Dp D ok hw P => ?_⟩
  refine runK (e := e) sv ok hw (P.2.2.2.2.ex X.K X.mg) fun v c1 d g1 e1 r1 h01 => ?_
  obtain ⟨h0, h1⟩ := h01
  have main : ∀ v0, c1.σ[i]? = some (some v0) → tk c.σ c1.H fun y H3 => ∃ a H4, v0 = V.ref a ∧ DPut H3 a y v H4 ∧ D.nx c.σ H4 := fun v0 hv0 => by
    rw [← e1]
    refine runK (e := ix) sk g1.ok h1 ((P.2.2.2.2.go X.K X.mg g1).ex X.K X.mg) fun y c2 dy g2 e2 r2 h2 => ?_
    split at h2
    next b ks ds q hρ hq =>
      obtain ⟨hz, h2⟩ := h2
      obtain ⟨v1, hv1, a, kvs, rfl, hft, ha, hm, rg⟩ := g2.ok.own hρ
      rw [e2, hv0] at hv1; cases hv1
      have g12 := g1.trans X.K X.mg g2
      have pr := putkd (q := q) hm rg (r1.mono X.K X.mg g2.fr.mono _ _)
      have yk := key_rep (.inl r2 : See X.K X.mg c2.F c2.H dy y) hq
      have ln : kvs.length < sizeLine := by rw [← hm] at hz; simpa using hz
      refine ⟨a, upd c2.H a (.dK (putK kvs q v)), rfl, .inl ⟨kvs, q, ha, yk, ln, rfl⟩, ?_⟩
      have g3 := write_slot (H' := upd c2.H a (.dK (putK kvs q v))) (d' := .dic (putKs ks q) (putDs ks ds q d)) g2.ok hρ (by rw [e2]; exact hv0) ⟨a, _, rfl, hft, upd_same, pr.1, pr.2⟩ (fun b hb => by rw [hft] at hb; exact upd_ne (by simpa using hb)) fun b hb => by
        rw [hft] at hb
        have : b = a := by simpa using hb
        subst this
        rw [upd_same]; simp
      have := P.1 _ (g12.trans X.K X.mg g3) h2
      rw [← e2]
      exact this
    next => exact h2.elim
  -- the object is there ahead of the key
  have there : ∃ v0, c1.σ[i]? = some (some v0) := by
    unfold isDic at h0
    split at h0
    next b ks ds hρ =>
      obtain ⟨v1, hv1, _⟩ := g1.ok.own hρ
      exact ⟨v1, hv1⟩
    next => exact h0.elim
  obtain ⟨v0, hv0⟩ := there
  exact ⟨v0, by rw [← e1]; exact hv0, main v0 hv0⟩
end
end PL
/-! PX7: properties; calls with keywords; -x; d.get(k, x). -/
namespace PL
open PySem PySem.Spec PyProof.Rows L2
variable [HasT]
section
variable {K : PySem.W.Frag} {mg : Str → Option Value}
def gNeg : G1 := fun d Q => match d with
  | .int i => Q (.val (.int (-i)))
  | _ => False
theorem op1_neg : Op1 K mg (rU fun i => .int (-i)) gNeg := by
  intro F H d v Qg Q s h hg k
  cases d <;> try exact hg.elim
  rename_i i
  rw [h.int]
  exact ⟨i, rfl, fin_val s k (d := .int _) rfl hg⟩
/-- the items at these places -/
def pick {α : Type} : List Nat → List α → List α
  | [], _ => []
  | i :: is, xs => match xs[i]? with
    | some x => x :: pick is xs
    | none => pick is xs
theorem RRVs.at {c : Cfg} {rs : List R} {vs : List V} (h : RRVs K mg c rs vs) : ∀ i : Nat, match rs[i]?, vs[i]? with
    | some r, some v => RRV K mg c r v
    | none, none => True
    | _, _ => False := by
  induction rs generalizing vs with
  | nil =>
    intro i
    rw [show vs = [] from h]
    simp
  | cons r rs ih =>
    obtain ⟨x, t, rfl, h1, h2⟩ := h
    intro i
    cases i with
    | zero => exact h1
    | succ i => exact ih h2 i
theorem RRVs.pick {c : Cfg} {rs : List R} {vs : List V} (h : RRVs K mg c rs vs) : ∀ is : List Nat, RRVs K mg c (PL.pick is rs) (PL.pick is vs)
  | [] => rfl
  | i :: is => by
    have ha := h.at i
    unfold PL.pick
    cases q1 : rs[i]? with
    | none =>
      cases q2 : vs[i]? with
      | none => exact RRVs.pick h is
      | some v => rw [q1, q2] at ha; exact ha.elim
    | some r =>
      cases q2 : vs[i]? with
      | none => rw [q1, q2] at ha; exact ha.elim
      | some v =>
        rw [q1, q2] at ha
        exact ⟨v, _, rfl, ha, RRVs.pick h is⟩
theorem RRVs.app {c : Cfg} {rs zs : List R} {vs ys : List V} (h : RRVs K mg c rs vs) (g : RRVs K mg c zs ys) : RRVs K mg c (rs ++ zs) (vs ++ ys) := by
  induction rs generalizing vs with
  | nil => rw [show vs = [] from h]; exact g
  | cons r rs ih =>
    obtain ⟨x, t, rfl, h1, h2⟩ := h
    exact ⟨x, t ++ ys, rfl, h1, ih h2⟩
theorem vals_get {vs : List V} {us : List Value} (h : Vals vs us) : ∀ i : Nat, match vs[i]?, us[i]? with
    | some r, some v => RelV r v
    | none, none => True
    | _, _ => False := by
  induction h with
  | nil => intro i; simp
  | cons h t ih =>
    intro i
    cases i with
    | zero => exact h
    | succ i => exact ih i
theorem vals_pick {vs : List V} {us : List Value} (h : Vals vs us) : ∀ is : List Nat, Vals (pick is vs) (pick is us)
  | [] => .nil
  | i :: is => by
    have ha := vals_get h i
    unfold PL.pick
    cases q1 : vs[i]? with
    | none =>
      cases q2 : us[i]? with
      | none => exact vals_pick h is
      | some v => rw [q1, q2] at ha; exact ha.elim
    | some r =>
      cases q2 : us[i]? with
      | none => rw [q1, q2] at ha; exact ha.elim
      | some v =>
        rw [q1, q2] at ha
        exact .cons ha (vals_pick h is)
theorem RRVs.len {c : Cfg} {rs : List R} {vs : List V} (h : RRVs K mg c rs vs) : rs.length = vs.length := by
  induction rs generalizing vs with
  | nil => rw [show vs = [] from h]; rfl
  | cons r rs ih =>
    obtain ⟨x, t, rfl, h1, h2⟩ := h
    simp [ih h2]
theorem RRVs.go {c c' : Cfg} {rs : List R} {vs : List V} (h : RRVs K mg c rs vs) (g : Go K mg c c') (e : c'.σ = c.σ) : RRVs K mg c' rs vs := by
  induction rs generalizing vs with
  | nil => exact h
  | cons r rs ih =>
    obtain ⟨x, t, rfl, h1, h2⟩ := h
    exact ⟨x, t, rfl, h1.go g e, ih h2⟩
end
/-- a call by keywords binds so: what stands at the places is of each parameter -/
structure KAt (K : PySem.W.Frag) (fd : FuncData) (ps : List Str) (n : Nat) (ks : List Str) (is : List Nat) : Prop where
  to : ∀ (s : Shared) (us ws : List Value), us.length = n → ws.length = ks.length → BindsTo s fd ⟨us, ks.zip ws⟩ (ps.zip (pick is (us ++ ws)))
theorem KAt.kbn {K : PySem.W.Frag} {fd : FuncData} {ps : List Str} {n : Nat} {ks : List Str} {is : List Nat} (h : KAt K fd ps n ks is) : KBn K fd ps n ks (fun us ws => pick is (us ++ ws)) (fun us ws => pick is (us ++ ws)) :=
  ⟨fun s us ws _ l1 l2 => h.to s us ws l1 l2, fun r1 r2 => vals_pick (r1.append r2) is⟩
def wCallK (fs : FS) (is : List Nat) (w wk : WR) : WE := fun ρ Q Ep => w ρ (fun rs ρ1 => wk ρ1 (fun zs ρ2 => toArgs ρ2 (pick is (rs ++ zs)) fun args => ndS (pick is (rs ++ zs)) = true ∧ fs (args ++ ([] : List D).map .val) (fun r args' => Q r (backA (pick is (rs ++ zs)) args' ρ2)) (fun y args' => Ep y (backA (pick is (rs ++ zs)) args' ρ2))) Ep) Ep
/-- keywords' values -/
def PdVk (X : Cx) (XE : XK) (kws : List Keyword) (w : WR) : Prop := ∃ t, PK X kws t ∧ ∀ (c : Cfg) (Qp : List R → Env → Prop) (Ep : Ex → Env → Prop) (Q : List V → Hp → Prop), Ok X.K X.mg c → w c.ρ Qp Ep → XOk X.K X.mg c Ep XE →
  (∀ vs c' rs, Go X.K X.mg c c' → c'.σ = c.σ → RRVs X.K X.mg c' rs vs → rs.length = kws.length → Qp rs c'.ρ → Q vs c'.H) → t c.σ c.H Q
section
variable {X : Cx} {XE : XK} {k : Nat}
theorem go_neg {a : Expr} {wa : WE} {pos : Pos} (ha : PdE X XE a wa) : PdE X XE (.UnaryOp .USub a pos) (wOp1 gNeg wa) := pd_un un_neg op1_neg ha
theorem pvk_nil : PdVk X XE [] wVn := ⟨_, L2.pk_nil, fun c Qp Ep Q ok hw x k => k [] c [] (Go.refl _ _ ok) rfl rfl rfl hw⟩
theorem pvk_cons {nm : Option Str} {e : Expr} {kpos : Pos} {kws : List Keyword} {w : WE} {wr : WR} (h : PdE X XE e w) (hr : PdVk X XE kws wr) : PdVk X XE (⟨nm, e, kpos⟩ :: kws) (wVc w wr) := by
  obtain ⟨t, p, s⟩ := h
  obtain ⟨tr, pr, sr⟩ := hr
  refine ⟨_, L2.pk_cons p pr, fun c Qp Ep Q ok hw x k => ?_⟩
  refine runV (e := e) s ok hw x fun v c1 d g1 e1 r1 h1 => ?_
  rw [← e1]
  refine sr c1 _ _ _ g1.ok h1 (x.go X.K X.mg g1 e1) fun vs c2 ds g2 e2 r2 l2 h2 => ?_
  exact k (v :: vs) c2 (d :: ds) (g1.trans X.K X.mg g2) (e2.trans e1) ⟨v, vs, rfl, r1.go g2 e2, r2⟩ (by simp [l2]) h2
theorem pe_callN0 {CX : CXT} {f : Addr} {fd : FuncData} {ps ks : List Str} {sp : Sp} {E : XK} {x : Str} {p pos : Pos} {kws : List Keyword} {tk : TA} {g : List Value → List Value → List Value} {gV : List V → List V → List V}
    (F : FnOk X.prog X.w X.K X.mg X.base CX k f fd ps sp) (hr : Room k X.A) (hg : Gl X x) (hm : X.mg x = some (.ref f)) (hk : PySem.W.keepIn X.K (.ref f) = true) (hb : KBn X.K fd ps 0 ks g gV) (hx : Passes CX X E)
    (hkw : PK X kws tk) (hall : (backToKw pos (keywordEach kws X.env)).all (·.1.isSome) = true) (hks : (backToKw pos (keywordEach kws X.env)).filterMap (·.1) = ks)
    (hdb : (x == ("__debug__" : Str)) = false) (hpl : ((backTo pos (starEach [] X.env)).any (·.1) || (backToKw pos (keywordEach kws X.env)).any (·.1.isNone)) = false) :
    PE X (.Call (.Name x p) [] kws pos) (tCallN 0 ks.length sp gV E tNil tk) := by
  refine ⟨fun pins s σ H Q I h => ?_⟩
  refine wpAny_Call_Name_kw (ld_glob I hg hm ?_ hdb)
  refine PySem.W.callWith_KW0 (h₀ := X.base) I.ok.mod.kin hk hall ?_ hpl
  refine thn (hkw.run pos pins s σ H _ I h) fun ws s2 ⟨zs, H2, I2, rz, l1, l2, q2⟩ => ⟨I2.kIn, ?_⟩
  rw [hks]
  exact run_fnN (us := []) (vs := []) F hr hb hx I2 .nil rz rfl l2 q2
theorem callK_core {j : Nat} {f : Addr} {fs : FS} {ps ks : List Str} {n : Nat} {is : List Nat} {es : List Expr} {kws : List Keyword} {w wk : WR} {t tk : TA}
    (s : ∀ (c : Cfg) (Qp : List R → Env → Prop) (Ep : Ex → Env → Prop) (Q : List V → Hp → Prop), Ok X.K X.mg c → w c.ρ Qp Ep → XOk X.K X.mg c Ep XE → (∀ vs c' rs, Go X.K X.mg c c' → c'.σ = c.σ → RRVs X.K X.mg c' rs vs → rs.length = es.length → Qp rs c'.ρ → Q vs c'.H) → t c.σ c.H Q)
    (sk : ∀ (c : Cfg) (Qp : List R → Env → Prop) (Ep : Ex → Env → Prop) (Q : List V → Hp → Prop), Ok X.K X.mg c → wk c.ρ Qp Ep → XOk X.K X.mg c Ep XE → (∀ vs c' rs, Go X.K X.mg c c' → c'.σ = c.σ → RRVs X.K X.mg c' rs vs → rs.length = kws.length → Qp rs c'.ρ → Q vs c'.H) → tk c.σ c.H Q)
    (hn : es.length = n) (hks : kws.length = ks.length) (hl : (pick is (List.range (es.length + kws.length))).length = ps.length) :
    SoE X XE (tCallN n ks.length (spOf X.K X.mg fs ps.length) (fun us ws => pick is (us ++ ws)) XE t tk) (wCallK fs is w wk) := by
  intro c Qp Ep Q ok hw x k
  refine s c _ Ep _ ok hw x fun vs c1 rs g1 e1 r1 l1 h1 => ?_
  rw [← e1]
  refine sk c1 _ Ep _ g1.ok h1 (x.go X.K X.mg g1 e1) fun zs c2 qs g2 e2 r2 l2 h2 => ?_
  have g12 := g1.trans X.K X.mg g2
  have rr1 := RRVs.go r1 g2 e2
  have pk : ∀ {α : Type} (xs : List α), xs.length = es.length + kws.length → (pick is xs).length = ps.length := fun {α} xs hx => by
    rw [← hl]
    have aux : ∀ js : List Nat, (pick js xs).length = (pick js (List.range (es.length + kws.length))).length := by
      intro js
      induction js with
      | nil => rfl
      | cons j js ih =>
        unfold pick
        by_cases hj : j < es.length + kws.length
        · rw [List.getElem?_eq_getElem (by omega), List.getElem?_eq_getElem (by simpa using hj)]
          simp [ih]
        · rw [List.getElem?_eq_none (by omega), List.getElem?_eq_none (by simpa using hj)]
          exact ih
    exact aux is
  refine ⟨by rw [← rr1.len, l1, hn], by rw [← r2.len, l2, hks], ?_⟩
  have := call_core (dvs := []) (dds := []) g2.ok (RRVs.pick (RRVs.app rr1 r2) is) (fun _ => rfl) (n := ps.length) (by rw [pk (rs ++ qs) (by rw [List.length_append, l1, l2])]; rfl) h2 (x.go X.K X.mg g12 (e2.trans e1)) fun v c3 r g3 e3 rr q => k v c3 r (g12.trans X.K X.mg g3) (e3.trans (e2.trans e1)) (rr_go g12 rr) q
  rw [List.append_nil] at this
  exact this
/-- f(e, .., k = v, ..) -/
theorem pd_callK {j n : Nat} {x : Str} {f : Addr} {fd : FuncData} {ps ks : List Str} {p pos : Pos} {e : Expr} {es : List Expr} {kws : List Keyword} {is : List Nat} {fs : FS} {w wk : WR} (C : Cc X XE k) (D : DfAt X.prog X.w X.K X.mg X.base x f fd ps j fs) (hj : j ≤ k) (hb : KAt X.K fd ps n ks is) (ha : PdV X XE (e :: es) w) (hkw : PdVk X XE kws wk)
    (hn : (e :: es).length = n := by rfl) (hlk : kws.length = ks.length := by rfl) (hl : (pick is (List.range ((e :: es).length + kws.length))).length = ps.length := by rfl) (gl : Gl X x := by rfl)
    (hall : (backToKw pos (keywordEach kws X.env)).all (·.1.isSome) = true := by rfl) (hks : (backToKw pos (keywordEach kws X.env)).filterMap (·.1) = ks := by rfl)
    (hdb : (x == ("__debug__" : Str)) = false := by decide) (he : starEach (e :: es) X.env = (false, eval e X.env) :: starEach es X.env := by rfl)
    (hpl : ((backTo pos (starEach (e :: es) X.env)).any (·.1) || (backToKw pos (keywordEach kws X.env)).any (·.1.isNone)) = false := by rfl) : PdE X XE (.Call (.Name x p) (e :: es) kws pos) (wCallK fs is w wk) := by
  obtain ⟨t, pa, s⟩ := ha
  obtain ⟨tk, pk, sk⟩ := hkw
  exact ⟨_, pe_callN (E := XE) D.fn (C.room.mono hj) gl D.mx D.kp hb.kbn C.pas pa pk hall hks hdb he hpl, callK_core (j := j) (f := f) s sk hn hlk hl⟩
theorem pd_callK0 {j : Nat} {x : Str} {f : Addr} {fd : FuncData} {ps ks : List Str} {p pos : Pos} {kws : List Keyword} {is : List Nat} {fs : FS} {wk : WR} (C : Cc X XE k) (D : DfAt X.prog X.w X.K X.mg X.base x f fd ps j fs) (hj : j ≤ k) (hb : KAt X.K fd ps 0 ks is) (hkw : PdVk X XE kws wk)
    (hlk : kws.length = ks.length := by rfl) (hl : (pick is (List.range (([] : List Expr).length + kws.length))).length = ps.length := by rfl) (gl : Gl X x := by rfl)
    (hall : (backToKw pos (keywordEach kws X.env)).all (·.1.isSome) = true := by rfl) (hks : (backToKw pos (keywordEach kws X.env)).filterMap (·.1) = ks := by rfl)
    (hdb : (x == ("__debug__" : Str)) = false := by decide) (hpl : ((backTo pos (starEach [] X.env)).any (·.1) || (backToKw pos (keywordEach kws X.env)).any (·.1.isNone)) = false := by rfl) : PdE X XE (.Call (.Name x p) [] kws pos) (wCallK fs is wVn wk) := by
  obtain ⟨tk, pk, sk⟩ := hkw
  exact ⟨_, pe_callN0 (E := XE) D.fn (C.room.mono hj) gl D.mx D.kp hb.kbn C.pas pk hall hks hdb hpl, callK_core (j := j) (f := f) (es := []) (fun c Qp Ep Q ok hw x k => k [] c [] (Go.refl _ _ ok) rfl rfl rfl hw) sk rfl hlk hl⟩
/-! ### properties -/
/-- a property as its users know it -/
structure PrAt (P : Program) (w : World) (K : PySem.W.Frag) (mg : Str → Option Value) (base : Heap) (C : Addr) (m : Str) (p f : Addr) (fd : FuncData) (ps : List Str) (j : Nat) (fs : FS) : Prop where
  fn : FnOk P w K mg base (L2.CX P w) j f fd ps (spOf K mg fs ps.length)
  pr : PropOf K C m p f
  bd : Binds K fd ps []
def wProp (cn : Str) (fs : FS) (wo : WE) : WE := fun ρ Q Ep => wV wo ρ (fun r0 ρ0 => pk1 ρ0 r0 fun d0 => (match d0 with
  | .obj c _ _ => c = cn
  | _ => False) ∧ toArgs ρ0 [r0] fun args => ndS [r0] = true ∧ fs (args ++ ([] : List D).map .val) (fun r args' => Q r (backA [r0] args' ρ0)) (fun _ _ => False)) Ep
theorem go_prop {j : Nat} {cn m : Str} {o : Expr} {pos : Pos} {Cl p f : Addr} {fd : FuncData} {ps flds : List Str} {fs : FS} {wo : WE} (C : Cc X XE k) (cl : ClAt X.K X.mg cn Cl flds) (M : PrAt X.prog X.w X.K X.mg X.base Cl m p f fd ps j fs) (hj : j + 1 ≤ k) (ho : PdE X XE o wo) (hl : 1 = ps.length := by rfl)
    (hab : attributeBase o m X.env (eval o X.env) = eval o X.env := by rfl) : PdE X XE (.Attribute o m pos) (wProp cn fs wo) := by
  obtain ⟨ta, po, so⟩ := ho
  refine ⟨_, pe_prop (E := E0) po cl.cl M.pr M.fn (C.room.mono hj) M.bd .nil passL hab, fun c Qp Ep Q ok hw x k => ?_⟩
  refine runV (e := o) so ok hw x fun v0 c0 r0 g0 e0 rr0 h0 => ?_
  obtain ⟨d0, hd0, h0, hw2⟩ := pk1_of h0
  have see := rr0.see g0.ok hd0
  cases d0 with
  | obj cc fn dd =>
    obtain ⟨a, C', dx, gs, rfl, hc, ha, hg, _⟩ := see.obj g0.ok.sub
    obtain rfl := h0
    rw [cl.mc] at hc; cases hc
    refine ⟨a, dx, gs, rfl, ha, ?_⟩
    exact call_core (rs := [r0]) (vs := [V.ref a]) (dvs := []) (dds := []) g0.ok ⟨V.ref a, [], rfl, rr0, rfl⟩ (fun _ => rfl) (by rw [← hl]; rfl) hw2 (XOk.none X.K X.mg) fun v c2 r g2 e2 rr q => k v c2 r (g0.trans X.K X.mg g2) (e2.trans e0) (rr_go g0 rr) q
  | _ => exact h0.elim
end
end PL
/-! PX8: l.pop(i), l.clear(); a dict of one written pair; a module's constants of any form. -/
namespace PL
open PySem PySem.Spec PyProof.Rows L2
variable [HasT]
def wPopAt (i : Nat) (w : WE) : WE := fun ρ Q Ep => (match ρ[i]? with
  | some (some (.own _ (.lst _))) => True
  | _ => False) ∧ wK w ρ (fun d ρ1 => match ρ1[i]?, d with
  | some (some (.own b (.lst ds))), .int j => 0 ≤ j ∧ j < 9223372036854775808 ∧ match ds[j.toNat]? with
    | some y => Q (.val y) (ρ1.set i (some (.own b (.lst (ds.eraseIdx j.toNat)))))
    | none => False
  | _, _ => False) Ep
def wClear (i : Nat) : WE := fun ρ Q _ => match ρ[i]? with
  | some (some (.own b (.lst _))) => Q (.val .non) (ρ.set i (some (.own b (.lst []))))
  | _ => False
def wDic1 (wk wv : WE) : WE := fun ρ Q Ep => wK wk ρ (fun y ρ1 => wK wv ρ1 (fun z ρ2 => match keyD y with
  | some q => Q (.tmp (.dic [q] [z])) ρ2
  | none => False) Ep) Ep
section
variable {X : Cx} {XE : XK} {k : Nat}
theorem pd_popAt {i : Nat} {x : Str} {e : Expr} {p apos cpos : Pos} {w : WE} (hx : PE X (.Name x p) (tVar i)) (h : PdE X XE e w)
    (hbase : attributeBase (.Name x p) "pop" X.env (eval (.Name x p) X.env) = eval (.Name x p) X.env := by rfl)
    (hfew : ((backTo cpos (starEach [e] X.env)).all (fun x => !x.1) && (backToKw cpos (keywordEach [] X.env)).all (fun x => x.1.isSome)
      && decide ([e].length + ([] : List Keyword).length + (if ([] : List Keyword).isEmpty then 0 else 1) < 30)) = true := by rfl)
    (hline : (apos.endLine == cpos.line) = true := by rfl) (hs : starEach [e] X.env = (false, eval e X.env) :: starEach [] X.env := by rfl) (hplain : (backTo cpos (starEach [] X.env)).any (·.1) = false := by rfl) :
    PdE X XE (.Call (.Attribute (.Name x p) "pop" apos) [e] [] cpos) (wPopAt i w) := by
  obtain ⟨t, pe, s⟩ := h
  refine ⟨_, pe_bm PySem.F.plainAttrs_list PySem.F.slot_list_pop PySem.F.type_list_pop mt_popAt hx (pa_cons pe pa_nil hs) hbase hfew hline hs hplain, fun c Qp Ep Q ok hw x k => ?_⟩
  obtain ⟨h0, hw⟩ := hw
  obtain ⟨a0, xs0, hv0, ha0⟩ := own_list ok h0
  refine ⟨.ref a0, hv0, .inl ⟨rfl, xs0, SqL.of ha0⟩, ?_⟩
  refine runK (e := e) s ok hw x fun v c1 d g1 e1 r1 h1 => ?_
  split at h1
  next b ds j hρ =>
    obtain ⟨hj0, hj1, h1⟩ := h1
    obtain ⟨v1, hv1, a, xs, rfl, hft, ha, ra⟩ := g1.ok.own hρ
    rw [e1] at hv1
    rw [hv0] at hv1; cases hv1
    split at h1
    next y hy =>
      obtain ⟨u, hu, ru⟩ := ra.get X.K X.mg hy
      have hlt : j.toNat < xs.length := (List.getElem?_eq_some_iff.mp hu).1
      obtain rfl : v = V.int j := r1
      have up := upd_ft (H := c1.H) (o := .lst (xs.eraseIdx j.toNat)) hft
      refine ⟨a0, xs, j, j.toNat, u, rfl, rfl, ha, by omega, hj1, ?_, hu, ?_⟩
      · unfold seqIndex?
        rw [if_neg (show ¬ j < 0 by omega)]
        have : (decide (0 ≤ j) && decide (j < (xs.length : Int))) = true := by
          rw [Bool.and_eq_true]
          exact ⟨decide_eq_true hj0, decide_eq_true (by omega)⟩
        rw [if_pos this]
      · have g2 := write_slot (H' := upd c1.H a0 (.lst (xs.eraseIdx j.toNat))) (d' := .lst (ds.eraseIdx j.toNat)) g1.ok hρ (by rw [e1]; exact hv0) ⟨a0, _, rfl, hft, upd_same, ra.erase X.K X.mg _⟩ up.1 up.2
        exact k _ { c1 with H := upd c1.H a0 (.lst (xs.eraseIdx j.toNat)), ρ := c1.ρ.set i (some (.own b (.lst (ds.eraseIdx j.toNat)))) } (.val y) (g1.trans X.K X.mg g2) e1 ru h1
    next => exact h1.elim
  next => exact h1.elim
theorem pd_clear {i : Nat} {x : Str} {p apos cpos : Pos} (hx : PE X (.Name x p) (tVar i))
    (hbase : attributeBase (.Name x p) "clear" X.env (eval (.Name x p) X.env) = eval (.Name x p) X.env := by rfl)
    (hline : (apos.endLine == cpos.line) = true := by rfl) : PdE X XE (.Call (.Attribute (.Name x p) "clear" apos) [] [] cpos) (wClear i) := by
  refine ⟨_, pe_bm0 PySem.F.plainAttrs_list PySem.F.slot_list_clear PySem.F.type_list_clear mt_clear hx hbase hline, fun c Qp Ep Q ok hw x k => ?_⟩
  unfold wClear at hw
  split at hw
  next b ds hρ =>
    obtain ⟨v1, hv1, a, xs, rfl, hft, ha, ra⟩ := ok.own hρ
    have up := upd_ft (H := c.H) (o := .lst []) hft
    refine ⟨.ref a, hv1, .inl ⟨rfl, xs, SqL.of ha⟩, a, xs, rfl, rfl, ha, ?_⟩
    have g2 := write_slot (H' := upd c.H a (.lst [])) (d' := .lst []) ok hρ hv1 ⟨a, _, rfl, hft, upd_same, rfl⟩ up.1 up.2
    exact k _ { c with H := upd c.H a (.lst []), ρ := c.ρ.set i (some (.own b (.lst []))) } (.val .non) g2 rfl rfl hw
  next => exact hw.elim
theorem pd_disp1 {pos : Pos} {kx vx : Expr} {wk wv : WE} (hk : PdE X XE kx wk) (hv : PdE X XE vx wv) : PdE X XE (.Dict [some kx] [vx] pos) (wDic1 wk wv) := by
  obtain ⟨tk, pk, sk⟩ := hk
  obtain ⟨tv, pv, sv⟩ := hv
  refine ⟨_, pe_disp (pps_cons pk pv pps_nil) rfl rfl (by simp) (by show (1 : Nat) ≤ 15; decide), fun c Qp Ep Q ok hw x k => ?_⟩
  intro A hA
  have fA : c.F A = none := fresh_F ok.sub hA
  have nfp : ∀ i, A ∉ c.fp i := fun i z => (ok.out i A z).2 hA
  have g0 : Go X.K X.mg c { c with H := upd c.H A (.dK []) } := list_go (Go.refl _ _ ok) hA fA nfp (pl_none hA)
  show tk c.σ (upd c.H A (.dK [])) _
  refine runK (e := kx) (c := { c with H := upd c.H A (.dK []) }) sk g0.ok hw (x.go X.K X.mg g0 rfl) fun y c1 dy g1 e1 r1 h1 => ?_
  show tv c.σ c1.H _
  have g01 := g0.trans X.K X.mg g1
  rw [show c.σ = c1.σ from e1.symm]
  refine runK (e := vx) sv g1.ok h1 (x.go X.K X.mg g01 e1) fun z c2 dz g2 e2 r2 h2 => ?_
  have g12 := g1.trans X.K X.mg g2
  have g02 := g0.trans X.K X.mg g12
  have nA : upd c.H A (.dK []) A ≠ none := by rw [upd_same]; simp
  obtain ⟨k1, k2⟩ := g12.fr.keep A fA nA nfp (nt_of upd_same True.intro)
  have hA2 : c2.H A = some (.dK []) := by rw [k2]; exact upd_same
  have nf2 : ∀ i, A ∉ c2.fp i := fun i z => by
    rcases g12.orig i A z with ⟨j, hj⟩ | e
    · exact nfp j hj
    · exact nA e
  cases hq : keyD dy with
  | none => rw [hq] at h2; exact h2.elim
  | some q =>
    rw [hq] at h2
    have yk := key_rep (.inl r1 : See X.K X.mg c1.F c1.H dy y) hq
    refine ⟨hA2, [(q, z)], by rw [yk]; rfl, by simp, ?_⟩
    have g3 := list_go (A := A) (o := .dK [(q, z)]) g02 hA k1 nf2 (pl_some hA2 True.intro)
    refine k _ { c2 with H := upd c2.H A (.dK [(q, z)]) } (.tmp (.dic [q] [dz])) g3 (e2.trans e1) ⟨[A], ⟨A, _, rfl, rfl, upd_same, rfl, ⟨z, [], rfl, r2, rfl⟩⟩, fun b hb => ?_⟩ h2
    have eb : b = A := by simpa using hb
    subst eb
    exact ⟨k1, by show upd c2.H b _ b ≠ none; rw [upd_same]; simp, hA, nf2⟩
theorem go_gcR {x : Str} {d : D} {pos : Pos} (h : ∃ v u, X.mg x = some u ∧ RelV v u ∧ ∀ F, Rep X.K X.mg F d v) (gl : Gl X x := by rfl) (hd : (x == ("__debug__" : Str)) = false := by decide) : PdE X XE (.Name x pos) (wC d) := by
  obtain ⟨v, u, hm, ru, r⟩ := h
  exact go_gc ⟨u, hm, ru⟩ r gl hd
end
end PL
/-! PX9: d.get(k, x); {}; a keyword's value kept. -/
namespace PL
open PySem PySem.Spec PyProof.Rows L2
variable [HasT]
def wDic0 : WE := fun ρ Q _ => Q (.tmp (.dic [] [])) ρ
/-- d.get(k, x) -/
def wDGet2 (wo wk wx : WE) : WE := fun ρ Q Ep => wV wo ρ (fun r0 ρ0 => pk1 ρ0 r0 fun d0 => (match d0 with
  | .dic _ _ => True
  | _ => False) ∧ wK wk ρ0 (fun y ρ1 => wK wx ρ1 (fun z ρ2 => pk1 ρ2 r0 fun d => match d, keyD y with
    | .dic ks ds, some q => Q (.val ((lookD ks ds q).getD z)) ρ2
    | _, _ => False) Ep) Ep) Ep
section
variable {K : PySem.W.Frag} {mg : Str → Option Value}
theorem look_none {F : Hp} {q : Key} : ∀ {ks : List Key} {ds : List D} {kvs : List (Key × V)}, kvs.map (·.1) = ks → RepL K mg F ds (kvs.map (·.2)) → lookD ks ds q = none → valV kvs q = none
  | [], _, kvs, h, _, _ => by
    have : kvs = [] := by simpa using h
    subst this; rfl
  | k :: ks, [], kvs, h, r, _ => by
    have : kvs.map (·.2) = [] := r
    have : kvs = [] := by simpa using this
    subst this; simp at h
  | k :: ks, d0 :: ds, [], h, _, _ => by simp at h
  | k :: ks, d0 :: ds, kv :: kvs, h, r, e => by
    simp at h
    obtain ⟨x, t, e1, r1, r2⟩ := r
    simp at e1
    unfold lookD at e
    by_cases hq : k = q
    · rw [if_pos hq] at e; cases e
    · rw [if_neg hq] at e
      rw [valV_neg (by rw [h.1]; exact hq)]
      exact look_none h.2 (by rw [e1.2]; exact r2) e
end
section
variable {X : Cx} {XE : XK} {k : Nat}
theorem pd_disp0 {pos : Pos} : PdE X XE (.Dict [] [] pos) wDic0 := by
  refine ⟨_, pe_dnewK, fun c Qp Ep Q ok hw x k => ?_⟩
  intro p hp
  have st := Step.new (o := .dK []) ok.sub hp
  exact k (.ref p) { c with H := upd c.H p (.dK []) } (.tmp (.dic [] [])) (st.go ok) rfl (newR_rr (Go.refl _ _ ok) st (new_dic hp ok.sub rfl rfl)) hw
theorem pvk_consK {nm : Option Str} {e : Expr} {kpos : Pos} {kws : List Keyword} {w : WE} {wr : WR} (h : PdE X XE e w) (hr : PdVk X XE kws wr) : PdVk X XE (⟨nm, e, kpos⟩ :: kws) (wVk w wr) := by
  obtain ⟨t, p, s⟩ := h
  obtain ⟨tr, pr, sr⟩ := hr
  refine ⟨_, L2.pk_cons p pr, fun c Qp Ep Q ok hw x k => ?_⟩
  refine runK (e := e) s ok hw x fun v c1 d g1 e1 r1 h1 => ?_
  rw [← e1]
  refine sr c1 _ _ _ g1.ok h1 (x.go X.K X.mg g1 e1) fun vs c2 ds g2 e2 r2 l2 h2 => ?_
  exact k (v :: vs) c2 (.val d :: ds) (g1.trans X.K X.mg g2) (e2.trans e1) ⟨v, vs, rfl, r1.mono X.K X.mg g2.fr.mono _ _, r2⟩ (by simp [l2]) h2
theorem pd_dget2 {o e f : Expr} {apos cpos : Pos} {wo wk wx : WE} (C : Cc X XE k) (ho : PdE X XE o wo) (hk : PdE X XE e wk) (hx : PdE X XE f wx) (m : M2 X o "get" apos e f cpos := by exact ⟨rfl, rfl, rfl, rfl⟩) : PdE X XE (.Call (.Attribute o "get" apos) [e, f] [] cpos) (wDGet2 wo wk wx) := by
  obtain ⟨to, po, so⟩ := ho
  obtain ⟨tk, pk, sk⟩ := hk
  obtain ⟨tx, px, sx⟩ := hx
  refine ⟨_, pe_dget2 (by have := C.u65; omega) po pk px m, fun c Qp Ep Q ok hw x k => ?_⟩
  refine runV (e := o) so ok hw x fun v0 c0 r0 g0 e0 rr0 h0 => ?_
  obtain ⟨d0, hd0, h0, hw2⟩ := pk1_of h0
  cases d0 with
  | dic ks0 ds0 =>
    obtain ⟨a, kvs0, rfl, hr0, _, _⟩ := (rr0.see g0.ok hd0).dic g0.ok.sub
    refine ⟨a, rfl, .inl ⟨kvs0, hr0⟩, ?_⟩
    rw [← e0]
    refine runK (e := e) sk g0.ok hw2 (x.go X.K X.mg g0 e0) fun y c1 dy g1 e1 r1 h1 => ?_
    rw [← e1]
    have g01 := g0.trans X.K X.mg g1
    refine runK (e := f) sx g1.ok h1 (x.go X.K X.mg g01 (e1.trans e0)) fun z c2 dz g2 e2 r2 h2 => ?_
    have g02 := g01.trans X.K X.mg g2
    have rr2 := (rr0.go g1 e1).go g2 e2
    obtain ⟨d, hd, h2⟩ := pk1_of h2
    split at h2
    next ks ds q hq =>
      obtain ⟨a', kvs, ea, hr, hm, rp⟩ := (rr2.see g2.ok hd).dic g2.ok.sub
      cases ea
      have yk : y = L2.kV q := key_rep (.inl r1 : See X.K X.mg c1.F c1.H dy y) hq
      refine ⟨valV kvs q, .inl ⟨kvs, q, hr, yk, rfl⟩, ?_⟩
      cases hl : lookD ks ds q with
      | none =>
        rw [look_none hm rp hl]
        rw [hl] at h2
        exact k z c2 (.val dz) g02 (e2.trans (e1.trans e0)) r2 h2
      | some d' =>
        obtain ⟨w, hw', rw'⟩ := look_rep hm rp hl
        rw [hw']
        rw [hl] at h2
        exact k w c2 (.val d') g02 (e2.trans (e1.trans e0)) rw' h2
    next => exact h2.elim
  | _ => exact h0.elim
end
end PL
/-! PX10: dicts whose keys are tuples of ints and texts: d[k], k in d, d[a, b] = v, {}. -/
namespace PL
open PySem PySem.Spec PyProof.Rows L2
variable [HasT]
section
variable {X : Cx} {pins : List (Addr × Obj)} {σ : L2.St} {H : Hp} {s : Shared} {a : Addr} {y v : V} {u r : Value} {o : Option V} {A : Around} {E : Value → Shared → Prop}
theorem key_sqT {b : Addr} {k : List Key} (I : Inv X pins σ H s) (e : SqT X.K H b (k.map L2.kV)) : (tupleKind (mixKind X.prog X.w)).is s.heap k b := by
  obtain ⟨its, r, ⟨o, h1, h2, n, h3⟩, hz⟩ := I.tuple e
  exact ⟨o, its.toArray, n, h1, h2, h3, by simpa using items_are r⟩
/-- what a tuple-keyed dict holds at y -/
def TGet (K : PySem.W.Frag) (H : Hp) (a : Addr) (y : V) (r : Option V) : Prop := ∃ kvs k b, Rd H a (.dT kvs) ∧ y = .ref b ∧ SqT K H b (k.map L2.kV) ∧ r = valV kvs k
theorem t_getItem {Q : Value → Shared → Prop} (hu : A.units + 1 < cLine) (I : Inv X pins σ H s) (g : TGet X.K H a y (some v)) (ry : RelV y u) (h : ∀ w' s', Inv X pins σ H s' → RelV v w' → Q w' s') :
    wpAny (model X.prog X.w) A (getItem (.ref a) u) Q E s := by
  obtain ⟨kvs, k, b, e, ey, eb, l⟩ := g
  subst ey
  cases (show u = Value.ref b from ry)
  obtain ⟨z, hd, xs, rel, dd⟩ := dt_rd I.hok e
  obtain ⟨w', hw, rw'⟩ := RelO.some_of (v := v) (o := (atKey xs k).map (·.2)) (by rw [l]; exact rel.val k)
  obtain ⟨p, hp, hp2⟩ := Option.map_eq_some_iff.mp hw
  refine wpAny_getItem_heap (tupleKind_room_in1 hu) (key_sqT I eb) dd hp ?_
  rw [hp2]
  exact h w' _ (I.tok _) rw'
theorem t_in {Q : Value → Shared → Prop} (hu : A.units + 1 < cLine) (I : Inv X pins σ H s) (g : TGet X.K H a y o) (ry : RelV y u) (h : ∀ s', Inv X pins σ H s' → Q (.bool o.isSome) s') :
    wpAny (model X.prog X.w) A (compareOp .In u (.ref a)) Q E s := by
  obtain ⟨kvs, k, b, e, ey, eb, l⟩ := g
  subst ey
  cases (show u = Value.ref b from ry)
  obtain ⟨z, hd, xs, rel, dd⟩ := dt_rd I.hok e
  refine wpAny_in_heap (tupleKind_room_in1 hu) (key_sqT I eb) hd dd ?_
  have q := (rel.val k).isSome_eq
  rw [Option.isSome_map] at q
  rw [← q, ← l]
  exact h _ (I.tok _)
end
def tTGet (K : PySem.W.Frag) (td ty : TE) : TE := fun σ H Q => td σ H fun x H1 => ty σ H1 fun y H2 => ∃ a v, x = .ref a ∧ TGet K H2 a y (some v) ∧ Q v H2
def rTGet (K : PySem.W.Frag) : R2 := fun x y H Q => ∃ a v, x = .ref a ∧ TGet K H a y (some v) ∧ Q v H
/-- the key that a tuple is -/
def keysD : List D → Option (List Key)
  | [] => some []
  | d :: ds => (keyD d).bind fun k => (keysD ds).map fun r => k :: r
def lookT : List (List Key) → List D → List Key → Option D
  | k :: ks, d :: ds, q => if k = q then some d else lookT ks ds q
  | _, _, _ => none
section
variable {K : PySem.W.Frag} {mg : Str → Option Value}
theorem keys_rep {F : Hp} : ∀ {ds : List D} {xs : List V} {k : List Key}, RepL K mg F ds xs → keysD ds = some k → xs = k.map L2.kV
  | [], _, _, h, e => by cases e; rw [show _ = [] from h]; rfl
  | d :: ds, _, k, h, e => by
    obtain ⟨x, r, rfl, h1, h2⟩ := h
    unfold keysD at e
    cases q1 : keyD d with
    | none => rw [q1] at e; cases e
    | some k1 =>
      cases q2 : keysD ds with
      | none => rw [q1, q2] at e; cases e
      | some k2 =>
        rw [q1, q2] at e
        cases e
        have := key_rep (H := F) (.inl h1 : See K mg F F d x) q1
        rw [this, keys_rep h2 q2]
        rfl
theorem lookT_rep {F : Hp} {q : List Key} {d : D} : ∀ {ks : List (List Key)} {ds : List D} {kvs : List (List Key × V)}, kvs.map (·.1) = ks → RepL K mg F ds (kvs.map (·.2)) → lookT ks ds q = some d → ∃ v, valV kvs q = some v ∧ Rep K mg F d v
  | [], _, _, _, _, e => by simp [lookT] at e
  | _ :: _, [], _, _, _, e => by simp [lookT] at e
  | k :: ks, d0 :: ds, [], h, _, _ => by simp at h
  | k :: ks, d0 :: ds, kv :: kvs, h, r, e => by
    simp at h
    obtain ⟨x, t, e1, r1, r2⟩ := r
    simp at e1
    unfold lookT at e
    by_cases hq : k = q
    · rw [if_pos hq] at e; cases e
      exact ⟨kv.2, valV_pos (h.1.trans hq), by rw [e1.1]; exact r1⟩
    · rw [if_neg hq] at e
      obtain ⟨v, hv, rv⟩ := lookT_rep h.2 (by rw [e1.2]; exact r2) e
      exact ⟨v, by rw [valV_neg (by rw [h.1]; exact hq)]; exact hv, rv⟩
theorem See.dit {F H : Hp} {ks : List (List Key)} {ds : List D} {v : V} (h : See K mg F H (.dit ks ds) v) (s : Mono F H) : ∃ a kvs, v = .ref a ∧ Rd H a (.dT kvs) ∧ kvs.map (·.1) = ks ∧ RepL K mg F ds (kvs.map (·.2)) := by
  rcases h with ⟨a, kvs, e, h1, h2, h3⟩ | ⟨ft, a, kvs, e, _, h1, h2, h3⟩
  · exact ⟨a, kvs, e, s.rd h1, h2, h3⟩
  · exact ⟨a, kvs, e, .inl h1, h2, h3⟩
def gTGet : G2 := fun d e Q => match d, e with
  | .dit ks ds, .tup es => match keysD es with
    | some k => match lookT ks ds k with
      | some x => Q (.val x)
      | none => False
    | none => False
  | _, _ => False
theorem op2_tget : Op2 K mg (rTGet K) gTGet := by
  intro F H d e v u Qg Q s h1 h2 hg k
  unfold gTGet at hg
  split at hg
  next d ks ds es =>
    split at hg
    next q hq =>
      split at hg
      next x hx =>
        obtain ⟨a, kvs, rfl, hr, hm, rp⟩ := h1.dit s
        obtain ⟨b, ys, rfl, hb, rb⟩ := h2.tup
        obtain rfl := keys_rep rb hq
        obtain ⟨w, hw, rw'⟩ := lookT_rep hm rp hx
        exact ⟨a, w, rfl, ⟨kvs, q, b, hr, rfl, s.sqT K hb, hw.symm⟩, fin_val s k rw' hg⟩
      next => exact hg.elim
    next => exact hg.elim
  next => exact hg.elim
end
section
variable {X : Cx} {XE : XK} {k : Nat}
theorem pe_tget {o i : Expr} {td ty : TE} {pos : Pos} (hu : X.A.units + 1 < cLine) (ho : PE X o td) (hi : PE X i ty) (hs : NoSl i) : PE X (.Subscript o i pos) (tTGet X.K td ty) := by
  refine ⟨fun pins s σ H Q I h => ?_⟩
  refine subD_of PySem.F.slot_dict_getitem.lookup hs (thn (ho.run pins s σ H _ I h) fun u s1 ⟨x, H1, I1, rx, q1⟩ => thn (hi.run pins s1 σ H1 _ I1 q1) fun iv s2 ⟨y, H2, I2, ry, a, v, ex, g, q2⟩ => ?_)
  subst ex
  obtain rfl : u = Value.ref a := rx
  obtain ⟨kvs, k', b, e, ey, eb, l⟩ := id g
  obtain ⟨z, hd, xs, rel, dd⟩ := dt_rd I2.hok e
  exact ⟨dd.typeIs, t_getItem hu I2 g ry fun w' s3 I3 rw' => ⟨v, H2, I3, rw', q2⟩⟩
theorem go_tget (C : Cc X XE k) {a b : Expr} {wa wb : WE} {pos : Pos} (ha : PdE X XE a wa) (hb : PdE X XE b wb) (hs : NoSl b := by exact fun _ _ => rfl) : PdE X XE (.Subscript a b pos) (wOp2 gTGet wa wb) := by
  obtain ⟨ta, pa, sa⟩ := ha
  obtain ⟨tb, pb, sb⟩ := hb
  exact ⟨_, pe_tget (by have := C.u65; omega) pa pb hs, op2_run (r := rTGet X.K) (a := a) (b := b) op2_tget sa sb⟩
end
end PL
/-! PX11: tuple-keyed dicts written: {}, d[a, b] = v, d.get((a, b), x). -/
namespace PL
open PySem PySem.Spec PyProof.Rows L2
variable [HasT]
def putTs (ks : List (List Key)) (q : List Key) : List (List Key) := if (ks.any fun k => decide (k = q)) = true then ks else ks ++ [q]
def putTd (ks : List (List Key)) (ds : List D) (q : List Key) (d : D) : List D := if (ks.any fun k => decide (k = q)) = true then (ks.zip ds).map (fun p => if p.1 = q then d else p.2) else ds ++ [d]
section
variable {K : PySem.W.Frag} {mg : Str → Option Value}
theorem putT_in {F : Hp} {q : List Key} {d : D} {v : V} (r : Rep K mg F d v) : ∀ {kvs : List (List Key × V)} {ks : List (List Key)} {ds : List D}, kvs.map (·.1) = ks → RepL K mg F ds (kvs.map (·.2)) →
    (kvs.map (fun kv => if kv.1 = q then (kv.1, v) else kv)).map (·.1) = ks ∧ RepL K mg F ((ks.zip ds).map (fun p => if p.1 = q then d else p.2)) ((kvs.map (fun kv => if kv.1 = q then (kv.1, v) else kv)).map (·.2))
  | [], _, ds, h, rl => by
    subst h
    exact ⟨rfl, rfl⟩
  | kv :: kvs, _, [], h, rl => by
    exact absurd (show (kv :: kvs).map (·.2) = [] from rl) (by simp)
  | kv :: kvs, _, d0 :: ds, h, rl => by
    subst h
    obtain ⟨x, t, e1, r1, r2⟩ := rl
    rw [List.map_cons] at e1
    injection e1 with e1 e2
    obtain ⟨h1, h2⟩ := putT_in r (kvs := kvs) (ds := ds) rfl (by rw [e2]; exact r2)
    simp only [List.map_cons, List.zip_cons_cons]
    by_cases hq : kv.1 = q
    · simp only [hq, if_true]
      exact ⟨by rw [h1], v, _, rfl, r, h2⟩
    · simp only [hq, if_false]
      exact ⟨by rw [h1], kv.2, _, rfl, by rw [e1]; exact r1, h2⟩
theorem putT_rep {F : Hp} {q : List Key} {d : D} {v : V} {kvs : List (List Key × V)} {ks : List (List Key)} {ds : List D} (h : kvs.map (·.1) = ks) (rl : RepL K mg F ds (kvs.map (·.2))) (r : Rep K mg F d v) :
    (putK kvs q v).map (·.1) = putTs ks q ∧ RepL K mg F (putTd ks ds q d) ((putK kvs q v).map (·.2)) := by
  have e : (kvs.any fun kv => decide (kv.1 = q)) = ks.any fun k => decide (k = q) := by
    subst h
    rw [List.any_map]
    rfl
  unfold putK putTs putTd
  rw [e]
  by_cases hb : (ks.any fun k => decide (k = q)) = true
  · rw [if_pos hb, if_pos hb, if_pos hb]
    exact putT_in r h rl
  · rw [if_neg hb, if_neg hb, if_neg hb]
    refine ⟨by rw [List.map_append, h]; rfl, ?_⟩
    rw [List.map_append]
    exact RepL.app K mg rl (RepL.one K mg r)
theorem lookT_none {F : Hp} {q : List Key} : ∀ {ks : List (List Key)} {ds : List D} {kvs : List (List Key × V)}, kvs.map (·.1) = ks → RepL K mg F ds (kvs.map (·.2)) → lookT ks ds q = none → valV kvs q = none
  | [], _, kvs, h, _, _ => by
    have : kvs = [] := by simpa using h
    subst this; rfl
  | k :: ks, [], kvs, h, r, _ => by
    have : kvs.map (·.2) = [] := r
    have : kvs = [] := by simpa using this
    subst this; simp at h
  | k :: ks, d0 :: ds, [], h, _, _ => by simp at h
  | k :: ks, d0 :: ds, kv :: kvs, h, r, e => by
    simp at h
    obtain ⟨x, t, e1, r1, r2⟩ := r
    simp at e1
    unfold lookT at e
    by_cases hq : k = q
    · rw [if_pos hq] at e; cases e
    · rw [if_neg hq] at e
      rw [valV_neg (by rw [h.1]; exact hq)]
      exact lookT_none h.2 (by rw [e1.2]; exact r2) e
theorem new_dit {F H : Hp} {p : Addr} {kvs : List (List Key × V)} {ks : List (List Key)} {ds : List D} (h : H p = none) (s : Mono F H) (m : kvs.map (·.1) = ks) (r : RepL K mg F ds (kvs.map (·.2))) : NewR K mg H F (upd H p (.dT kvs)) (.tmp (.dit ks ds)) (.ref p) :=
  ⟨[p], ⟨p, kvs, rfl, rfl, upd_same, m, r⟩, fun b hb => by
    have e : b = p := by simpa using hb
    subst e
    exact ⟨fresh_F s h, by rw [upd_same]; simp, h⟩⟩
end
def wDit0 : WE := fun ρ Q _ => Q (.tmp (.dit [] [])) ρ
def isDit (ρ : Env) (i : Nat) : Prop := match ρ[i]? with
  | some (some (.own _ (.dit _ _))) => True
  | _ => False
/-- d[a, ..] = v, d the object of slot i -/
def wPutT (i : Nat) (wk : WL) (wv : WE) : WS := fun Dp ρ => wK wv ρ (fun d ρ1 => isDit ρ1 i ∧ wk ρ1 (fun es ρ2 => match ρ2[i]?, keysD es with
  | some (some (.own b (.dit ks ds))), some q => ks.length < sizeLine ∧ Dp.nx (ρ2.set i (some (.own b (.dit (putTs ks q) (putTd ks ds q d)))))
  | _, _ => False) Dp.ex) Dp.ex
section
variable {X : Cx} {XE : XK} {k : Nat}
theorem pd_dit0 {pos : Pos} : PdE X XE (.Dict [] [] pos) wDit0 := by
  refine ⟨_, pe_dnewT, fun c Qp Ep Q ok hw x k => ?_⟩
  intro p hp
  have st := Step.new (o := .dT []) ok.sub hp
  exact k (.ref p) { c with H := upd c.H p (.dT []) } (.tmp (.dit [] [])) (st.go ok) rfl (newR_rr (Go.refl _ _ ok) st (new_dit hp ok.sub rfl rfl)) hw
theorem pst_putT {i : Nat} {x : Str} {e : Expr} {es : List Expr} {x1} {p kp pos' pos : Pos} {wk : WL} {wv : WE} (C : Cc X XE k) (hx : PE X (.Name x p) (tVar i)) (hv : PdE X XE e wv) (hk : PdK X XE es wk) (hz : es.length ≤ sizeLine := by show _ ≤ 16777216; decide)
    (hs : swapsWith e (some (.Subscript (.Name x p) (.Tuple es x1 kp) pos')) pos.line X.env = pure false := by rfl) : PdS X XE (.Assign [.Subscript (.Name x p) (.Tuple es x1 kp) pos'] e pos) (wPutT i wk wv) := by
  obtain ⟨tv, pv, sv⟩ := hv
  obtain ⟨tk, pk, sk⟩ := hk
  refine ⟨_, ps_dput (by have := C.u65; omega) hx (pe_tup pk) pv hs, fun c Dp D ok hw P => ?_⟩
  refine runK (e := e) sv ok hw (P.2.2.2.2.ex X.K X.mg) fun v c1 d g1 e1 r1 h01 => ?_
  obtain ⟨h0, h1⟩ := h01
  have main : ∀ v0, c1.σ[i]? = some (some v0) → tTup tk c.σ c1.H fun y H3 => ∃ a H4, v0 = V.ref a ∧ DPut H3 a y v H4 ∧ D.nx c.σ H4 := fun v0 hv0 => by
    rw [← e1]
    refine sk c1 _ _ _ g1.ok h1 ((P.2.2.2.2.go X.K X.mg g1).ex X.K X.mg) fun ys c2 ds0 g2 e2 r2 l2 h2 => ?_
    refine ⟨by rw [← r2.len X.K X.mg, l2]; exact hz, fun kp' hkp => ?_⟩
    split at h2
    next b ks ds q hρ hq =>
      obtain ⟨hzz, h2⟩ := h2
      have st := Step.tup' (o := .tup ys) g2.ok.sub hkp
      have g3 := st.go g2.ok
      have g12 := (g1.trans X.K X.mg g2).trans X.K X.mg g3
      obtain ⟨v1, hv1, a, kvs, rfl, hft, ha, hm, rg⟩ := g3.ok.own (c := { c2 with F := upd c2.F kp' (.tup ys), H := upd c2.H kp' (.tup ys) }) hρ
      have hv1' : c2.σ[i]? = some (some (V.ref a)) := hv1
      rw [e2, hv0] at hv1'; cases hv1'
      have pr := putT_rep (q := q) hm rg (r1.mono X.K X.mg (g2.fr.mono.trans st.mono) _ _)
      obtain rfl := keys_rep r2 hq
      have ln : kvs.length < sizeLine := by rw [← hm] at hzz; simpa using hzz
      refine ⟨a, upd (upd c2.H kp' (.tup (q.map L2.kV))) a (.dT (putK kvs q v)), rfl, .inr ⟨kvs, q, kp', ha, rfl, upd_same, ln, rfl⟩, ?_⟩
      have g4 := write_slot (H' := upd (upd c2.H kp' (.tup (q.map L2.kV))) a (.dT (putK kvs q v))) (d' := .dit (putTs ks q) (putTd ks ds q d)) g3.ok hρ hv1 ⟨a, _, rfl, hft, upd_same, pr.1, pr.2⟩ (fun b hb => by rw [hft] at hb; exact upd_ne (by simpa using hb)) fun b hb => by
        rw [hft] at hb
        have : b = a := by simpa using hb
        subst this
        rw [upd_same]; simp
      have := P.1 _ (g12.trans X.K X.mg g4) h2
      rw [← e2]
      exact this
    next => exact h2.elim
  have there : ∃ v0, c1.σ[i]? = some (some v0) := by
    unfold isDit at h0
    split at h0
    next b ks ds hρ =>
      obtain ⟨v1, hv1, _⟩ := g1.ok.own hρ
      exact ⟨v1, hv1⟩
    next => exact h0.elim
  obtain ⟨v0, hv0⟩ := there
  exact ⟨v0, by rw [← e1]; exact hv0, main v0 hv0⟩
end
end PL
/-! PX12: len of dicts. -/
namespace PL
open PySem PySem.Spec PyProof.Rows L2
variable [HasT]
def rLenD : List V → Hp → VK → Prop := fun xs H Q => (∃ (a : Addr) (kvs : List (Key × V)), xs = [.ref a] ∧ Rd H a (.dK kvs) ∧ Q (.int (kvs.length : Nat)) H) ∨ ∃ (a : Addr) (kvs : List (List Key × V)), xs = [.ref a] ∧ Rd H a (.dT kvs) ∧ Q (.int (kvs.length : Nat)) H
theorem call_lenDR {X : Cx} : CallR X (.builtin "len") rLenD := by
  intro pins s σ H xs us Q I r h
  rcases h with ⟨a, kvs, rfl, ha, q⟩ | ⟨p, kvs, rfl, hp, q⟩
  · obtain ⟨u, rfl, ru⟩ := vals1 r
    cases ru
    exact d_len I ha fun t s' I' => ⟨.int kvs.length, H, I', ⟨t, rfl⟩, q⟩
  · obtain ⟨u, rfl, rx⟩ := vals1 r
    obtain rfl : u = .ref p := rx
    obtain ⟨z, hd, ys, rel, dd⟩ := dt_rd I.hok hp
    have hl : kvs.length = ys.length := Paired.length rel
    refine call_len_dictH hd dd (by rw [← hl]; rw [sizeLine_eq] at z; omega) ?_
    rw [← hl]
    exact ⟨.int ((kvs.length : Nat) : Int), H, I.tok _, ⟨_, rfl⟩, q⟩
def gLenD : GN := fun ds Q => match ds with
  | [.dic ks _] => Q (.val (.int ks.length))
  | [.dit ks _] => Q (.val (.int ks.length))
  | _ => False
theorem opn_lenD {K : PySem.W.Frag} {mg : Str → Option Value} : OpN K mg rLenD gLenD := by
  intro F H ds vs Qg Q s h hg k
  unfold gLenD at hg
  split at hg
  next ks ds =>
    obtain ⟨v, rfl, h1⟩ := seeL1 h
    obtain ⟨a, kvs, rfl, ha, hm, ra⟩ := h1.dic s
    exact .inl ⟨a, kvs, rfl, ha, fin_val s k (d := .int kvs.length) rfl (by rw [show kvs.length = ks.length by rw [← hm, List.length_map]]; exact hg)⟩
  next ks ds =>
    obtain ⟨v, rfl, h1⟩ := seeL1 h
    obtain ⟨a, kvs, rfl, ha, hm, ra⟩ := h1.dit s
    exact .inr ⟨a, kvs, rfl, ha, fin_val s k (d := .int kvs.length) rfl (by rw [show kvs.length = ks.length by rw [← hm, List.length_map]]; exact hg)⟩
  next => exact hg.elim
section
variable {X : Cx} {XE : XK} {k : Nat} {p pos : Pos} {e : Expr} {w : WR}
theorem go_lenD (hm : X.mg "len" = none) (ha : PdV X XE [e] w) (gl : Gl X "len" := by rfl) (he : starEach [e] X.env = (false, eval e X.env) :: starEach [] X.env := by rfl) (hpl : (backTo pos (starEach [] X.env)).any (·.1) = false := by rfl) : PdE X XE (.Call (.Name "len" p) [e] [] pos) (wCall gLenD w) :=
  pd_callB call_lenDR opn_lenD gl hm PySem.boot_len ha (by decide) (by decide) he hpl
end
end PL
/-! PX13: equations of the new words, for simp. -/
namespace PL
open PySem PySem.Spec PyProof.Rows L2
variable [HasT]
variable {ρ : Env} {Q : R → Env → Prop} {Ep : Ex → Env → Prop} {n : Env → Prop} {rt : R → Env → Prop} {bk ct : Env → Prop} {ex : Ex → Env → Prop}
def kCls (cn : Str) (d : D) : Prop := match d with
  | .obj c _ _ => c = cn
  | _ => False
theorem kCls_ok {cn : Str} {fs : List Str} {ds : List D} : kCls cn (.obj cn fs ds) = True := by
  show (cn = cn) = True
  simp
theorem x_prop {cn : Str} {fs : FS} {wo : WE} : wProp cn fs wo ρ Q Ep = wV wo ρ (fun r0 ρ0 => pk1 ρ0 r0 fun d0 => kCls cn d0 ∧ toArgs ρ0 [r0] fun args => ndS [r0] = true ∧ fs (args ++ ([] : List D).map .val) (fun r args' => Q r (backA [r0] args' ρ0)) (fun _ _ => False)) Ep := Eq.trans rfl rfl
theorem x_unpS {m i : Nat} {ws : WGs} {ds : List D} {K : Env → Prop} : wUnpS m i ws (.tup ds) ρ K = (i < m ∧ m ≤ ds.length + 1 ∧ ws (ds.take i ++ [.lst ((ds.drop i).take (ds.length + 1 - m))] ++ (ds.drop i).drop (ds.length + 1 - m)) ρ K) := Eq.trans rfl rfl
theorem x_tupS {w : WL} : wTupS w ρ Q Ep = w ρ (fun ds ρ' => ds.length ≤ sizeLine ∧ Q (.val (.tup ds)) ρ') Ep := Eq.trans rfl rfl
theorem x_lstS {w : WL} : wLstS w ρ Q Ep = w ρ (fun ds ρ' => ds.length ≤ sizeLine ∧ Q (.tmp (.lst ds)) ρ') Ep := Eq.trans rfl rfl
def kSc (wr : WL) (K : List D → Env → Prop) (Ep : Ex → Env → Prop) (d : D) (ρ1 : Env) : Prop := match d with
  | .lst xs => wr ρ1 (fun ds ρ2 => K (xs ++ ds) ρ2) Ep
  | .tup xs => wr ρ1 (fun ds ρ2 => K (xs ++ ds) ρ2) Ep
  | _ => False
theorem kSc_l {wr : WL} {K : List D → Env → Prop} {xs : List D} : kSc wr K Ep (.lst xs) ρ = wr ρ (fun ds ρ2 => K (xs ++ ds) ρ2) Ep := Eq.trans rfl rfl
theorem kSc_t {wr : WL} {K : List D → Env → Prop} {xs : List D} : kSc wr K Ep (.tup xs) ρ = wr ρ (fun ds ρ2 => K (xs ++ ds) ρ2) Ep := Eq.trans rfl rfl
theorem x_sc {w : WE} {wr : WL} {K : List D → Env → Prop} : wSc w wr ρ K Ep = wK w ρ (kSc wr K Ep) Ep := Eq.trans rfl rfl
def kKeys (K : List D → Env → Prop) (d : D) (ρ' : Env) : Prop := match d with
  | .dic ks _ => K (ks.map kD) ρ'
  | _ => False
theorem kKeys_d {K : List D → Env → Prop} {ks : List Key} {ds : List D} : kKeys K (.dic ks ds) ρ = K (ks.map kD) ρ := Eq.trans rfl rfl
theorem x_keys {w : WE} {K : List D → Env → Prop} : wKeys w ρ K Ep = wK w ρ (kKeys K) Ep := Eq.trans rfl rfl
def kVals (K : List D → Env → Prop) (d : D) (ρ' : Env) : Prop := match d with
  | .dic _ ds => K ds ρ'
  | _ => False
theorem kVals_d {K : List D → Env → Prop} {ks : List Key} {ds : List D} : kVals K (.dic ks ds) ρ = K ds ρ := Eq.trans rfl rfl
theorem x_vals {w : WE} {K : List D → Env → Prop} : wVals w ρ K Ep = wK w ρ (kVals K) Ep := Eq.trans rfl rfl
theorem gNeg_i {i : Int} {K : R → Prop} : gNeg (.int i) K = K (.val (.int (-i))) := Eq.trans rfl rfl
theorem gLenD_d {ks : List Key} {ds : List D} {K : R → Prop} : gLenD [.dic ks ds] K = K (.val (.int ks.length)) := Eq.trans rfl rfl
theorem gLenD_t {ks : List (List Key)} {ds : List D} {K : R → Prop} : gLenD [.dit ks ds] K = K (.val (.int ks.length)) := Eq.trans rfl rfl
theorem gDict_d {ks : List Key} {ds : List D} {K : R → Prop} : gDict [.dic ks ds] K = K (.tmp (.dic ks ds)) := Eq.trans rfl rfl
theorem gListA_d {ks : List Key} {ds : List D} {K : R → Prop} : gListA [.dic ks ds] K = K (.tmp (.lst (ks.map kD))) := Eq.trans rfl rfl
theorem x_dic0 : wDic0 ρ Q Ep = Q (.tmp (.dic [] [])) ρ := Eq.trans rfl rfl
theorem x_dit0 : wDit0 ρ Q Ep = Q (.tmp (.dit [] [])) ρ := Eq.trans rfl rfl
theorem x_dc {wi : WI} {wt : WG} {tt : WT} {wk we : WE} {vs : List Nat} : wDc wi wt tt wk we vs ρ Q Ep = wi ρ (fun ds ρ1 => okW ρ1 vs = true ∧ wDcL wt tt wk we vs ds [] [] (wipeE ρ1 vs) fun r ρ' => Q r (restE ρ' ρ1 vs)) Ep := Eq.trans rfl rfl
theorem x_lc2 {wi wi1 : WI} {wt wt1 : WG} {tt tt1 : WT} {we : WE} {vs vs1 : List Nat} : wLc2 wi wt tt wi1 wt1 tt1 we vs vs1 ρ Q Ep = wi ρ (fun ds ρ1 => okW ρ1 vs = true ∧ wLcO wt tt wi1 wt1 tt1 we vs vs1 ds [] (wipeE ρ1 vs) fun r ρ' => Q r (restE ρ' ρ1 vs)) Ep := Eq.trans rfl rfl
theorem x_callK {fs : FS} {is : List Nat} {w wk : WR} : wCallK fs is w wk ρ Q Ep = w ρ (fun rs ρ1 => wk ρ1 (fun zs ρ2 => toArgs ρ2 (pick is (rs ++ zs)) fun args => ndS (pick is (rs ++ zs)) = true ∧ fs (args ++ ([] : List D).map .val) (fun r args' => Q r (backA (pick is (rs ++ zs)) args' ρ2)) (fun y args' => Ep y (backA (pick is (rs ++ zs)) args' ρ2))) Ep) Ep := Eq.trans rfl rfl
theorem gIn_of {f : Bool → Bool} {d e : D} {b : Bool} {K : R → Prop} (h : dIn d e = some b) : gIn f d e K = K (.val (.bl (f b))) := by
  unfold gIn
  rw [h]
theorem dIn_str {x : Str} {ks : List Key} {ds : List D} : dIn (.str x) (.dic ks ds) = some (ks.any fun q => decide (q = .inr x)) := Eq.trans rfl rfl
end PL
/-! PX14: boxes: o.f = a new list or dict, o.f[k, ..] = v, o.f.append(e). -/
namespace PL
open PySem PySem.Spec PyProof.Rows L2
variable [HasT]
section
variable {X : Cx} {XE : XK} {k : Nat}
/-- as SoE, and nothing that stood is changed -/
abbrev SoQ (X : Cx) (XE : XK) (t : TE) (w : WE) : Prop := ∀ (c : Cfg) (Qp : R → Env → Prop) (Ep : Ex → Env → Prop) (Q : VK), Ok X.K X.mg c → w c.ρ Qp Ep → XOk X.K X.mg c Ep XE → (∀ v c' r, Go X.K X.mg c c' → c'.σ = c.σ → (∀ a, c.H a ≠ none → c'.H a = c.H a) → RR X.K X.mg c c' r v → Qp r c'.ρ → Q v c'.H) → t c.σ c.H Q
def PdQ (X : Cx) (XE : XK) (e : Expr) (w : WE) : Prop := ∃ t, PE X e t ∧ SoQ X XE t w
def PdQK (X : Cx) (XE : XK) (es : List Expr) (w : WL) : Prop := ∃ t, PA X es t ∧ ∀ (c : Cfg) (Qp : List D → Env → Prop) (Ep : Ex → Env → Prop) (Q : List V → Hp → Prop), Ok X.K X.mg c → w c.ρ Qp Ep → XOk X.K X.mg c Ep XE →
  (∀ vs c' ds, Go X.K X.mg c c' → c'.σ = c.σ → (∀ a, c.H a ≠ none → c'.H a = c.H a) → RepL X.K X.mg c'.F ds vs → ds.length = es.length → Qp ds c'.ρ → Q vs c'.H) → t c.σ c.H Q
theorem runKQ {w : WE} {t : TE} (s : SoQ X XE t w) {c : Cfg} {Qp : D → Env → Prop} {Ep : Ex → Env → Prop} {Q : VK} (ok : Ok X.K X.mg c) (h : wK w c.ρ Qp Ep) (x : XOk X.K X.mg c Ep XE)
    (k : ∀ v c' d, Go X.K X.mg c c' → c'.σ = c.σ → (∀ a, c.H a ≠ none → c'.H a = c.H a) → Rep X.K X.mg c'.F d v → Qp d c'.ρ → Q v c'.H) : t c.σ c.H Q := by
  refine s c _ Ep Q ok h x fun v c' r g e hk rr q => ?_
  cases r with
  | val d => exact k v c' d g e hk rr q
  | tmp d =>
    obtain ⟨q', F', g', rp⟩ := freeze_tmp g rr q
    exact k v { c' with F := F' } d g' e hk rp q'
  | slot i =>
    have hv : c'.σ[i]? = some (some v) := rr
    dsimp only at q
    split at q
    next d hd =>
      obtain ⟨w', hw, rp, _⟩ := g.ok.val hd
      rw [hw] at hv; cases hv
      exact k _ c' d g e hk rp q
    next d hd =>
      obtain ⟨q', w', F', hw, rp, g'⟩ := freeze_slot g.ok hd q
      rw [hw] at hv; cases hv
      exact k _ { c' with F := F', ρ := c'.ρ.set i (some (.val d)), fp := fpSet c'.fp i [] } d (g.trans X.K X.mg g') e hk rp q'
    next => exact q.elim
theorem pdq_var {i : Nat} {x : Str} {pos : Pos} (h : PE X (.Name x pos) (tVar i)) : PdQ X XE (.Name x pos) (wVar i) := by
  refine ⟨_, h, fun c Qp Ep Q ok hw x k => ?_⟩
  unfold wVar at hw
  split at hw
  next d hd =>
    obtain ⟨v, hv, r, _⟩ := ok.val hd
    exact ⟨v, hv, k v c (.val d) (Go.refl _ _ ok) rfl (fun _ _ => rfl) r hw⟩
  next b d hd =>
    obtain ⟨v, hv, o⟩ := ok.own hd
    exact ⟨v, hv, k v c (.slot i) (Go.refl _ _ ok) rfl (fun _ _ => rfl) hv hw⟩
  next => exact hw.elim
theorem pdq_c {e : Expr} {d : D} {v : V} (h : PE X e (tC v)) (r : ∀ F, Rep X.K X.mg F d v) : PdQ X XE e (wC d) :=
  ⟨_, h, fun c Qp Ep Q ok hw x k => k v c (.val d) (Go.refl _ _ ok) rfl (fun _ _ => rfl) (r _) hw⟩
theorem pdq_int {i j pos} : PdQ X XE (.Constant (.int i) j pos) (wC (.int i)) := pdq_c pe_int fun _ => rfl
theorem pdq_str {x j pos} : PdQ X XE (.Constant (.str x) j pos) (wC (.str x)) := pdq_c pe_str fun _ => rfl
theorem pdq_non {j pos} : PdQ X XE (.Constant .none j pos) (wC .non) := pdq_c pe_non fun _ => rfl
theorem pqk_nil : PdQK X XE [] wKn := ⟨_, pa_nil, fun c Qp Ep Q ok hw x k => k [] c [] (Go.refl _ _ ok) rfl (fun _ _ => rfl) rfl rfl hw⟩
theorem pqk_cons {e : Expr} {es : List Expr} {w : WE} {wr : WL} (h : PdQ X XE e w) (hr : PdQK X XE es wr) (hs : starEach (e :: es) X.env = (false, eval e X.env) :: starEach es X.env := by rfl) : PdQK X XE (e :: es) (wKc w wr) := by
  obtain ⟨t, p, s⟩ := h
  obtain ⟨tr, pr, sr⟩ := hr
  refine ⟨_, pa_cons p pr hs, fun c Qp Ep Q ok hw x k => ?_⟩
  refine runKQ s ok hw x fun v c1 d g1 e1 k1 r1 h1 => ?_
  rw [← e1]
  refine sr c1 _ Ep _ g1.ok h1 (x.go X.K X.mg g1 e1) fun vs c2 ds g2 e2 k2 r2 l2 h2 => ?_
  exact k (v :: vs) c2 (d :: ds) (g1.trans X.K X.mg g2) (e2.trans e1) (fun a ha => by rw [k2 a (by rw [k1 a ha]; exact ha), k1 a ha]) (RepL.cons X.K X.mg (r1.mono X.K X.mg g2.fr.mono _ _) r2) (by simp [l2]) h2
theorem pdq_tup {es : List Expr} {x1} {pos : Pos} {w : WL} (h : PdQK X XE es w) (hz : es.length ≤ sizeLine := by show _ ≤ 16777216; decide) : PdQ X XE (.Tuple es x1 pos) (wTup w) := by
  obtain ⟨t, p, s⟩ := h
  refine ⟨_, pe_tup p, fun c Qp Ep Q ok hw x k => ?_⟩
  refine s c _ Ep _ ok hw x fun vs c1 ds g1 e1 k1 r1 l1 h1 => ?_
  refine ⟨by rw [← r1.len X.K X.mg, l1]; exact hz, fun p hp => ?_⟩
  have st := Step.tup' (o := .tup vs) g1.ok.sub hp
  exact k _ { c1 with F := upd c1.F p (.tup vs), H := upd c1.H p (.tup vs) } _ (g1.trans X.K X.mg (st.go g1.ok)) e1 (fun a ha => by
    have h1 := k1 a ha
    have : a ≠ p := fun z => by subst z; rw [h1] at hp; exact ha hp
    show upd c1.H p _ a = _
    rw [upd_ne this]; exact h1) (newR_rr g1 st (new_tup hp g1.ok.sub r1)) h1

/-! ### what a slot owns grows -/
/-- as write_slot2; what is new is new since c -/
theorem write_slot3 {K : PySem.W.Frag} {mg : Str → Option Value} {c c1 : Cfg} (g : Go K mg c c1) {i : Nat} {b : Bool} {d d' : D} {v : V} {H' : Hp} {ft : List Addr} (h : c1.ρ[i]? = some (some (.own b d))) (hv : c1.σ[i]? = some (some v)) (o : Own K mg c1.F H' d' v ft)
    (hk : ∀ a, a ∉ c1.fp i → c1.H a ≠ none → a ∉ ft → H' a = c1.H a) (hs : ∀ a, c1.H a ≠ none → H' a ≠ none) (hf1 : ∀ a ∈ c1.fp i, a ∈ ft) (hf2 : ∀ a ∈ ft, a ∈ c1.fp i ∨ (c.H a = none ∧ c1.F a = none ∧ ∀ j, a ∉ c1.fp j ) ∧ ∀ ps, c1.H a ≠ some (.tbl ps))
    (ht : LamX.Tabs HasT.T H') (htf : TupF c1.F H') : Go K mg c { c1 with H := H', ρ := c1.ρ.set i (some (.own b d')), fp := fpSet c1.fp i ft } := by
  have il : i < c1.ρ.length := (List.getElem?_eq_some_iff.mp h).1
  have nf : ∀ j a, j ≠ i → a ∈ c1.fp j → a ∉ ft := fun j a hj ha z => by
    rcases hf2 a z with q | q
    · exact hj (g.ok.disj j i a ha q)
    · exact q.1.2.2 j ha
  have fF : ∀ a ∈ ft, c1.F a = none ∧ H' a ≠ none := fun a ha => by
    refine ⟨?_, ?_⟩
    · rcases hf2 a ha with q | q
      · exact (g.ok.out i a q).1
      · exact q.1.2.1
    · obtain ⟨u, e, _⟩ := own_pl o a ha
      rw [e]; simp
  have keepF : ∀ a u, c1.F a = some u → H' a = c1.H a := fun a u ha => by
    obtain ⟨o', e, _⟩ := g.ok.sub a u ha
    exact hk a (fun z => by rw [(g.ok.out i a z).1] at ha; cases ha) (by rw [e]; simp) fun z => by rw [(fF a z).1] at ha; cases ha
  have newc : ∀ a ∈ ft, a ∈ c1.fp i ∨ c.H a = none := fun a ha => by
    rcases hf2 a ha with q | q
    · exact .inl q
    · exact .inr q.1.1
  refine ⟨⟨ht, fun a u e => ?_, by simpa using g.ok.len, fun j x q => ?_, fun j q => ?_, fun j a ha => ?_, fun j k a h1 h2 => ?_, htf⟩, ⟨g.fr.mono, fun a h1 h2 h3 h4 => ?_, fun a ha => hs a (g.fr.grow a ha)⟩, fun j a ha => ?_, fun j y q => ?_⟩
  · show ∃ o', H' a = some o' ∧ HLe u o'
    rw [keepF a u e]; exact g.ok.sub _ _ e
  · rcases set_get q with ⟨rfl, ex⟩ | ⟨hj, q'⟩
    · cases ex
      refine ⟨v, hv, ?_⟩
      show EntOk K mg c1.F H' (.own b d') v (fpSet c1.fp j ft j)
      rw [fpSet_same]; exact o
    · obtain ⟨w, hw, eo⟩ := g.ok.slot j x q'
      refine ⟨w, hw, ?_⟩
      show EntOk K mg c1.F H' x w (fpSet c1.fp i ft j)
      rw [fpSet_ne hj]
      exact eo.frame (Mono.refl _) fun a ha => hk a (fun z => hj (g.ok.disj j i a ha z)) (g.ok.out j a ha).2 (nf j a hj ha)
  · show fpSet c1.fp i ft j = []
    by_cases hj : j = i
    · subst hj
      exact absurd (show (c1.ρ.set j (some (.own b d')))[j]? = some (some (.own b d')) by rw [List.getElem?_set_self il]) (q _)
    · rw [fpSet_ne hj]
      exact g.ok.non j fun e' z => q e' (by show (c1.ρ.set i _)[j]? = _; rw [List.getElem?_set_ne (Ne.symm hj)]; exact z)
  · replace ha : a ∈ fpSet c1.fp i ft j := ha
    by_cases hj : j = i
    · subst hj
      rw [show fpSet c1.fp j ft j = ft from fpSet_same] at ha
      exact fF a ha
    · rw [show fpSet c1.fp i ft j = c1.fp j from fpSet_ne hj] at ha
      exact ⟨(g.ok.out j a ha).1, hs a (g.ok.out j a ha).2⟩
  · replace h1 : a ∈ fpSet c1.fp i ft j := h1
    replace h2 : a ∈ fpSet c1.fp i ft k := h2
    by_cases hj : j = i
    · subst hj
      rw [show fpSet c1.fp j ft j = ft from fpSet_same] at h1
      by_cases hk : k = j
      · exact hk.symm
      · rw [show fpSet c1.fp j ft k = c1.fp k from fpSet_ne hk] at h2
        exact absurd h1 (nf k a hk h2)
    · rw [show fpSet c1.fp i ft j = c1.fp j from fpSet_ne hj] at h1
      by_cases hk : k = i
      · subst hk
        rw [show fpSet c1.fp k ft k = ft from fpSet_same] at h2
        exact absurd h2 (nf j a hj h1)
      · rw [show fpSet c1.fp i ft k = c1.fp k from fpSet_ne hk] at h2
        exact g.ok.disj j k a h1 h2
  · obtain ⟨k1, k2⟩ := g.fr.keep a h1 h2 h3 h4
    have n1 : a ∉ c1.fp i := fun z => by
      rcases g.orig i a z with ⟨j, hj⟩ | q
      · exact h3 j hj
      · exact h2 q
    refine ⟨k1, (hk a n1 (by rw [k2]; exact h2) fun z => ?_).trans k2⟩
    rcases newc a z with q | q
    · exact n1 q
    · exact h2 q
  · replace ha : a ∈ fpSet c1.fp i ft j := ha
    by_cases hj : j = i
    · subst hj
      rw [show fpSet c1.fp j ft j = ft from fpSet_same] at ha
      rcases newc a ha with q | q
      · exact g.orig j a q
      · exact .inr q
    · rw [show fpSet c1.fp i ft j = c1.fp j from fpSet_ne hj] at ha
      exact g.orig j a ha
  · obtain ⟨y', q1, q2, q3⟩ := g.bor j y q
    by_cases hj : j = i
    · subst hj
      rw [h] at q1; cases q1
      refine ⟨d', by show (c1.ρ.set j _)[j]? = _; rw [List.getElem?_set_self il], ?_, q3⟩
      rw [show ({ c1 with H := H', ρ := c1.ρ.set j (some (.own true d')), fp := fpSet c1.fp j ft } : Cfg).fp j = ft from fpSet_same]
      exact ⟨fun a ha => hf1 a (q2.1 a ha), fun a ha => by
        rcases newc a ha with z | z
        · exact q2.2 a z
        · exact .inr z⟩
    · refine ⟨y', by show (c1.ρ.set i _)[j]? = _; rw [List.getElem?_set_ne (Ne.symm hj)]; exact q1, ?_, q3⟩
      rw [show ({ c1 with H := H', ρ := c1.ρ.set i (some (.own b d')), fp := fpSet c1.fp i ft } : Cfg).fp j = c1.fp j from fpSet_ne hj]
      exact q2
def flatD : D → Bool
  | .lst _ => true
  | .dic _ _ => true
  | .dit _ _ => true
  | _ => false
theorem own_flat {K : PySem.W.Frag} {mg : Str → Option Value} {F H : Hp} {d : D} {v : V} {ft : List Addr} (o : Own K mg F H d v ft) (h : flatD d = true) : ∃ a, ft = [a] ∧ OwnF K mg F H d v a := by
  cases d with
  | lst ds => obtain ⟨a, xs, e, rfl, h1, h2⟩ := o; exact ⟨a, rfl, e, xs, h1, h2⟩
  | dic ks ds => obtain ⟨a, xs, e, rfl, h1, h2⟩ := o; exact ⟨a, rfl, e, xs, h1, h2⟩
  | dit ks ds => obtain ⟨a, xs, e, rfl, h1, h2⟩ := o; exact ⟨a, rfl, e, xs, h1, h2⟩
  | _ => cases h
/-- slot i's object: o.f = e, e a new list or dict, which stays the object's own -/
def wSetFB (i : Nat) (cn f : Str) (w : WE) : WS := fun Dp ρ => w ρ (fun r ρ' => match r with
  | .tmp d => flatD d = true ∧ match ρ'[i]? with
    | some (some (.own b (.obj c fs ds))) => c = cn ∧ fs.length < 1000 ∧ Dp.nx (ρ'.set i (some (.own b (.obj c (putN fs f) (putD fs ds f (.box d))))))
    | _ => False
  | _ => False) Dp.ex
theorem pst_fldB {cn f x : Str} {i : Nat} {e : Expr} {pos pos' p : Pos} {Cl : Addr} {w : WE} (hC : X.mg cn = some (.ref Cl)) (cl : Cls X.K Cl) (hn : NoAttr X.K Cl f) (hx : PE X (.Name x p) (tVar i)) (h : PdE X XE e w) (hs : swapsWith e (some (.Attribute (.Name x p) f pos')) pos.line X.env = pure false := by rfl) :
    PdS X XE (.Assign [.Attribute (.Name x p) f pos'] e pos) (wSetFB i cn f w) := by
  obtain ⟨t, pe, s⟩ := h
  refine ⟨_, ps_fld hx pe hs, fun c Dp D ok hw P => ?_⟩
  refine s c _ _ _ ok hw (P.2.2.2.2.ex X.K X.mg) fun v c1 r g1 e1 rr h1 => ?_
  cases r with
  | val d => exact h1.elim
  | slot j => exact h1.elim
  | tmp d =>
    obtain ⟨ft, o, hfr⟩ := rr
    obtain ⟨hfl, h1⟩ := h1
    obtain ⟨a0, rfl, oF⟩ := own_flat o hfl
    obtain ⟨y1, y2, y3, y4⟩ := hfr a0 (by simp)
    split at h1
    next b cc fn dd hρ =>
      obtain ⟨hcc, hlt, h1⟩ := h1
      subst hcc
      obtain ⟨v0, hv0, a, C', dx, gs, f2, jk, rfl, hft, nd, hc, ha, hg, rg, hj⟩ := g1.ok.own hρ
      rw [hC] at hc; cases hc
      rw [← e1]
      refine ⟨.ref a, hv0, a, Cl, dx, gs, rfl, ha, cl, hn, by rw [← hg] at hlt; simpa using hlt, ?_⟩
      obtain ⟨f3, g3, p1, p2, p3⟩ := put_box (F := c1.F) (H := c1.H) (f := f) (d := .box d) (v := v) (f0 := [a0]) ⟨v, [], rfl, by rw [if_pos (show isBx (.box d) = true from rfl)]; exact ⟨a0, [], rfl, oF, rfl, rfl⟩⟩ hg rg
      have pA : (a :: (f3 ++ (g3 ++ jk))).Perm (a0 :: (a :: (f2 ++ jk))) := by
        rw [← List.append_assoc]
        refine (List.Perm.cons a (List.Perm.append_right jk p3)).trans ?_
        exact List.Perm.swap a0 a _
      have nd3 := (List.Perm.nodup_iff pA).mpr (List.nodup_cons.mpr ⟨by rw [← hft]; exact y4 i, nd⟩)
      have nin : a ∉ f3 ++ (g3 ++ jk) := (List.nodup_cons.mp nd3).1
      have mm : ∀ b, b ∈ a :: (f3 ++ (g3 ++ jk)) ↔ b = a0 ∨ b ∈ c1.fp i := fun b => by rw [hft, pA.mem_iff, List.mem_cons]
      have ne3 : ∀ b ∈ f3 ++ (g3 ++ jk), b ≠ a := fun b hb z => by subst z; exact nin hb
      have o1 := (g1.ok.own hρ)
      have plx : ∀ b ∈ a :: (f3 ++ (g3 ++ jk)), ∃ u, c1.H b = some u ∧ Pl u := fun b hb => by
        rcases (mm b).mp hb with rfl | hb'
        · exact ownF_pl oF
        · obtain ⟨_, _, o2⟩ := o1
          exact own_pl o2 b hb'
      have g2 := write_slot3 (H' := upd c1.H a (.ins Cl dx (putF f v gs))) (d' := .obj cc (putN fn f) (putD fn dd f (.box d))) (ft := a :: (f3 ++ (g3 ++ jk))) g1 hρ hv0
        ⟨a, Cl, dx, _, f3, g3 ++ jk, rfl, rfl, nd3, hC, upd_same, p2, p1.frame X.K X.mg (Mono.refl _) fun b hb => upd_ne (ne3 b (by simp [hb])), fun b hb => by
          rw [upd_ne (ne3 b (by rcases List.mem_append.mp hb with z | z <;> simp [z]))]
          exact plx b (List.mem_cons_of_mem _ (List.mem_append_right _ hb))⟩
        (fun b _ _ hb => upd_ne fun z => hb (by rw [z]; simp))
        (fun b hb => by
          by_cases z : b = a
          · subst z; rw [upd_same]; simp
          · rw [upd_ne z]; exact hb)
        (fun b hb => (mm b).mpr (.inr hb)) (fun b hb => by
          rcases (mm b).mp hb with rfl | hb'
          · exact .inr ⟨⟨y3, y1, y4⟩, fun ps z => by
              obtain ⟨u, hu, pu⟩ := ownF_pl oF
              rw [hu] at z; cases z; exact pu⟩
          · exact .inl hb')
        (tabs_upd g1.ok.tabs (pl_some ha True.intro)) (fun b xs e => by
          by_cases z : b = a
          · subst z; rw [upd_same] at e; cases e
          · rw [upd_ne z] at e; exact g1.ok.tf b xs e)
      exact P.1 _ g2 h1
    next => exact h1.elim
/-- the box of a field, changed in its place -/
theorem box_at {K : PySem.W.Frag} {mg : Str → Option Value} {F H : Hp} {f : Str} {d0 : D} : ∀ {fs : List Str} {ds : List D} {gs : List (Str × V)} {ft : List Addr}, gs.map (·.1) = fs → BoxL K mg F H ds (gs.map (·.2)) ft → ft.Nodup → fldD fs ds f = some (.box d0) →
    ∃ v a, gs.lookup f = some v ∧ a ∈ ft ∧ OwnF K mg F H d0 v a ∧ ∀ F' H' d1, Mono F F' → OwnF K mg F' H' d1 v a → (∀ b ∈ ft, b ≠ a → H' b = H b) → BoxL K mg F' H' (putD fs ds f (.box d1)) (gs.map (·.2)) ft
  | [], _, _, _, _, _, _, h => by cases h
  | g :: fs, [], _, _, _, _, _, h => by cases h
  | g :: fs, x :: ds, [], _, e, _, _, _ => by cases e
  | g :: fs, x :: ds, (a, u) :: gs, ft, e, r, nd, h => by
    simp only [List.map_cons, List.cons.injEq] at e
    obtain ⟨rfl, e⟩ := e
    obtain ⟨y, t, e2, r1⟩ := r
    simp only [List.map_cons, List.cons.injEq] at e2
    obtain ⟨rfl, rfl⟩ := e2
    unfold fldD at h
    by_cases hf : f = a
    · rw [if_pos hf] at h; cases h
      rw [if_pos (show isBx (.box d0) = true from rfl)] at r1
      obtain ⟨a1, f2, rfl, o1, o2⟩ := r1
      refine ⟨u, a1, by simp [List.lookup, hf], by simp, o1, fun F' H' d1 m o h => ?_⟩
      subst hf
      simp only [putD, if_true]
      refine ⟨u, _, rfl, ?_⟩
      rw [if_pos (show isBx (.box d1) = true from rfl)]
      refine ⟨a1, f2, rfl, o, o2.frame K mg m fun b hb => h b (by simp [hb]) fun z => ?_⟩
      subst z
      exact (List.nodup_cons.mp nd).1 hb
    · rw [if_neg hf] at h
      have lk : ∀ v, gs.lookup f = some v → ((a, u) :: gs).lookup f = some v := fun v hv => by
        have : (f == a) = false := by simpa using hf
        simp [List.lookup, this, hv]
      by_cases hx : isBx x = true
      · rw [if_pos hx] at r1
        obtain ⟨a1, f2, rfl, o1, o2⟩ := r1
        obtain ⟨v, a2, h1, h2, h3, h4⟩ := box_at e o2 (List.nodup_cons.mp nd).2 h
        refine ⟨v, a2, lk v h1, by simp [h2], h3, fun F' H' d1 m o h => ?_⟩
        simp only [putD, if_neg (Ne.symm hf)]
        refine ⟨u, _, rfl, ?_⟩
        rw [if_pos hx]
        refine ⟨a1, f2, rfl, o1.frame K mg m (h a1 (by simp) fun z => ?_), h4 F' H' d1 m o fun b hb => h b (by simp [hb])⟩
        subst z
        exact (List.nodup_cons.mp nd).1 h2
      · rw [if_neg hx] at r1
        obtain ⟨v, a2, h1, h2, h3, h4⟩ := box_at e r1.2 nd h
        refine ⟨v, a2, lk v h1, h2, h3, fun F' H' d1 m o h => ?_⟩
        simp only [putD, if_neg (Ne.symm hf)]
        refine ⟨u, _, rfl, ?_⟩
        rw [if_neg hx]
        exact ⟨r1.1.mono K mg m _ _, h4 F' H' d1 m o h⟩
theorem bigNd {a : Addr} {f2 g : List Addr} (h : (a :: (f2 ++ g)).Nodup) : f2.Nodup ∧ a ∉ f2 ∧ ∀ b ∈ f2, b ∉ g := by
  obtain ⟨h1, h2⟩ := List.nodup_cons.mp h
  obtain ⟨h3, _, h5⟩ := List.nodup_append.mp h2
  exact ⟨h3, fun z => h1 (List.mem_append_left _ z), fun b hb hg => h5 b hb b hg rfl⟩
/-- the box d0 at slot i's object's field f -/
def boxOf (ρ : Env) (i : Nat) (cn f : Str) : Option D := match ρ[i]? with
  | some (some (.own _ (.obj c fs ds))) => if c = cn then (match fldD fs ds f with
    | some (.box d) => some d
    | _ => none) else none
  | _ => none
/-- .. changed -/
def boxTo (ρ : Env) (i : Nat) (f : Str) (d : D) : Env := match ρ[i]? with
  | some (some (.own b (.obj c fs ds))) => ρ.set i (some (.own b (.obj c fs (putD fs ds f (.box d)))))
  | _ => ρ
theorem boxOf_some {ρ : Env} {i : Nat} {cn f : Str} {d : D} (h : boxOf ρ i cn f = some d) : ∃ b fs ds, ρ[i]? = some (some (.own b (.obj cn fs ds))) ∧ fldD fs ds f = some (.box d) := by
  unfold boxOf at h
  split at h
  next b c fs ds e =>
    split at h
    next hc =>
      subst hc
      split at h
      next d' hd => cases h; exact ⟨b, fs, ds, e, hd⟩
      next => cases h
    next => cases h
  next => cases h
/-- where the box stands, and how it is written -/
theorem box_go {c : Cfg} (ok : Ok X.K X.mg c) {i : Nat} {cn f : Str} {Cl : Addr} {d0 : D} (hC : X.mg cn = some (.ref Cl)) (h : boxOf c.ρ i cn f = some d0) :
    ∃ p dx gs u a, c.σ[i]? = some (some (.ref p)) ∧ c.H p = some (.ins Cl dx gs) ∧ gs.lookup f = some u ∧ OwnF X.K X.mg c.F c.H d0 u a ∧ a ∈ c.fp i ∧ p ≠ a ∧
      ∀ d1 H', OwnF X.K X.mg c.F H' d1 u a → (∀ b, b ≠ a → H' b = c.H b) → Go X.K X.mg c { c with H := H', ρ := boxTo c.ρ i f d1 } := by
  obtain ⟨b, fs, ds, hρ, hf⟩ := boxOf_some h
  obtain ⟨v0, hv0, p, C', dx, gs, f2, jk, rfl, hft, nd, hc, ha, hg, rg, hj⟩ := ok.own hρ
  rw [hC] at hc; cases hc
  obtain ⟨n1, n2, n3⟩ := bigNd nd
  obtain ⟨u, a, k1, k2, k3, k4⟩ := box_at hg rg n1 hf
  have hpa : p ≠ a := fun z => by subst z; exact n2 k2
  refine ⟨p, dx, gs, u, a, hv0, ha, k1, k3, by rw [hft]; simp [k2], hpa, fun d1 H' o hk => ?_⟩
  have e : boxTo c.ρ i f d1 = c.ρ.set i (some (.own b (.obj cn fs (putD fs ds f (.box d1))))) := by unfold boxTo; rw [hρ]
  rw [e]
  refine write_slot ok hρ hv0 ⟨p, Cl, dx, gs, f2, jk, rfl, hft, nd, hC, by rw [hk p hpa]; exact ha, hg, k4 _ _ _ (Mono.refl _) o fun b _ hb => hk b hb, fun b hb => by rw [hk b (fun z => by subst z; exact n3 b k2 hb)]; exact hj b hb⟩ (fun b hb => hk b fun z => ?_) fun b hb => ?_
  · subst z
    exact hb (by rw [hft]; simp [k2])
  · by_cases z : b = a
    · subst z
      obtain ⟨w, hw, _⟩ := ownF_pl o
      rw [hw]; simp
    · rw [hk b z]; exact (ok.out i b hb).2
/-- o.f[k, ..] = v -/
def wPutFT (i : Nat) (cn f : Str) (wk : WL) (wv : WE) : WS := fun Dp ρ => wK wv ρ (fun d ρ1 => (∃ ks xs, boxOf ρ1 i cn f = some (.dit ks xs)) ∧ wk ρ1 (fun es ρ2 => match boxOf ρ2 i cn f, keysD es with
  | some (.dit ks xs), some q => ks.length < sizeLine ∧ Dp.nx (boxTo ρ2 i f (.dit (putTs ks q) (putTd ks xs q d)))
  | _, _ => False) Dp.ex) Dp.ex
theorem pst_putFT {i : Nat} {cn f x : Str} {Cl : Addr} {e : Expr} {es : List Expr} {x1} {p fp kp pos' pos : Pos} {wk : WL} {wv : WE} (C : Cc X XE k) (hC : X.mg cn = some (.ref Cl)) (cl : Cls X.K Cl) (hn : NoAttr X.K Cl f) (hx : PE X (.Name x p) (tVar i)) (hv : PdE X XE e wv) (hk : PdQK X XE es wk) (hz : es.length ≤ sizeLine := by show _ ≤ 16777216; decide)
    (hb : attributeBase (.Name x p) f X.env (eval (.Name x p) X.env) = eval (.Name x p) X.env := by rfl)
    (hs : swapsWith e (some (.Subscript (.Attribute (.Name x p) f fp) (.Tuple es x1 kp) pos')) pos.line X.env = pure false := by rfl) : PdS X XE (.Assign [.Subscript (.Attribute (.Name x p) f fp) (.Tuple es x1 kp) pos'] e pos) (wPutFT i cn f wk wv) := by
  obtain ⟨tv, pv, sv⟩ := hv
  obtain ⟨tk, pk, sk⟩ := hk
  refine ⟨_, ps_dput (by have := C.u65; omega) (pe_fld hx hb) (pe_tup pk) pv hs, fun c Dp D ok hw P => ?_⟩
  refine runK (e := e) sv ok hw (P.2.2.2.2.ex X.K X.mg) fun v c1 d g1 e1 r1 h01 => ?_
  obtain ⟨⟨ks0, xs0, h0⟩, h1⟩ := h01
  obtain ⟨p1, dx1, gs1, u1, a1, b1, b2, b3, b4, b5, b6, b7⟩ := box_go g1.ok hC h0
  rw [← e1]
  refine ⟨.ref p1, b1, p1, Cl, dx1, gs1, u1, rfl, b2, cl, hn, b3, ?_⟩
  refine sk c1 _ _ _ g1.ok h1 ((P.2.2.2.2.go X.K X.mg g1).ex X.K X.mg) fun ys c2 ds0 g2 e2 kp2 r2 l2 h2 => ?_
  refine ⟨by rw [← r2.len X.K X.mg, l2]; exact hz, fun kp' hkp => ?_⟩
  split at h2
  next ks xs q hρ hq =>
    obtain ⟨hzz, h2⟩ := h2
    have st := Step.tup' (o := .tup ys) g2.ok.sub hkp
    have g3 := st.go g2.ok
    have g12 := (g1.trans X.K X.mg g2).trans X.K X.mg g3
    obtain ⟨p3, dx3, gs3, u3, a3, t1, t2, t3, t4, t5, t6, t7⟩ := box_go (c := { c2 with F := upd c2.F kp' (.tup ys), H := upd c2.H kp' (.tup ys) }) g3.ok hC hρ
    have t1' : c2.σ[i]? = some (some (V.ref p3)) := t1
    rw [e2, b1] at t1'
    cases t1'
    have hp2 : c2.H p1 = c1.H p1 := kp2 p1 (by rw [b2]; simp)
    have np : p1 ≠ kp' := fun z => by subst z; rw [hp2, b2] at hkp; cases hkp
    have t2' : upd c2.H kp' (.tup ys) p1 = some (.ins Cl dx3 gs3) := t2
    rw [upd_ne np, hp2, b2] at t2'
    cases t2'
    rw [b3] at t3
    cases t3
    obtain ⟨eu, kvs, hd, hm, rg⟩ := t4
    subst eu
    have pr := putT_rep (q := q) hm rg (r1.mono X.K X.mg (g2.fr.mono.trans st.mono) _ _)
    obtain rfl := keys_rep r2 hq
    have ln : kvs.length < sizeLine := by rw [← hm] at hzz; simpa using hzz
    refine ⟨a3, upd (upd c2.H kp' (.tup (q.map L2.kV))) a3 (.dT (putK kvs q v)), rfl, .inr ⟨kvs, q, kp', hd, rfl, upd_same, ln, rfl⟩, ?_⟩
    have g4 := t7 (.dit (putTs ks q) (putTd ks xs q d)) (upd (upd c2.H kp' (.tup (q.map L2.kV))) a3 (.dT (putK kvs q v))) ⟨rfl, _, upd_same, pr.1, pr.2⟩ fun b hb => upd_ne hb
    have := P.1 _ (g12.trans X.K X.mg g4) h2
    rw [← e2]
    exact this
  next => exact h2.elim
/-- o.f.append(e) -/
def wAppF (i : Nat) (cn f : Str) (w : WE) : WE := fun ρ Q Ep => (∃ xs, boxOf ρ i cn f = some (.lst xs)) ∧ wK w ρ (fun d ρ' => match boxOf ρ' i cn f with
  | some (.lst ds) => ds.length < sizeLine ∧ Q (.val .non) (boxTo ρ' i f (.lst (ds ++ [d])))
  | _ => False) Ep
theorem pd_appF {i : Nat} {cn f x : Str} {Cl : Addr} {e : Expr} {p fp apos cpos : Pos} {w : WE} (hC : X.mg cn = some (.ref Cl)) (cl : Cls X.K Cl) (hn : NoAttr X.K Cl f) (hx : PE X (.Name x p) (tVar i)) (h : PdQ X XE e w)
    (hb : attributeBase (.Name x p) f X.env (eval (.Name x p) X.env) = eval (.Name x p) X.env := by rfl)
    (hbase : attributeBase (.Attribute (.Name x p) f fp) "append" X.env (eval (.Attribute (.Name x p) f fp) X.env) = eval (.Attribute (.Name x p) f fp) X.env := by rfl)
    (hfew : ((backTo cpos (starEach [e] X.env)).all (fun x => !x.1) && (backToKw cpos (keywordEach [] X.env)).all (fun x => x.1.isSome)
      && decide ([e].length + ([] : List Keyword).length + (if ([] : List Keyword).isEmpty then 0 else 1) < 30)) = true := by rfl)
    (hline : (apos.endLine == cpos.line) = true := by rfl) (hs : starEach [e] X.env = (false, eval e X.env) :: starEach [] X.env := by rfl) (hplain : (backTo cpos (starEach [] X.env)).any (·.1) = false := by rfl) :
    PdE X XE (.Call (.Attribute (.Attribute (.Name x p) f fp) "append" apos) [e] [] cpos) (wAppF i cn f w) := by
  obtain ⟨t, pe, s⟩ := h
  refine ⟨_, pe_bm PySem.F.plainAttrs_list PySem.F.slot_list_append PySem.F.type_list_append mt_append (pe_fld hx hb) (pa_cons pe pa_nil hs) hbase hfew hline hs hplain, fun c Qp Ep Q ok hw x k => ?_⟩
  obtain ⟨⟨xs0, h0⟩, hw⟩ := hw
  obtain ⟨p1, dx1, gs1, u1, a1, b1, b2, b3, b4, b5, b6, b7⟩ := box_go ok hC h0
  obtain ⟨eu, ys0, hl0, _⟩ := b4
  subst eu
  refine ⟨.ref p1, b1, p1, Cl, dx1, gs1, .ref a1, rfl, b2, cl, hn, b3, .inl ⟨rfl, ys0, SqL.of hl0⟩, ?_⟩
  refine runKQ s ok hw x fun v c1 d g1 e1 k1 r1 h1 => ?_
  split at h1
  next ds hρ =>
    obtain ⟨hz, h1⟩ := h1
    obtain ⟨p3, dx3, gs3, u3, a3, t1, t2, t3, t4, t5, t6, t7⟩ := box_go g1.ok hC hρ
    rw [e1, b1] at t1
    cases t1
    rw [k1 p1 (by rw [b2]; simp), b2] at t2
    cases t2
    rw [b3] at t3
    cases t3
    obtain ⟨eu, xs, ha, ra⟩ := t4
    cases eu
    refine ⟨a1, xs, v, rfl, rfl, ha, by rw [← ra.len X.K X.mg]; exact hz, ?_⟩
    have g2 := t7 (.lst (ds ++ [d])) (upd c1.H a1 (.lst (xs ++ [v]))) ⟨rfl, _, upd_same, ra.app X.K X.mg (RepL.one X.K X.mg r1)⟩ fun b hb => upd_ne hb
    exact k _ _ (.val .non) (g1.trans X.K X.mg g2) e1 rfl h1
  next => exact h1.elim
end
end PL
/-! PX15: tuple-keyed dicts walked: keys, items. -/
namespace PL
open PySem PySem.Spec PyProof.Rows L2
section
variable {X : Cx} {pins : List (Addr × Obj)} {σ : L2.St} {H : Hp} {s : Shared}
/-- a locked tuple-keyed dict, as the library has it: entry by entry, with values -/
theorem frzT2 {d : Addr} {o : Obj} {kvs : List (List Key × V)} (I : Inv X pins σ H s) (h : H d = some (.frz o (.dT kvs))) :
    (d == sysModules) = false ∧ s.heap.get? d = some o ∧ o.ExactDict ∧ ∃ (es : Array DictEntry) (ep : Nat), o.data = .dict es ep ∧ es.size = kvs.length ∧
      ∀ (i : Nat) (k : List Key) (v : V) (hi : i < es.size), kvs[i]? = some (k, v) → ∃ q, es[i].key = .ref q ∧ H q = some (.tup (k.map L2.kV)) ∧ RelV v es[i].val := by
  obtain ⟨g0, _, g1, xs, pr, o2, es, ep, ho, hx, hdt, he, _⟩ := I.hok d _ h
  rw [g0] at ho; cases ho
  have len : kvs.length = xs.length := Paired.length pr
  refine ⟨g1, g0, hx, es, ep, hdt, (size_of_entries he).trans len.symm, fun i k v hi e => ?_⟩
  obtain ⟨b, hb, e1, e2, e3⟩ := paired_get pr e
  have q := entry_at he i
  rw [hb, Array.getElem?_eq_getElem hi] at q
  have q' : es[i] = entryOfKey (tupleKind (mixKind X.prog X.w)) b := Option.some.inj q
  rw [q']
  exact ⟨b.2.1, rfl, e2, e3⟩
end
/-- the pairs of a locked tuple-keyed dict, each a new tuple of the key's own tuple and the value -/
def ItiT (d : Addr) (o : Obj) (kvs : List (List Key × V)) : It where
  go i H := H d = some (.frz o (.dT kvs)) ∧ i < kvs.length
  yld i H x H' := ∃ T q k v, kvs[i]? = some (k, v) ∧ H q = some (.tup (k.map L2.kV)) ∧ x = .ref T ∧ H T = none ∧ H' = upd H T (.tup [.ref q, v])
  stop i H := H d = some (.frz o (.dT kvs)) ∧ kvs.length ≤ i
section
variable {P : Program} {w : World} {K : PySem.W.Frag} {d : Addr} {o : Obj} {es : Array DictEntry} {ep : Nat}
theorem turnIT {kvs : List (List Key × V)} {elts : List Expr} {kk : Nat} {tpos : Pos} (it : Addr) (hod : o.data = .dict es ep) :
    Turn P w K (.Tuple elts kk tpos) (ItiT d o kvs) [it] it (fun i h => ∃ kO vO, IsItemIter h it d i kvs.length ep kO vO) := by
  refine ⟨List.mem_singleton.mpr rfl, fun i h st b hb => ?_, fun i h h' st kp => ?_, ?_, ?_, fun A i s Q E st h => ?_⟩
  · obtain ⟨kO, vO, e⟩ := st
    rw [List.mem_singleton.mp hb]
    exact ⟨_, e, fun v z => nomatch z⟩
  · obtain ⟨kO, vO, e⟩ := st
    exact ⟨kO, vO, kp it (List.mem_singleton.mpr rfl) _ e⟩
  · rintro X rfl rfl rfl hcalm i pins s σ H E I hf ⟨kO, vO, he⟩ hgo
    obtain ⟨hd, hi⟩ := hgo
    obtain ⟨hs, hgd, hx, es', ep', hdt, hsz, ent⟩ := frzT2 I hd
    obtain ⟨rfl, rfl⟩ := dict_ep hod hdt
    have hi' : i < es'.size := by rw [hsz]; exact hi
    obtain ⟨q, hq1, hq2, hq3⟩ := ent i kvs[i].1 kvs[i].2 hi' (List.getElem?_eq_getElem hi)
    rw [← hsz] at he
    have small : it < s.heap.objs.size := Heap.lt_size he
    refine DT.nextI he ⟨o, hgd, hx, hod⟩ hi' fun h1 ho hT _ hk => ?_
    refine ⟨_, rfl, wpAny_letOwnedTupleGo_items (s := { s with heap := h1 }) ho fun h2 he2 sb => ?_⟩
    have tup2 : h2.get? s.heap.objs.size = some { cls := .type "tuple", data := .seq #[es'[i].key, es'[i].val] } := (sb.2 _ (Nat.ne_of_gt small)).trans hT
    have fresh : ObjOk X.prog X.w (upd H s.heap.objs.size (.tup [.ref q, kvs[i].2])) h2 s.heap.objs.size (.tup [.ref q, kvs[i].2]) :=
      ⟨by show 2 ≤ sizeLine; decide, [es'[i].key, es'[i].val], .cons hq1 (.cons hq3 .nil), ⟨_, tup2, rfl, _, rfl⟩⟩
    have I2 := I.turnedNew (t' := s.toks) (ch := [it]) (h' := h2) (fun b ob hb e => by
      have hne : b ≠ it := fun z => hb (List.mem_singleton.mpr z)
      exact (sb.2 b hne).trans (hk b ob hne e)) hf (Nat.le_refl _) fresh
    refine ⟨.ref s.heap.objs.size, _, I2, rfl, ⟨_, q, kvs[i].1, kvs[i].2, List.getElem?_eq_getElem hi, hq2, rfl, I.hok.fresh (Nat.le_refl _), rfl⟩, ⟨_, _, by rw [← hsz]; exact he2⟩, fun b hb => ?_⟩
    rw [List.mem_singleton.mp hb, upd_ne (Nat.ne_of_lt small)]
    exact (hf it (List.mem_singleton.mpr rfl)).1
  · rintro X rfl rfl rfl hcalm i pins s σ H E I hf ⟨kO, vO, he⟩ hgo
    obtain ⟨hd, hi⟩ := hgo
    obtain ⟨hs, hgd, hx, es', ep', hdt, hsz, ent⟩ := frzT2 I hd
    obtain ⟨rfl, rfl⟩ := dict_ep hod hdt
    obtain ⟨f0, f1, f2, f3, f4, f5⟩ := hf it (List.mem_singleton.mpr rfl)
    rw [← hsz] at he
    refine DT.endI (I.ok.hd hcalm) he ⟨o, hgd, hx, hod⟩ (by rw [hsz]; exact hi) fun h' eb => ⟨rfl, ?_⟩
    exact I.turned (t' := s.toks) (fun b ob hb e => eb b ob hb e) f0 f1 f3 f4 f5
  · obtain ⟨kO, vO, e⟩ := st
    exact PySem.W.kcp_self e h
end
def iItemsT (td : TE) : TI := fun σ H R => td σ H fun x H1 => ∃ d o kvs, x = .ref d ∧ H1 d = some (.frz o (.dT kvs)) ∧ R (ItiT d o kvs) H1
section
variable {X : Cx} {XE : XK} {k : Nat}
theorem pi_itemsT {e : Expr} {td : TE} {apos cpos tpos : Pos} {elts : List Expr} {kk : Nat} (he : PE X e td) (hbase : attributeBase e "items" X.env (eval e X.env) = eval e X.env) (hline : (apos.endLine == cpos.line) = true) :
    PI X (.Tuple elts kk tpos) (.Call (.Attribute e "items" apos) [] [] cpos) (iItemsT td) := by
  constructor
  intro pins s σ H R I h
  refine wpAny_Call_method (T := "dict") (id := "dict.items") hbase rfl hline PySem.F.plainAttrs_dict PySem.F.slot_dict_items PySem.F.type_dict_items ?_
  refine thn (he.run pins s σ H _ I h) fun u s1 ⟨x, H1, I1, rx, d, o, kvs, ex, hd, q⟩ => ?_
  subst ex
  obtain rfl : u = Value.ref d := rx
  obtain ⟨hs, hgd, hx, es, ep, hdt, hsz, _⟩ := frzT2 I1 hd
  have raw : DT.Raw s1.heap d es ep := ⟨o, hgd, hx, hdt⟩
  refine ⟨raw.typeIs, fun b hb => ?_, ?_⟩
  · cases hb
    exact ⟨o, hgd, hx.2.1⟩
  have I2 := I1.kept (t' := s1.toks) (h' := s1.heap.push { cls := .type "dict_items", data := .fields #[.ref d] }) fun b ob q => Heap.get?_push_of_some _ q
  refine method_meetsIn PySem.F.slot_dict_items PySem.F.entry_dict_items rfl (PySem.evalArgs_none ⟨rfl, raw.typeIs, PySem.F.args_dict_items_1 _, _, DT.meetsItems (es := es) (ep := ep) hs, raw, ?_⟩)
  refine DT.iterI (d := d) ⟨_, Heap.get?_push_size _ rfl, rfl, rfl⟩ (raw.push _) ?_
  refine pi_one (tk := s1.toks) I2 _ (turnIT _ hdt) ⟨.none, .none, ?_⟩ q
  rw [← hsz]
  exact Heap.get?_push_size _ rfl
end
end PL
/-! PX16: over the heap alone: the function lambda x: x[0] called with a pair; sorted(a view, key=..) for a dict with one entry at most. -/
namespace PL
open PySem PySem.Spec PyProof.Rows L2
section
variable {prog : Program} {w : World} {A : Around} {s : Shared}
/-- what the function's object must be -/
structure LamFst (params : Arguments) (scope : Scope) (x : Str) : Prop where
  names : scope.names = [(x, .local)]
  kind : scope.kind = .function
  co : scope.isCoroutine = false
  gen : scope.isGenerator = false
  dbg : (x == ("__debug__" : Str)) = false
  bind : ∀ (body : Expr) (qual : Str) (pm cdv ctv u : Value), bindArgs (PySem.W.kla_fn "<lambda>" qual params body scope [] pm cdv ctv) ⟨[u], []⟩ = pure [(x, u)]
theorem lam_first {f b c' : Addr} {qual : Str} {params : Arguments} {scope : Scope} {x k : Str} {t tq : Tok} {v pm ctv : Value} {j : Nat} {p1 p2 p3 : Pos} {oc : Obj} {vs : Array Value} (L : LamFst params scope x)
    (hf : s.heap.get? f = some (PySem.W.kla_obj "<lambda>" qual params (.Subscript (.Name x p1) (.Constant (.int 0) j p2) p3) scope [] pm c' ctv))
    (hc : s.heap.get? c' = some oc) (hcd : oc.data = .fields vs) (hcq : vs[1]? = some (.str qual tq)) (lim : s.heap.NoLimit) (room : A.depth < recursionLimit) (hb : IsTup s.heap b #[.str k t, v]) :
    wpAny (model prog w) A (call (.ref f) [.ref b]) (PySem.W.KeyPure (.str k) s) (fun _ _ => False) s := by
  refine wpAny_call (PySem.W.kla_callFunE room hf rfl L.co L.gen rfl ⟨c', oc, vs, tq, rfl, hc, hcd, hcq⟩ ?_)
  rw [L.bind]
  refine wpAny_pure (wpAny_newFunctionEnv (fun y hy => ?_) (fun y hy => ?_) (fun h₁ hns hsb => ⟨lim.fresh _ hsb, ?_⟩) L.kind)
  · rw [L.names] at hy
    rw [List.mem_singleton.mp hy]
    intro z; cases z
  · rw [List.mem_singleton.mp hy]
    show scope.names.lookup x = _
    rw [L.names]
    simp [List.lookup]
  · have kp : ∀ b o, s.heap.get? b = some o → h₁.get? b = some o := fun b o e => hsb.extBut b o (Nat.ne_of_lt (Heap.lt_size e)) (Heap.get?_push_of_some _ e)
    have hkd : (newEnv scope s.heap.objs.size mainGlobals [] (qual ++ ".<locals>.") (some f) (.ref c') none builtinsNs).kindOf x = some .local := by
      show scope.names.lookup x = _
      rw [L.names]
      simp [List.lookup]
    have hb' : IsTup h₁ b #[.str k t, v] := let ⟨o, ho, r⟩ := hb; ⟨o, kp _ _ ho, r⟩
    refine PySem.W.kla_codeExpr (Subscript_ (wpAny_Name (wpAny_loadName_local L.kind hkd hns (v := .ref b) (by simp [List.lookup]) (wpAny_Constant_int ?_)) L.dbg))
    refine subscriptTail_builtinR (x := .str k t) hb'.typeIs slot_tuple_getitem.lookup (getItem_tuple (j := 0) hb' (by decide) (by decide) rfl rfl ⟨rfl, ?_⟩) rfl
    exact ⟨h₁, _, rfl, kp, .str k t⟩
/-- the function's object -/
def LamAt (h : Heap) (f : Addr) (x : Str) (params : Arguments) (scope : Scope) : Prop := LamFst params scope x ∧ ∃ (c' : Addr) (qual : Str) (pm ctv : Value) (j : Nat) (p1 p2 p3 : Pos) (oc : Obj) (vs : Array Value) (tq : Tok),
  h.get? f = some (PySem.W.kla_obj "<lambda>" qual params (.Subscript (.Name x p1) (.Constant (.int 0) j p2) p3) scope [] pm c' ctv) ∧ h.get? c' = some oc ∧ oc.data = .fields vs ∧ vs[1]? = some (.str qual tq)
theorem each_zip : ∀ (as : List Addr) (kx : List Str), as.length = kx.length → PySem.W.EachIs (fun v (z : Addr × Str) => v = Value.ref z.1) (as.map Value.ref) (as.zip kx)
  | [], _, _ => by rw [List.zip_nil_left]; exact .nil
  | _ :: _, [], q => by simp at q
  | a :: as, k :: kx, q => .cons rfl (each_zip as kx (by simpa using q))
/-- sorted(view, key=lambda x: x[0]) -/
theorem sortedK {E : Value → Shared → Prop} {f r d : Addr} {x : Str} {params : Arguments} {scope : Scope} {es : Array DictEntry} {ep : Nat} {kx : List Str} {Q : Value → Shared → Prop} (hh : A.handled = none) (hf : LamAt s.heap f x params scope) (lim : s.heap.NoLimit) (room : A.depth + 3 < recursionLimit) (hu : A.units + 8 < cLine)
    (hv : s.heap.IsItemsView r d) (hm : DT.Raw s.heap d es ep) (hn : es.size ≤ sizeLine) (hk : kx.length = es.size) (hkx : ∀ (j : Nat) (e : DictEntry), es[j]? = some e → ∃ k t, kx[j]? = some k ∧ e.key = .str k t)
    (h : ∀ (h' : Heap) (tk : Nat) (as : List Addr) (l : Addr) (out : List Value) (c : Nat), (∀ b o, s.heap.get? b = some o → h'.get? b = some o) → as.length = es.size → DT.Made es s.heap.objs.size h' as → s.heap.objs.size < l → l ∉ as → h'.get? l = some (seqObj "list" out.toArray c) →
      PySem.W.EachIs (fun v (z : Addr × Str) => v = .ref z.1) out ((as.zip kx).mergeSort (PySem.W.dataLe false fun z => .str z.2)) → Q (.ref l) { s with heap := h', toks := tk }) :
    wpAny (model prog w) A (call (.builtin "sorted") [.ref r] [(Str.ofString "key", .ref f)]) Q E s := by
  refine call_function_entry_kw kind_sorted plain_sorted entry_sorted (PyProof.Rows.ksk_s1 _ _) ?_
  unfold Builtin.«sorted»
  refine wpAny_bind (m := checkCount "sorted" 1 1 _) (wpAny_pure ?_)
  refine wpAny_bind (DT.collectI (A := A.in1) (es := es) (ep := ep) hh hv hm hn fun h' tk as hkp hlt hl hG => ?_)
  refine wpAny_bind (wpAny_newList ?_ (by rw [List.length_map, hl]; exact hn))
  have hob : (h'.push { cls := .type "list", data := .seq (as.map Value.ref).toArray }).get? h'.objs.size = some (seqObj "list" (as.map Value.ref).toArray 0) := Heap.get?_push_size _ rfl
  have kb : ∀ b o, h'.get? b = some o → (h'.push { cls := .type "list", data := .seq (as.map Value.ref).toArray }).get? b = some o := fun b o e => Heap.get?_push_of_some _ e
  generalize hh2 : h'.push { cls := .type "list", data := .seq (as.map Value.ref).toArray } = h2 at hob kb ⊢
  have ne0 : ∀ b o, h'.get? b = some o → b ≠ h'.objs.size := fun b o e => Nat.ne_of_lt (Heap.lt_size e)
  have each := each_zip as kx (by omega)
  have zl : (as.zip kx).length ≤ sizeLine := by rw [List.length_zip]; omega
  refine wpAny_bind (wpAny_holding (wpAny_mono (PySem.W.list_sort_key_data (A := A.in1) (s := { s with heap := h2, toks := tk }) (E := E) (f := .ref f) (b := false) (R := fun v (z : Addr × Str) => v = .ref z.1) (bs := as.zip kx)
    (Q := fun v s' => v = .none ∧ Q (.ref h'.objs.size) s') (fun z => PyData.str z.2) hob each (fun d hd d' hd' => ?_) (.inr fun d hd => ?_) zl (fun z hz => ?_) (PyProof.Rows.ksk_l1 _ _) (PyProof.Rows.ksk_t1 _ _) (fun v z hR hz g tk2 kpg => ?_) fun out c h3 tk3 kp3 hD hlen hE => ⟨rfl, ?_⟩) (fun v s' x => ?_) fun _ _ e => e))
  · obtain ⟨z, _, rfl⟩ := List.mem_map.mp hd
    obtain ⟨z', _, rfl⟩ := List.mem_map.mp hd'
    rfl
  · obtain ⟨z, _, rfl⟩ := List.mem_map.mp hd
    exact ⟨(fun e => by cases e), fun xs e => by cases e⟩
  · show A.units + 1 + 1 + _ < cLine
    have : (PyData.str z.2).depth = 0 := by first | rfl | simp [PyData.depth]
    rw [this]; omega
  · subst hR
    obtain ⟨j, hj⟩ := List.mem_iff_getElem?.mp hz
    obtain ⟨hj1, hj2⟩ := List.getElem?_zip_eq_some.mp hj
    obtain ⟨e, he, hg⟩ := hG.pairs j z.1 hj1
    obtain ⟨k, t, hk1, hk2⟩ := hkx j e he
    rw [hj2] at hk1
    cases hk1
    obtain ⟨LF, c', qual, pm, ctv, j0, p1, p2, p3, oc, vs, tq, f1, f2, f3, f4⟩ := hf
    have up : ∀ b o, h'.get? b = some o → g.get? b = some o := fun b o e => kpg b o (ne0 b o e) (kb b o e)
    refine lam_first (s := { s with heap := g, toks := tk2 }) (v := e.val) (t := t) LF (up _ _ (hkp _ _ f1)) (up _ _ (hkp _ _ f2)) f3 f4 ?_ (by show A.depth < _; omega) ⟨_, up _ _ hg, rfl, 0, by rw [hk2]⟩
    exact lim.keeps fun b o e => up _ _ (hkp _ _ e)
  · have up : ∀ b o, h'.get? b = some o → h3.get? b = some o := fun b o e => kp3 b o (ne0 b o e) (kb b o e)
    refine h h3 tk3 as h'.objs.size out c (fun b o e => up _ _ (hkp _ _ e)) hl ⟨hG.rise, hG.above, fun j a hj => ?_⟩ hlt (fun z => Nat.lt_irrefl _ (hG.there z)) hD hE
    obtain ⟨e, he, hg⟩ := hG.pairs j a hj
    exact ⟨e, he, up _ _ hg⟩
  · exact wpAny_pure ⟨_, rfl, x.2⟩
end
end PL
/-! PX17: sorted(d.items(), key=lambda x: x[0]) for a dict by names with one entry at most. -/
namespace PL
open PySem PySem.Spec PyProof.Rows L2 LamX
section
variable {X : Cx} {pins : List (Addr × Obj)} {σ : L2.St} {H : Hp} {s : Shared}
/-- a lambda made: the table of the def at P has one code object more, or nothing has changed -/
def LamStep (P : Addr) (q : Str) (H H1 : Hp) : Prop := H1 = H ∨ ∃ ps qs c', H P = some (.tbl ps) ∧ H c' = none ∧ H1 = upd (upd H P (.tbl qs)) c' (CodeO c' q)
theorem LamStep.extN {P : Addr} {q : Str} {H H1 : Hp} (x : LamStep P q H H1) : ExtN H H1 := by
  rcases x with rfl | ⟨ps, qs, c', hP, hc, rfl⟩
  · exact ExtN.refl _
  · intro b o e n
    have hb : b ≠ P := fun z => by subst z; rw [hP] at e; exact n ps (Option.some.inj e).symm
    rw [upd_ne (ne_of_none e hc), upd_ne hb]; exact e
/-- the code objects of the lambdas in a def's table -/
structure LamDef (T : List (Addr × Str)) (X : Cx) (c P : Addr) : Prop where
  tab : TabB X.base X.mg c P
  code : X.env.code = .ref c
  mem : (P, X.env.qual ++ "<lambda>") ∈ T
  only : ∀ p ∈ T, p.1 = P → p.2 = X.env.qual ++ "<lambda>"
theorem cloNone (cells : List (Str × Addr)) {x : Str} {names : List (Str × NameKind)} (h : names = [(x, .local)]) : cloFrom cells names [] = [] := by
  subst h
  rfl
/-- a lambda of one parameter and no free name is made -/
theorem lamOne {T : List (Addr × Str)} {c P : Addr} {params : Arguments} {body : Expr} {scope : Scope} {x : Str} {pos : Pos} {E : Value → Shared → Prop} {Q : Value → Shared → Prop} (I : Inv X pins σ H s) (D : LamDef T X c P) (tb : Tabs T H) (nodef : defaultsOf params X.env = ([], [])) (one : scope.names = [(x, .local)])
    (go : ∀ (f c' : Addr) (pm ctv : Value) (H1 : Hp) (s' : Shared), Inv X pins σ H1 s' → LamStep P (X.env.qual ++ "<lambda>") H H1 → Tabs T H1 → s'.heap.get? f = some (PySem.W.kla_obj "<lambda>" (X.env.qual ++ "<lambda>") params body scope [] pm c' ctv) → H1 c' = some (CodeO c' (X.env.qual ++ "<lambda>")) → Q (.ref f) s') :
    wpAny (model X.prog X.w) X.A (eval (.Lambda params body scope pos) X.env) Q E s := by
  obtain ⟨ps, tP, trip, told⟩ := tb _ D.mem
  have nofree : ∀ y ∈ scope.names, y.2 = .free → ∃ c, X.env.cells.lookup y.1 = some c := fun y hy z => by
    rw [one] at hy; rw [List.mem_singleton.mp hy] at z; cases z
  have cl := closure_ok (env := X.env) nofree
  rw [cloNone _ one] at cl
  refine PySem.W.kla_eval nodef ?_
  have oP : s.heap.get? P = some { cls := .none, data := .fields ps } := I.hok P _ tP
  cases at_ : codeAmong pos ps.toList with
  | some cv =>
    obtain ⟨c', rfl, co⟩ := told pos cv at_
    refine PySem.W.kla_makeFunctionHit (c := c) (mg := X.mg) (ps := ps) (P := P) cl I.ok.glob (I.mod.glob.keeps I.bk) D.code (D.tab.code.keeps I.bk) oP trip at_ (D.tab.bm.keeps I.bk) fun ctv g tk old big => ?_
    exact go g.objs.size c' _ ctv H _ (I.kept fun b o e => Heap.get?_push_of_some _ (old b o e)) (.inl rfl) tb (Heap.get?_push_size _ rfl) co
  | none =>
    refine PySem.W.kla_makeFunction (c := c) (mg := X.mg) (ps := ps) (P := P) cl I.ok.glob (I.mod.glob.keeps I.bk) D.code (D.tab.code.keeps I.bk) oP trip at_ D.tab.gP (D.tab.bm.keeps I.bk) fun c' ctv g tk old ge lt rec_ oT => ?_
    obtain ⟨c2, oc, us, t, z, g1, g2, g3⟩ := rec_
    cases z
    have nc : H c' = none := I.hok.fresh ge
    have J := inv_table (t' := tk) (q := X.env.qual ++ "<lambda>") (c := c') (more := #[rawInt pos.line, rawInt pos.col, .ref c'])
      (h' := g.push (PySem.W.kla_obj "<lambda>" (X.env.qual ++ "<lambda>") params body scope [] ((X.mg "__name__").getD .none) c' ctv)) I tP (fun b o hb e => Heap.get?_push_of_some _ (old b o hb e)) (Heap.get?_push_of_some _ oT) ge ⟨oc, us, t, Heap.get?_push_of_some _ g1, g2, g3⟩
    have st : LamStep P (X.env.qual ++ "<lambda>") H (upd (upd H P (.tbl (ps ++ #[rawInt pos.line, rawInt pos.col, .ref c']))) c' (CodeO c' (X.env.qual ++ "<lambda>"))) := .inr ⟨ps, _, c', tP, nc, rfl⟩
    have tl : (ps ++ #[rawInt pos.line, rawInt pos.col, .ref c']).toList = ps.toList ++ [rawInt pos.line, rawInt pos.col, .ref c'] := by simp
    refine go g.objs.size c' _ ctv _ _ J st (fun p hp => ?_) (Heap.get?_push_size _ rfl) upd_same
    have keepC : ∀ b u, H b = some (CodeO b u) → upd (upd H P (.tbl (ps ++ #[rawInt pos.line, rawInt pos.col, .ref c']))) c' (CodeO c' (X.env.qual ++ "<lambda>")) b = some (CodeO b u) := fun b u e => st.extN b _ e codeO_ne
    by_cases hp1 : p.1 = P
    · have hp2 := D.only p hp hp1
      rw [hp1, hp2]
      refine ⟨ps ++ #[rawInt pos.line, rawInt pos.col, .ref c'], by rw [upd_ne (ne_of_none tP nc), upd_same], by rw [tl]; exact PySem.TriplesOk_snoc _ _ _ _ trip, fun p' cv e => ?_⟩
      rw [tl] at e
      rcases among_app _ trip e with e | e
      · obtain ⟨c0, y1, y2⟩ := told p' cv e
        exact ⟨c0, y1, keepC _ _ y2⟩
      · exact ⟨c', e, upd_same⟩
    · obtain ⟨ps2, y1, y2, y3⟩ := tb p hp
      refine ⟨ps2, by rw [upd_ne (ne_of_none y1 nc), upd_ne hp1]; exact y1, y2, fun p' cv e => ?_⟩
      obtain ⟨c0, z1, z2⟩ := y3 p' cv e
      exact ⟨c0, z1, keepC _ _ z2⟩
/-- the view of a dict by names -/
def rItemsK : V → List V → Hp → VK → Prop := fun x xs H Q => ∃ (a : Addr) (kvs : List (L2.Key × V)), x = .ref a ∧ xs = [] ∧ H a = some (.dK kvs) ∧ ∀ p, H p = none → Q (.ref p) (upd H p (DX.itemsO p a))
theorem rawK {a : Addr} {kvs : List (L2.Key × V)} (I : Inv X pins σ H s) (h : H a = some (.dK kvs)) : (a == sysModules) = false ∧ ∃ es ep vs, DT.Raw s.heap a es ep ∧ KV kvs vs ∧ Pairs (mixKind X.prog X.w) es.toList vs ∧ es.size ≤ sizeLine := by
  obtain ⟨z, hd, vs, kv, o, es, ep, ho, hx, hdat, _, pr, _⟩ := I.hok a _ h
  refine ⟨hd, es, ep, vs, ⟨o, ho, hx, hdat⟩, kv, pr, ?_⟩
  have l1 : kvs.length = vs.length := Paired.length kv
  have l2 : ∀ {es : List DictEntry} {vs : List (L2.Key × Value)}, Pairs (mixKind X.prog X.w) es vs → es.length = vs.length := fun {es vs} p => by
    induction p with
    | nil => rfl
    | cons _ _ _ ih => simp [ih]
  have := l2 pr
  rw [← Array.length_toList]
  omega
theorem strK {prog : Program} {w : World} {x0 : Str} {v : Value} (h : (mixKind prog w).is (.inr x0) v = true) : ∃ t, v = .str x0 t := by
  have h' : keyIs (.inr x0) v = true := h
  rcases keyIs_shape h' with ⟨i, t, z, u⟩ | ⟨y, t, z, u⟩
  · first | exact absurd z (by simp) | exact absurd u (by simp)
  · first | (injection u with u; subst u; exact ⟨t, z⟩) | (injection z with z; subst z; exact ⟨t, u⟩)
theorem pairs0 {l : List DictEntry} {prog : Program} {w : World} (h : Pairs (mixKind prog w) l []) : l = [] := by
  cases h
  rfl
theorem pairs1 {l : List DictEntry} {prog : Program} {w : World} {k : L2.Key} {v : Value} (h : Pairs (mixKind prog w) l [(k, v)]) : ∃ en, l = [en] ∧ (mixKind prog w).is k en.key = true ∧ en.val = v := by
  cases h with
  | cons a1 a2 a3 => exact ⟨_, by rw [pairs0 a3], a1, a2⟩
theorem mt_itemsK : MtR X "dict.items" rItemsK := by
  intro pins s σ H x xs v us Q I rx rxs h
  obtain ⟨a, kvs, rfl, rfl, ha, q⟩ := h
  cases rx
  cases rxs
  obtain ⟨hd, es, ep, vs, raw, _⟩ := rawK I ha
  refine DT.callItems (es := es) (ep := ep) hd raw ⟨.ref s.heap.objs.size, upd H s.heap.objs.size (DX.itemsO s.heap.objs.size a), ?_, rfl, q _ (I.hok.fresh (Nat.le_refl _))⟩
  exact I.laid (t' := s.toks) (fun b u e => Heap.get?_push_of_some _ e) (Nat.le_refl _) (DX.itemsO_ok (Heap.get?_push_size _ rfl))
def tSortK (T : List (Addr × Str)) (P : Addr) (q : Str) (t : TA) : TE := fun σ H Q => t σ H fun vs H1 => ∃ p a kvs, vs = [.ref p] ∧ H1 p = some (DX.itemsO p a) ∧ H1 a = some (.dK kvs) ∧ kvs.length ≤ 1 ∧ (∀ e ∈ kvs, ∃ x, e.1 = Sum.inr x) ∧ Tabs T H1 ∧
  ∀ H2, LamStep P q H1 H2 → Tabs T H2 → ∀ l, H2 l = none → (kvs = [] → Q (.ref l) (upd H2 l (.lst []))) ∧ ∀ x v b, kvs = [(.inr x, v)] → H2 b = none → b ≠ l → Q (.ref l) (upd (upd H2 b (.tup [.str x, v])) l (.lst [.ref b]))
theorem pe_sortK {T : List (Addr × Str)} {c P : Addr} {k : Nat} {x : Str} {t : TA} {e : Expr} {params : Arguments} {scope : Scope} {j : Nat} {p p1 p2 p3 lpos kpos pos : Pos} (calm : X.calm = true) (room : Room (k + 1) X.A) (D : LamDef T X c P) (L : LamFst params scope x) (nodef : defaultsOf params X.env = ([], []))
    (hg : Gl X "sorted") (hm : X.mg "sorted" = none) (ha : PA X [e] t)
    (he : backTo pos (starEach [e] X.env) = (false, eval e X.env) :: backTo pos (starEach [] X.env) := by rfl) (hpl : (backTo pos (starEach [e] X.env)).any (·.1) = false := by rfl) :
    PE X (.Call (.Name "sorted" p) [e] [⟨some "key", .Lambda params (.Subscript (.Name x p1) (.Constant (.int 0) j p2) p3) scope lpos, kpos⟩] pos) (tSortK T P (X.env.qual ++ "<lambda>") t) := by
  refine ⟨fun pins s σ H Q I h => ?_⟩
  refine wpAny_Call_Name_kw (ld_blt I hg hm (u := .builtin "sorted") (by rfl) ?_)
  refine PyProof.Rows.callWith_kw (thn (ha.run pos pins s σ H _ I h) fun us s1 ⟨vs, H1, I1, r1, q1⟩ => ?_) he hpl (by rfl) (by rfl)
  obtain ⟨vp, a, kvs, rfl, hvp, hva, hk1, hks, tb, q⟩ := q1
  obtain rfl := Vals.ref1 r1
  show wpAny _ _ (evalAll [do let v ← eval (.Lambda params (.Subscript (.Name x p1) (.Constant (.int 0) j p2) p3) scope lpos) X.env; standAt pos; pure v]) _ _ s1
  refine wpAny_evalAll_cons (wpAny_bind (lamOne I1 D tb nodef L.names fun f c' pm ctv H2 s2 I2 st tb2 of oc => wpAny_bind (wpAny_standAt (wpAny_pure ?_))))
  refine wpAny_evalAll_nil ?_
  show wpAny _ _ (call (.builtin "sorted") [.ref vp] [(Str.ofString "key", .ref f)]) _ _ s2
  have vp2 : H2 vp = some (DX.itemsO vp a) := st.extN _ _ hvp fun ps z => by unfold DX.itemsO at z; cases z
  have va2 : H2 a = some (.dK kvs) := st.extN _ _ hva fun ps z => by cases z
  obtain ⟨hd, es, ep, vs2, raw, kv, pr, hz⟩ := rawK I2 va2
  have view : s2.heap.IsItemsView vp a := (show ObjOk X.prog X.w H2 s2.heap vp (DX.itemsO vp a) from I2.hok vp _ vp2).1
  obtain ⟨⟨oo, us2, tt, e1, e2, e3⟩, _⟩ := (show ObjOk X.prog X.w H2 s2.heap c' (CodeO c' (X.env.qual ++ "<lambda>")) from I2.hok c' _ oc)
  have lam : LamAt s2.heap f x params scope := ⟨L, c', _, pm, ctv, j, p1, p2, p3, oo, us2, tt, of, e1, e2, e3⟩
  have q2 := q H2 st tb2
  have rd := room.dp
  have ru := room.un
  cases kv with
  | nil =>
    have e0 : es.toList = [] := pairs0 pr
    have es0 : es.size = 0 := by rw [← Array.length_toList, e0]; rfl
    refine sortedK (kx := []) (I2.ok.hd calm) lam I2.nolimit (by omega) (by omega) view raw hz (by simp [es0]) (fun i e he => ?_) fun h' tk as l out cc keep la _ hl _ ol each => ?_
    · have : i < es.size := (Array.getElem?_eq_some_iff.mp he).1
      omega
    · have as0 : as = [] := List.length_eq_zero_iff.mp (by omega)
      subst as0
      have o0 : out = [] := by
        have z := each.length
        simpa using z
      subst o0
      have nl : H2 l = none := I2.hok.fresh (Nat.le_of_lt hl)
      exact ⟨.ref l, _, I2.laid (t' := tk) keep (Nat.le_of_lt hl) (o := .lst []) ⟨Nat.zero_le _, [], cc, .nil, ol⟩, rfl, (q2 l nl).1 rfl⟩
  | @cons kv0 kq0 kvr kqr hkv rest =>
    have kr : kvr = [] := by simpa using hk1
    subst kr
    cases rest
    obtain ⟨k0, v0⟩ := kv0
    obtain ⟨x0, rfl⟩ : ∃ x0, k0 = Sum.inr x0 := hks _ List.mem_cons_self
    obtain ⟨k1, w0⟩ := kq0
    obtain ⟨z1, rv⟩ := hkv
    cases z1
    obtain ⟨en, e0, ek, ev⟩ := pairs1 pr
    have es1 : es.size = 1 := by rw [← Array.length_toList, e0]; rfl
    obtain ⟨t0, kt⟩ : ∃ t0, en.key = .str x0 t0 := by
      exact strK ek
    have at0 : ∀ (i : Nat) (e : DictEntry), es[i]? = some e → i = 0 ∧ e = en := fun i e he => by
      rw [← Array.getElem?_toList, e0] at he
      cases i with
      | zero => exact ⟨rfl, (Option.some.inj he).symm⟩
      | succ i => simp at he
    refine sortedK (kx := [x0]) (I2.ok.hd calm) lam I2.nolimit (by omega) (by omega) view raw hz (by simp [es1]) (fun i e he => ?_) fun h' tk as l out cc keep la made hl lna ol each => ?_
    · obtain ⟨rfl, rfl⟩ := at0 i e he
      exact ⟨x0, t0, rfl, kt⟩
    · obtain ⟨b, rfl⟩ : ∃ b, as = [b] := List.length_eq_one_iff.mp (by omega)
      obtain ⟨e, he, ho⟩ := made.pairs 0 b rfl
      obtain ⟨_, rfl⟩ := at0 0 e he
      have hbS : s2.heap.objs.size ≤ b := Nat.le_of_lt (made.above b (by simp))
      have nb : H2 b = none := I2.hok.fresh hbS
      have nl : H2 l = none := I2.hok.fresh (Nat.le_of_lt hl)
      have bl : b ≠ l := fun z => lna (by rw [z]; simp)
      have o1 : out = [.ref b] := by
        have z : [b].zip [x0] = [(b, x0)] := rfl
        rw [z, List.mergeSort_singleton] at each
        cases each with
        | cons y1 y2 => cases y2; rw [y1]
      subst o1
      rw [kt, ev] at ho
      have I3 : Inv X pins σ (upd H2 b (.tup [.str x0, v0])) { s2 with heap := h', toks := tk } :=
        I2.laid (t' := tk) keep hbS (o := .tup [.str x0, v0]) ⟨by show 2 ≤ sizeLine; decide, [.str x0 t0, w0], .cons ⟨t0, rfl⟩ (.cons rv .nil), ⟨_, ho, rfl, 0, rfl⟩⟩
      have I4 : Inv X pins σ (upd (upd H2 b (.tup [.str x0, v0])) l (.lst [.ref b])) { s2 with heap := h', toks := tk } :=
        I3.take (h' := h') (t' := tk) (fun _ _ _ e => e) (I2.fpOk (Nat.le_of_lt hl) (by rw [upd_ne bl.symm]; exact nl)) ⟨by show 1 ≤ sizeLine; decide, [.ref b], cc, .cons rfl .nil, ol⟩
      exact ⟨.ref l, _, I4, rfl, (q2 l nl).2 x0 v0 b rfl nb bl⟩
end
end PL
namespace PL
open PySem PySem.Spec PyProof.Rows L2 LamX
section
variable [HasT] {K : PySem.W.Frag} {mg : Str → Option Value}
theorem lam_go {c : Cfg} (ok : Ok K mg c) {P : Addr} {q : Str} {H2 : Hp} (st : LamStep P q c.H H2) (tb : Tabs HasT.T H2) : Go K mg c { c with H := H2 } := by
  rcases st with rfl | ⟨ps, qs, c', hP, hc, rfl⟩
  · exact Go.refl _ _ ok
  · have nPc : P ≠ c' := ne_of_none hP hc
    have atP : upd (upd c.H P (.tbl qs)) c' (CodeO c' q) P = some (.tbl qs) := by rw [upd_ne nPc, upd_same]
    have off : ∀ b, b ≠ P → b ≠ c' → upd (upd c.H P (.tbl qs)) c' (CodeO c' q) b = c.H b := fun b h1 h2 => by rw [upd_ne h2, upd_ne h1]
    have nn : ∀ b, c.H b ≠ none → b ≠ c' := fun b h z => by subst z; exact h hc
    have fpk : ∀ i b, b ∈ c.fp i → upd (upd c.H P (.tbl qs)) c' (CodeO c' q) b = c.H b := fun i b hb => by
      refine off b (fun z => ?_) (nn b (ok.out i b hb).2)
      subst z
      cases hρ : c.ρ[i]? with
      | none => rw [ok.non i fun e z => by rw [hρ] at z; cases z] at hb; cases hb
      | some oe =>
        cases oe with
        | none => rw [ok.non i fun e z => by rw [hρ] at z; cases z] at hb; cases hb
        | some e =>
          obtain ⟨v, _, eo⟩ := ok.slot i e hρ
          cases e with
          | val d => rw [show c.fp i = [] from eo.2] at hb; cases hb
          | own bb d =>
            obtain ⟨u, hu, pu⟩ := own_pl (show Own K mg c.F c.H d v (c.fp i) from eo) b hb
            rw [hP] at hu; cases hu; exact pu
    have grow : ∀ b, c.H b ≠ none → upd (upd c.H P (.tbl qs)) c' (CodeO c' q) b ≠ none := fun b h => by
      by_cases z : b = P
      · subst z; rw [atP]; simp
      · rw [off b z (nn b h)]; exact h
    refine ⟨⟨tb, fun a u e => ?_, ok.len, fun i e h => ?_, ok.non, fun i b hb => ⟨(ok.out i b hb).1, grow b (ok.out i b hb).2⟩, ok.disj, fun a xs e => ?_⟩, ⟨Mono.refl _, fun a h1 h2 h3 h4 => ⟨h1, off a (fun z => ?_) (nn a h2)⟩, grow⟩, fun i b hb => .inl ⟨i, hb⟩, fun i d h => ⟨d, h, Grw.refl _ _, rfl⟩⟩
    · obtain ⟨o', e1, l⟩ := ok.sub a u e
      by_cases z : a = P
      · subst z
        rw [hP] at e1; cases e1
        refine ⟨_, atP, ?_⟩
        rcases l with z | ⟨_, z, _⟩ | ⟨_, _, z, _⟩
        · exact .inr (.inr ⟨_, _, z.symm, rfl⟩)
        · cases z
        · exact .inr (.inr ⟨_, _, z, rfl⟩)
      · exact ⟨o', by show upd (upd c.H P _) c' _ a = _; rw [off a z (nn a (by rw [e1]; simp))]; exact e1, l⟩
    · obtain ⟨v, hv, eo⟩ := ok.slot i e h
      exact ⟨v, hv, eo.frame (Mono.refl _) fun b hb => fpk i b hb⟩
    · replace e : upd (upd c.H P (.tbl qs)) c' (CodeO c' q) a = some (.tup xs) := e
      by_cases z1 : a = c'
      · subst z1; rw [upd_same] at e; unfold CodeO at e; cases e
      · by_cases z2 : a = P
        · subst z2; rw [atP] at e; cases e
        · rw [off a z2 z1] at e; exact ok.tf a xs e
    · subst z; exact h4 _ hP
end
section
variable [HasT] {X : Cx} {XE : XK} {k : Nat}
/-- sorted(d.items(), key=lambda x: x[0]) at a slot -/
def wSortK (i : Nat) : WE := fun ρ Q Ep => match ρ[i]? with
  | some (some (.own _ (.dic ks ds))) => ks.length ≤ 1 ∧ (∀ k ∈ ks, ∃ x, k = Sum.inr x) ∧ Q (.tmp (.lst (itemsD ks ds))) ρ
  | _ => False
theorem pd_sortK {c P : Addr} {i : Nat} {x y : Str} {params : Arguments} {scope : Scope} {j : Nat} {p p0 p1 p2 p3 apos cpos lpos kpos pos : Pos} (calm : X.calm = true) (room : Room (k + 1) X.A) (D : LamDef HasT.T X c P) (L : LamFst params scope x) (nodef : defaultsOf params X.env = ([], []))
    (hg : Gl X "sorted") (hm : X.mg "sorted" = none) (hx : PE X (.Name y p0) (tVar i)) (hbase : attributeBase (.Name y p0) "items" X.env (eval (.Name y p0) X.env) = eval (.Name y p0) X.env := by rfl) (hline : (apos.endLine == cpos.line) = true := by rfl)
    (he : backTo pos (starEach [.Call (.Attribute (.Name y p0) "items" apos) [] [] cpos] X.env) = (false, eval (.Call (.Attribute (.Name y p0) "items" apos) [] [] cpos) X.env) :: backTo pos (starEach [] X.env) := by rfl) (hpl : (backTo pos (starEach [.Call (.Attribute (.Name y p0) "items" apos) [] [] cpos] X.env)).any (·.1) = false := by rfl)
    (hs : starEach [.Call (.Attribute (.Name y p0) "items" apos) [] [] cpos] X.env = (false, eval (.Call (.Attribute (.Name y p0) "items" apos) [] [] cpos) X.env) :: starEach [] X.env := by rfl) :
    PdE X XE (.Call (.Name "sorted" p) [.Call (.Attribute (.Name y p0) "items" apos) [] [] cpos] [⟨some "key", .Lambda params (.Subscript (.Name x p1) (.Constant (.int 0) j p2) p3) scope lpos, kpos⟩] pos) (wSortK i) := by
  refine ⟨_, pe_sortK calm room D L nodef hg hm (pa_cons (pe_bm0 PySem.F.plainAttrs_dict PySem.F.slot_dict_items PySem.F.type_dict_items mt_itemsK hx hbase hline) pa_nil hs) he hpl, fun c Qp Ep Q ok hw xo k => ?_⟩
  unfold wSortK at hw
  split at hw
  next b ks ds hρ =>
    obtain ⟨hl, hstr, hq⟩ := hw
    obtain ⟨v, hv, a, kvs, rfl, hft, ha, rfl, rr⟩ := ok.own hρ
    refine ⟨.ref a, hv, .inr (.inr (.inl ⟨rfl, .inl ⟨_, ha⟩⟩)), a, kvs, rfl, rfl, ha, fun p hp => ?_⟩
    have s1 := Step.new (o := DX.itemsO p a) ok.sub hp (fun xs z => by unfold DX.itemsO at z; cases z)
    have g1 := s1.go ok
    have pa : p ≠ a := fun z => by subst z; rw [hp] at ha; cases ha
    refine ⟨p, a, kvs, rfl, upd_same, by rw [upd_ne pa.symm]; exact ha, by simpa using hl, fun e he => hstr _ (List.mem_map_of_mem he), g1.ok.tabs, fun H2 st tb l hnl => ?_⟩
    have g2 := lam_go (c := { c with F := c.F, H := upd c.H p (DX.itemsO p a) }) g1.ok st tb
    have g12 := g1.trans _ _ g2
    refine ⟨fun e0 => ?_, fun x0 v0 b0 e1 hnb hbl => ?_⟩
    · subst e0
      have r0 : ds = [] := by cases ds with
        | nil => rfl
        | cons d ds => obtain ⟨_, _, z, _⟩ := rr; cases z
      subst r0
      have s3 := Step.new (o := .lst []) g2.ok.sub hnl
      exact k _ _ (.tmp (.lst [])) (g12.trans _ _ (s3.go g2.ok)) rfl (newR_rr g12 s3 (new_lst hnl g2.ok.sub rfl)) hq
    · subst e1
      obtain ⟨d0, rfl, r0⟩ : ∃ d0, ds = [d0] ∧ Rep X.K X.mg c.F d0 v0 := by
        cases ds with
        | nil => cases rr
        | cons d ds =>
          obtain ⟨_, _, z, r1, r2⟩ := rr
          cases z
          cases ds with
          | nil => exact ⟨d, rfl, r1⟩
          | cons d2 ds => obtain ⟨_, _, z, _⟩ := r2; cases z
      have s3 := Step.tup' (o := .tup [.str x0, v0]) g2.ok.sub hnb
      have g3 := s3.go g2.ok
      have rt : Rep X.K X.mg (upd c.F b0 (.tup [.str x0, v0])) (.tup [.str x0, d0]) (.ref b0) :=
        new_tup hnb g2.ok.sub (ds := [.str x0, d0]) (RepL.cons X.K X.mg (show Rep X.K X.mg c.F (.str x0) (.str x0) from rfl) (RepL.one X.K X.mg r0))
      have hnl2 : upd H2 b0 (.tup [.str x0, v0]) l = none := by rw [upd_ne hbl.symm]; exact hnl
      have s4 := Step.new (o := .lst [.ref b0]) g3.ok.sub hnl2
      have g123 := g12.trans _ _ g3
      exact k _ _ (.tmp (.lst [.tup [.str x0, d0]])) (g123.trans _ _ (s4.go g3.ok)) rfl (newR_rr g123 s4 (new_lst hnl2 g3.ok.sub (RepL.one X.K X.mg rt))) hq
  next => exact hw.elim
end
end PL
/-! PX18: [e for x in l], l a list that a slot owns and keeps. -/
namespace PL
open PySem PySem.Spec PyProof.Rows L2
variable [HasT]
def wLcS (sl : Nat) (items : List D) (wt : WG) (tt : WT) (we : WE) (vs : List Nat) : List D → List D → Env → (R → Env → Prop) → Prop
  | [], acc, ρ, Q => (∃ b, ρ[sl]? = some (some (.own b (.lst items)))) ∧ Q (.tmp (.lst acc)) ρ
  | d :: ds, acc, ρ, Q => (∃ b, ρ[sl]? = some (some (.own b (.lst items)))) ∧ wt d ρ fun ρ1 => tt ρ1 (fun b ρ2 => if b = true then wK we ρ2 (fun y ρ3 => wLcS sl items wt tt we vs ds (acc ++ [y]) (wipeE ρ3 vs) Q) (fun _ _ => False) else wLcS sl items wt tt we vs ds acc (wipeE ρ2 vs) Q) (fun _ _ => False)
/-- [e for x in l], l at slot sl -/
def wLcW (sl : Nat) (wt : WG) (tt : WT) (we : WE) (vs : List Nat) : WE := fun ρ Q Ep => match ρ[sl]? with
  | some (some (.own _ (.lst items))) => okW ρ vs = true ∧ sl ∉ vs ∧ items.length ≤ sizeLine ∧ wLcS sl items wt tt we vs items [] (wipeE ρ vs) fun r ρ' => Q r (restE ρ' ρ vs)
  | _ => False
section
variable {X : Cx} {XE : XK}
theorem lcW_so {k sl : Nat} {elt : Expr} {own : List (Str × Nat)} {is_ : List Nat} {ti : TI} {g : TG} {t : TT} {te : TE} {wt : WG} {tt : WT} {we : WE} (C : Cc X XE k)
    (hti : ∀ (σ : L2.St) (H : Hp) (R : It → Hp → Prop) (p : Addr), σ[sl]? = some (some (.ref p)) → (∃ xs, SqL X.K H p xs) → R (Itl X.K p) H → ti σ H R)
    (sg : ∀ (c : Cfg) (d : D) (v : V) (Qp : Env → Prop) (Q : L2.St → Hp → Prop), Ok X.K X.mg c → Rep X.K X.mg c.F d v → wt d c.ρ Qp →
      (∀ c', Go X.K X.mg c c' → Mono c.F c'.F → (∀ vs, (∀ i ∈ is_, i ∈ vs) → wipe c'.σ vs = wipe c.σ vs) → Qp c'.ρ → Q c'.σ c'.H) → g v c.σ c.H Q)
    (st : SoT X E0 t tt) (se : SoE X E0 te we) (hv : ∀ i ∈ is_, i ∈ own.map (·.2)) : SoE X XE (tLc ti g t te (own.map (·.2))) (wLcW sl wt tt we (own.map (·.2))) := by
  intro c Qp Ep Q okc hw x k
  generalize hvs : own.map (·.2) = vs at hv hw
  unfold wLcW at hw
  split at hw
  case h_2 => exact hw.elim
  rename_i bb items hsl
  obtain ⟨ow, hnv, hlen0, h1⟩ := hw
  obtain ⟨v0, hv0, p0, xs0, rfl, hfp0, hp0, r00⟩ := okc.own hsl
  refine hti _ _ _ p0 hv0 ⟨xs0, SqL.of hp0⟩ ?_
  let c1 := c
  have g1 : Go X.K X.mg c c1 := Go.refl _ _ okc
  have e1 : c1.σ = c.σ := rfl
  -- the list as it stands
  have atL : ∀ c' : Cfg, Ok X.K X.mg c' → c'.σ = wipe c.σ vs → (∃ b, c'.ρ[sl]? = some (some (.own b (.lst items)))) → ∃ xs, c'.H p0 = some (.lst xs) ∧ RepL X.K X.mg c'.F items xs := fun c' ok' es ⟨b, hb⟩ => by
    obtain ⟨v1, hv1, p1, xs1, rfl, _, hp1, r1⟩ := ok'.own hb
    rw [es, wipe_out hnv, hv0] at hv1
    cases hv1
    exact ⟨xs1, hp1, r1⟩
  intro A hA
  have fA : c1.F A = none := fresh_F g1.ok.sub hA
  have nfp : ∀ i, A ∉ c1.fp i := fun i z => (g1.ok.out i A z).2 hA
  have g0 : Go X.K X.mg c1 { c1 with H := upd c1.H A (.lst []) } := list_go (Go.refl _ _ g1.ok) hA fA nfp (pl_none hA)
  have nbor : ∀ i ∈ vs, ∀ d, c1.ρ[i]? ≠ some (some (.own true d)) := fun i hi d z => by
    obtain ⟨d', e⟩ := okW_of ow hi z
    cases e
  have gw : Go X.K X.mg c1 { c1 with H := upd c1.H A (.lst []), σ := wipe c.σ vs, ρ := wipeE c1.ρ vs, fp := fpW c1.fp vs } :=
    wipe_go g0 nbor (by rw [wipe_length]) fun i hi => by rw [wipe_out hi]
  refine ⟨fun i m H => ∃ c' acc xs, Go X.K X.mg c1 c' ∧ c'.σ = wipe c.σ vs ∧ c'.H = H ∧ m = items.length - i ∧ i ≤ items.length ∧ (∀ j ∈ vs, ∀ e, c'.ρ[j]? ≠ some (some e)) ∧ H A = some (.lst xs) ∧ RepL X.K X.mg c'.F acc xs ∧ c'.F A = none ∧ (∀ j, A ∉ c'.fp j) ∧ xs.length ≤ i ∧
    wLcS sl items wt tt we vs (items.drop i) acc c'.ρ fun r ρ' => Qp r (restE ρ' c1.ρ vs),
    ⟨_, _, [], [], gw, rfl, rfl, rfl, Nat.zero_le _, fun j hj e => wipeE_in hj, upd_same, rfl, fA, fun j z => ?_, Nat.le_refl _, h1⟩, ?_⟩
  · have z' : A ∈ fpW c1.fp vs j := z
    unfold fpW at z'
    split at z'
    · cases z'
    · exact nfp j z'
  rintro i m H ⟨c', acc, xs, g', es, rfl, rfl, hi, hn', hA', ra, fA', nf', hx', h'⟩
  by_cases hlt : i < items.length
  · have ed : items.drop i = items[i] :: items.drop (i + 1) := by rw [List.drop_eq_getElem_cons hlt]
    rw [ed] at h'
    have gi : items[i]? = some items[i] := by simp [hlt]
    obtain ⟨hown, h'⟩ := h'
    obtain ⟨xsl, hpl, rl⟩ := atL c' g'.ok es hown
    obtain ⟨x0, hx0, rx0⟩ := rl.get X.K X.mg gi
    have q1 : (Itl X.K p0).go i c'.H := ⟨xsl, x0, SqL.of hpl, hx0⟩
    have q2 : ∀ x H', (Itl X.K p0).yld i c'.H x H' → ∃ F', Step c'.F c'.H F' H' ∧ Rep X.K X.mg F' items[i] x := fun y H' q => by
      obtain ⟨rfl, q⟩ := q
      have := q xsl (SqL.of hpl)
      rw [hx0] at this; cases this
      exact ⟨c'.F, Step.refl g'.ok.sub, rx0⟩
    refine .inr ⟨q1, fun H2 => ∃ c2 acc2 xs2, Go X.K X.mg c1 c2 ∧ c2.σ = wipe c.σ vs ∧ c2.H = H2 ∧ (∀ j ∈ vs, ∀ e, c2.ρ[j]? ≠ some (some e)) ∧ H2 A = some (.lst xs2) ∧ RepL X.K X.mg c2.F acc2 xs2 ∧ c2.F A = none ∧ (∀ j, A ∉ c2.fp j) ∧ xs2.length ≤ i + 1 ∧
      wLcS sl items wt tt we vs (items.drop (i + 1)) acc2 c2.ρ fun r ρ' => Qp r (restE ρ' c1.ρ vs), fun H2 ⟨c2, a2, x2, b1, b2, b3, b5, b6, b7, b8, b9, b10, b11⟩ => ⟨items.length - (i + 1), by omega, c2, a2, x2, b1, b2, b3, rfl, hlt, b5, b6, b7, b8, b9, b10, b11⟩, fun v H' y => ?_⟩
    obtain ⟨F', stp, r⟩ := q2 v H' y
    have g2 := stp.go g'.ok
    have gg := g'.trans X.K X.mg g2
    have ew : wipe (wipe c.σ vs) vs = wipe c.σ vs := by
      have aux : ∀ (l : List Nat) (σ : L2.St), (∀ j ∈ l, ∀ y, σ[j]? ≠ some (some y)) → wipe σ l = σ := by
        intro l
        induction l with
        | nil => intro σ _; rfl
        | cons a l ih =>
          intro σ h
          unfold wipe
          rw [ih σ fun j hj => h j (List.mem_cons_of_mem _ hj)]
          apply List.ext_getElem?
          intro j
          by_cases hj : a = j
          · subst hj
            by_cases hl : a < σ.length
            · rw [List.getElem?_set_self hl]
              have e1 : σ[a]? = some σ[a] := by simp [hl]
              cases q : σ[a] with
              | none => rw [e1, q]
              | some y => exact absurd (e1.trans (congrArg some q)) (h a List.mem_cons_self y)
            · rw [List.getElem?_eq_none (by simpa using hl), List.getElem?_eq_none (by omega)]
          · rw [List.getElem?_set_ne hj]
      exact aux vs _ fun j hj y z => (wipe_some z).2 hj
    rw [← es]
    refine sg { c' with F := F', H := H' } items[i] v _ _ g2.ok r h' fun c3 g3 e3 w3 h3 => ?_
    have gg3 := gg.trans X.K X.mg g3
    have w3' : wipe c3.σ vs = wipe c.σ vs := (w3 vs hv).trans (by show wipe c'.σ vs = _; rw [es, ew])
    refine ⟨by rw [w3', es], ?_⟩
    refine st c3 _ _ _ g3.ok h3 (XOk.none X.K X.mg) fun b c4 g4 e4 h4 => ?_
    have gg4 := gg3.trans X.K X.mg g4
    -- what stands at A still stands
    have stay : ∀ c5, Go X.K X.mg { c' with F := F', H := H' } c5 → c5.F A = none ∧ c5.H A = some (.lst xs) ∧ ∀ j, A ∉ c5.fp j := fun c5 g5 => by
      have g6 := g2.trans X.K X.mg g5
      obtain ⟨k1, k2⟩ := g6.fr.keep A fA' (by rw [hA']; simp) nf' (nt_of hA' True.intro)
      refine ⟨k1, k2.trans hA', fun j z => ?_⟩
      rcases g6.orig j A z with ⟨j', hj⟩ | e
      · exact nf' j' hj
      · rw [hA'] at e; cases e
    have hlen : ∀ c5, Go X.K X.mg c1 c5 → c5.σ.length = (wipe c.σ vs).length → True := fun _ _ _ => True.intro
    cases b with
    | true =>
      rw [if_pos rfl] at h4 ⊢
      rw [← e4]
      refine runK (e := elt) se g4.ok h4 (XOk.none X.K X.mg) fun v5 c5 d5 g5 e5 r5 h5 => ?_
      have gx := (g3.trans X.K X.mg g4).trans X.K X.mg g5
      have gg5 := gg4.trans X.K X.mg g5
      obtain ⟨s1, s2, s3⟩ := stay c5 gx
      refine ⟨xs, s2, Nat.lt_of_lt_of_le (Nat.lt_of_le_of_lt hx' hlt) hlen0, ?_⟩
      have eσ : c5.σ = c3.σ := e5.trans e4
      have gl : Go X.K X.mg c1 { c5 with H := upd c5.H A (.lst (xs ++ [v5])) } := list_go gg5 hA s1 s3 (pl_some s2 True.intro)
      have w5 : wipe c5.σ vs = wipe c.σ vs := by rw [eσ, w3']
      have gw5 : Go X.K X.mg c1 { c5 with H := upd c5.H A (.lst (xs ++ [v5])), σ := wipe c.σ vs, ρ := wipeE c5.ρ vs, fp := fpW c5.fp vs } :=
        wipe_go gl nbor (by rw [← w5, wipe_length]) fun j hj => by rw [← w5, wipe_out hj]
      refine ⟨_, acc ++ [d5], xs ++ [v5], gw5, es.symm, rfl, fun j hj e => wipeE_in hj, upd_same, ?_, s1, fun j z => ?_, by simp; omega, h5⟩
      · exact RepL.app X.K X.mg (ra.mono X.K X.mg (stp.mono.trans gx.fr.mono) _ _) (RepL.one X.K X.mg r5)
      · have z' : A ∈ fpW c5.fp vs j := z
        unfold fpW at z'
        split at z'
        · cases z'
        · exact s3 j z'
    | false =>
      rw [if_neg Bool.false_ne_true] at h4 ⊢
      have gx := g3.trans X.K X.mg g4
      obtain ⟨s1, s2, s3⟩ := stay c4 gx
      have w5 : wipe c4.σ vs = wipe c.σ vs := by rw [e4, w3']
      have gw5 : Go X.K X.mg c1 { c4 with σ := wipe c.σ vs, ρ := wipeE c4.ρ vs, fp := fpW c4.fp vs } :=
        wipe_go gg4 nbor (by rw [← w5, wipe_length]) fun j hj => by rw [← w5, wipe_out hj]
      refine ⟨_, acc, xs, gw5, es.symm, rfl, fun j hj e => wipeE_in hj, s2, ra.mono X.K X.mg (stp.mono.trans gx.fr.mono) _ _, s1, fun j z => ?_, by omega, h4⟩
      have z' : A ∈ fpW c4.fp vs j := z
      unfold fpW at z'
      split at z'
      · cases z'
      · exact s3 j z'
  · have e : i = items.length := by omega
    subst e
    rw [List.drop_length] at h'
    obtain ⟨hown, h'⟩ := h'
    obtain ⟨xsl, hpl, rl⟩ := atL c' g'.ok es hown
    refine .inl ⟨⟨xsl, SqL.of hpl, by rw [rl.len X.K X.mg]; exact Nat.le_refl _⟩, ?_⟩
    have ls : c1.σ.length = c'.σ.length := by rw [es, wipe_length, e1]
    have gr := rest_go g1 g' ow e1 hn' ls fun j hj => by rw [es, wipe_out hj, e1]
    refine k _ { c' with σ := c1.σ, ρ := restE c'.ρ c1.ρ vs } (.tmp (.lst acc)) gr e1 ⟨[A], ⟨A, xs, rfl, rfl, hA', ra⟩, fun b hb => ?_⟩ h'
    have eb : b = A := by simpa using hb
    subst eb
    refine ⟨fA', by show c'.H b ≠ none; rw [hA']; simp, ?_, nf'⟩
    cases q : c.H b with
    | none => rfl
    | some o => exact absurd hA (g1.fr.grow b (by rw [q]; simp))
theorem pd_lcW {k sl : Nat} {y : Str} {ppos : Pos} {elt tg : Expr} {ifs : List Expr} {scope : Scope} {own : List (Str × Nat)} {pos : Pos} {is_ : List Nat} {wt : WG} {tt : WT} {we : WE} (C : Cc X XE k) (hN : X.N.Nodup) (hx : PE X (.Name y ppos) (tVar sl)) (ok : BlkOk X.N X.env.scope scope own)
    (hg : ∀ i, PdG (bx X scope i) tg is_ wt) (ht : ∀ i, PdTs (bx X scope i) E0 ifs tt) (he : ∀ i, PdE (bx X scope i) E0 elt we) (hv : ∀ i ∈ is_, i ∈ own.map (·.2) := by decide) (hs : ∀ x, foldedSetIterable (.Name y ppos) X.env x = pure x := by intro _; rfl) :
    PdE X XE (.ListComp elt [⟨tg, .Name y ppos, ifs, 0⟩] scope pos) (wLcW sl wt tt we (own.map (·.2))) := by
  have pi : PI X tg (.Name y ppos) _ := pi_list hx
  obtain ⟨g, pg, sg⟩ := uniG hg
  obtain ⟨t, pt, st⟩ := uniT ht
  obtain ⟨te, pe, se⟩ := uniE he
  exact ⟨_, pe_lc C.calm hN pi ok (fun s H C cl fp => pg ⟨s, H, C, cl, fp⟩) (fun s H C cl fp => pt ⟨s, H, C, cl, fp⟩) (fun s H C cl fp => pe ⟨s, H, C, cl, fp⟩) hs, lcW_so (elt := elt) (sl := sl) C (fun σ H R p h1 h2 h3 => ⟨_, h1, p, rfl, h2, h3⟩) sg st se hv⟩
end
end PL
/-! PX19: zip(t, l): a tuple and a list that is at least as long. -/
namespace PL
open PySem PySem.Spec PyProof.Rows L2 RZ
section
variable {prog : Program} {w : World} {A : Around} {E : Value → Shared → Prop} {s : Shared} {z TI TO i1 i2 l1 l2 : Addr} {k1 k2 : Nat} {xs ys : Array Value} {x y a b : Value}
theorem zipTL_item {Q : Value → Shared → Prop} (Ap : ZipApart z TI TO i1 i2 l1 l2) (Z : IsZip s.heap z TI TO .none) (pI : IsPair s.heap TI (.ref i1) (.ref i2)) (pO : IsPair s.heap TO a b)
    (it1 : s.heap.IsTupleIter i1 l1 k1) (it2 : s.heap.IsListIter i2 l2 k2) (q1 : s.heap.IsTuple l1 xs) (q2 : s.heap.IsList l2 ys) (ex : xs[k1]? = some x) (ey : ys[k2]? = some y)
    (go : ∀ g, IsZip g z TI TO (rawInt s.heap.objs.size) → IsPair g TO x y → g.IsTupleIter i1 l1 (k1 + 1) → g.IsListIter i2 l2 (k2 + 1) → IsPair g s.heap.objs.size x y → g.objs.size = s.heap.objs.size + 1 →
      (∀ c o, c ≠ z → c ≠ TO → c ≠ i1 → c ≠ i2 → s.heap.get? c = some o → g.get? c = some o) → Q (.ref s.heap.objs.size) { s with heap := g }) :
    wpAny (model prog w) A (Builtin.«zip.__next__» ⟨[.ref z], []⟩) (fun r s' => ∃ v, r = .done (.ret v) ∧ Q v s') E s := by
  show wpAny _ _ (field (.ref z) 2 >>= _) _ _ s
  refine wpAny_bind (wpAny_field Z rfl (x := .bool false) rfl (?_ : wpAny _ _ (field (.ref z) 3 >>= _) _ _ _))
  refine wpAny_bind (wpAny_field Z rfl (x := .ref TI) rfl (wpAny_bind (wpAny_seqItems pI rfl ?_)))
  refine (?_ : wpAny _ _ (Builtin.SmallTypes.ownedTupleIsFree (.ref z) >>= _) _ _ _)
  unfold Builtin.SmallTypes.ownedTupleIsFree
  refine wpAny_bind (wpAny_bind (wpAny_field Z rfl (x := .none) rfl (wpAny_pure ?_)))
  simp only [if_true]
  refine wpAny_bind (wpAny_rule (wpAny_bind (wpAny_field Z rfl (x := .ref TO) rfl (wpAny_bind (wpAny_setField_rec Z (by simp) fun g1 Z1 e1 => ?_)))))
  replace Z1 : IsZip g1 z TI TO .ellipsis := Z1
  simp only [List.zipIdx_cons, List.zipIdx_nil, List.forIn_cons, List.forIn_nil]
  refine wpAny_bind (wpAny_bind (wpAny_bind (wpAny_onRaise (?_ : wpAny _ _ (Builtin.SmallTypes.nextOf (.ref i1) >>= _) _ _ _))))
  refine wpAny_bind (nextOf_tuple_item (it1.extBut e1.extBut Ap.i1z) (q1.extBut e1.extBut Ap.l1z) ex fun g2 n1 e2 => wpAny_pure ?_)
  have pO2 : IsPair g2 TO a b := e2.extBut _ _ Ap.TOi1 (e1.extBut _ _ Ap.TOz pO)
  refine wpAny_bind (wpAny_seqItems pO2 rfl (wpAny_bind (wpAny_updateSeq_pair pO2 fun g3 pO3 e3 => wpAny_bind (wpAny_letGo (wpAny_pure ?_)))))
  replace pO3 : IsPair g3 TO x b := pO3
  refine wpAny_bind (wpAny_bind (wpAny_onRaise (?_ : wpAny _ _ (Builtin.SmallTypes.nextOf (.ref i2) >>= _) _ _ _)))
  refine wpAny_bind (wpAny_nextOf_list_item (((it2.extBut e1.extBut Ap.i2z).extBut e2.extBut Ap.i12.symm).extBut e3.extBut Ap.TOi2.symm) (((q2.extBut e1.extBut Ap.l2z).extBut e2.extBut Ap.l2i1).extBut e3.extBut Ap.l2TO) ey fun g4 n2 e4 => wpAny_pure ?_)
  have pO4 : IsPair g4 TO x b := e4.extBut _ _ Ap.TOi2 pO3
  refine wpAny_bind (wpAny_seqItems pO4 rfl (wpAny_bind (wpAny_updateSeq_pair pO4 fun g5 pO5 e5 => wpAny_bind (wpAny_letGo (wpAny_pure (wpAny_pure ?_))))))
  replace pO5 : IsPair g5 TO x y := pO5
  refine wpAny_bind (wpAny_seqItems pO5 rfl (wpAny_bind (wpAny_newTuple ?_)))
  have size5 : g5.objs.size = s.heap.objs.size := by rw [e5.1, e4.1, e3.1, e2.1, e1.1]
  have Z5 : IsZip g5 z TI TO .ellipsis := e5.extBut _ _ Ap.TOz.symm (e4.extBut _ _ Ap.i2z.symm (e3.extBut _ _ Ap.TOz.symm (e2.extBut _ _ Ap.i1z.symm Z1)))
  have all5 : ∀ c o, c ≠ z → c ≠ TO → c ≠ i1 → c ≠ i2 → s.heap.get? c = some o → g5.get? c = some o := fun c o d1 d2 d3 d4 q =>
    e5.extBut _ _ d2 (e4.extBut _ _ d4 (e3.extBut _ _ d2 (e2.extBut _ _ d3 (e1.extBut _ _ d1 q))))
  have n15 : g5.IsTupleIter i1 l1 (k1 + 1) := ((n1.extBut e3.extBut Ap.TOi1.symm).extBut e4.extBut Ap.i12).extBut e5.extBut Ap.TOi1.symm
  have n25 : g5.IsListIter i2 l2 (k2 + 1) := n2.extBut e5.extBut Ap.TOi2.symm
  have zlt : z < g5.objs.size := Heap.lt_size Z5
  refine (?_ : wpAny _ _ (Builtin.SmallTypes.ownedTupleHandOut (.ref z) (.ref g5.objs.size) >>= _) _ _ _)
  unfold Builtin.SmallTypes.ownedTupleHandOut
  have Z6 : IsZip (g5.push { cls := .type "tuple", data := .seq #[x, y] }) z TI TO .ellipsis := Heap.get?_push_of_some _ Z5
  refine wpAny_bind (wpAny_bind (wpAny_setField_rec Z6 (by simp) fun g7 Z7 e7 => ?_))
  replace Z7 : IsZip g7 z TI TO (rawInt g5.objs.size) := Z7
  refine wpAny_setField_rec Z7 (by simp) fun g8 Z8 e8 => wpAny_pure ⟨_, rfl, ?_⟩
  replace Z8 : IsZip g8 z TI TO (rawInt g5.objs.size) := Z8
  have up : ∀ c o, c ≠ z → g5.get? c = some o → g8.get? c = some o := fun c o d1 q => e8.extBut _ _ d1 (e7.extBut _ _ d1 (Heap.get?_push_of_some _ q))
  have T8 : IsPair g8 g5.objs.size x y := e8.extBut _ _ (Nat.ne_of_gt zlt) (e7.extBut _ _ (Nat.ne_of_gt zlt) (Heap.get?_push_size _ rfl))
  have size8 : g8.objs.size = g5.objs.size + 1 := by rw [e8.1, e7.1, Heap.size_push]
  rw [size5] at Z8 T8 size8
  show Q (.ref g5.objs.size) _
  rw [size5]
  exact go g8 Z8 (up _ _ Ap.TOz pO5) (n15.at fun o q => up _ o Ap.i1z q) (n25.at fun o q => up _ o Ap.i2z q) T8 size8 fun c o d1 d2 d3 d4 q => up c o d1 (all5 c o d1 d2 d3 d4 q)
theorem zipTL_end {R : PySem.Fin → Shared → Prop} (hh : A.handled = none) (Ap : ZipApart z TI TO i1 i2 l1 l2) (Z : IsZip s.heap z TI TO .none) (pI : IsPair s.heap TI (.ref i1) (.ref i2))
    (it1 : s.heap.IsTupleIter i1 l1 k1) (q1 : s.heap.IsTuple l1 xs) (ex : xs[k1]? = none)
    (stop : ∀ g e, (∀ c o, c ≠ z → c ≠ i1 → s.heap.get? c = some o → g.get? c = some o) → (∃ o, g.get? e = some o ∧ o.cls = .type "StopIteration") → E (.ref e) { s with heap := g }) :
    wpAny (model prog w) A (Builtin.«zip.__next__» ⟨[.ref z], []⟩) R E s := by
  show wpAny _ _ (field (.ref z) 2 >>= _) _ _ s
  refine wpAny_bind (wpAny_field Z rfl (x := .bool false) rfl (?_ : wpAny _ _ (field (.ref z) 3 >>= _) _ _ _))
  refine wpAny_bind (wpAny_field Z rfl (x := .ref TI) rfl (wpAny_bind (wpAny_seqItems pI rfl ?_)))
  refine (?_ : wpAny _ _ (Builtin.SmallTypes.ownedTupleIsFree (.ref z) >>= _) _ _ _)
  unfold Builtin.SmallTypes.ownedTupleIsFree
  refine wpAny_bind (wpAny_bind (wpAny_field Z rfl (x := .none) rfl (wpAny_pure ?_)))
  simp only [if_true]
  refine wpAny_bind (wpAny_rule (wpAny_bind (wpAny_field Z rfl (x := .ref TO) rfl (wpAny_bind (wpAny_setField_rec Z (by simp) fun g1 Z1 e1 => ?_)))))
  replace Z1 : IsZip g1 z TI TO .ellipsis := Z1
  simp only [List.zipIdx_cons, List.zipIdx_nil, List.forIn_cons, List.forIn_nil]
  refine wpAny_bind (wpAny_bind (wpAny_bind (wpAny_onRaise (?_ : wpAny _ _ (Builtin.SmallTypes.nextOf (.ref i1) >>= _) _ _ _))))
  refine wpAny_bind (nextOf_tuple_end hh (it1.extBut e1.extBut Ap.i1z) (q1.extBut e1.extBut Ap.l1z) ex fun g2 e e2 ⟨oe, he, ce⟩ => ?_)
  have Z2 : IsZip g2 z TI TO .ellipsis := e2 _ _ Ap.i1z.symm Z1
  have ez : e ≠ z := fun q => by subst q; rw [Z2] at he; cases he; simp at ce
  exact wpAny_setField_rec Z2 (by simp) fun g3 _ e3 => stop g3 e (fun c o d1 d3 q => e3.extBut _ _ d1 (e2 _ _ d3 (e1.extBut _ _ d1 q))) ⟨oe, e3.extBut _ _ ez he, ce⟩
end
def zTL (h : Heap) (l1 l2 : Addr) : Heap := ((((h.push { cls := .type "tuple_iterator", data := .fields #[.ref l1, .int 0 0] }).push { cls := .type "list_iterator", data := .fields #[.ref l2, .int 0 0] }).push { cls := .type "tuple", data := .seq #[.ref h.objs.size, .ref (h.objs.size + 1)] }).push { cls := .type "tuple", data := .seq #[.none, .none] }).push
  { cls := .type "zip", data := .fields #[.none, .bool false, .bool false, .ref (h.objs.size + 2), .ref (h.objs.size + 3)] }
theorem pushN {h : Heap} {o : Obj} {n : Nat} (e : n = h.objs.size) (f : o.isFreed = false := by rfl) : (h.push o).get? n = some o := by
  subst e
  exact Heap.get?_push_size _ f
theorem meetsTL (l1 l2 : Addr) (xs ys : Array Value) : Meets (Builtin.«zip.__new__» ⟨[.type "zip", .ref l1, .ref l2], []⟩) (fun _ R s => s.heap.IsTuple l1 xs ∧ s.heap.IsList l2 ys ∧ R (.ok (.ret (.ref (s.heap.objs.size + 4)))) { s with heap := zTL s.heap l1 l2 }) :=
  .of_wp fun prog w A R s h => by
    obtain ⟨hp, gs, dr, tk, os⟩ := s
    obtain ⟨q1, q2, h⟩ := h
    have isZ := sub_zip
    have first : Heap.IsTuple (Shared.heap ⟨hp, gs, dr, tk, os⟩) l1 xs := q1
    have second : Heap.IsList (Shared.heap ⟨hp.push { cls := .type "tuple_iterator", data := .fields #[.ref l1, .int 0 0] }, gs, dr, tk, os⟩) l2 ys := Heap.IsList.push q2 _
    wp_walk using wpAny_pyIter_tuple first, wpAny_pyIter_list second
    refine ⟨_, rfl, ?_⟩
    unfold zTL at h
    simp only [Heap.size_push] at h ⊢
    exact h
section
variable {prog : Program} {w : World} {A : Around} {E : Value → Shared → Prop} {s : Shared} {z TI TO i1 i2 l1 l2 : Addr} {k1 k2 : Nat} {xs ys : Array Value} {x y a b : Value}
theorem callTL {Q : Value → Shared → Prop} (q1 : s.heap.IsTuple l1 xs) (q2 : s.heap.IsList l2 ys)
    (go : ∀ g, IsZip g (s.heap.objs.size + 4) (s.heap.objs.size + 2) (s.heap.objs.size + 3) .none → IsPair g (s.heap.objs.size + 2) (.ref s.heap.objs.size) (.ref (s.heap.objs.size + 1)) → IsPair g (s.heap.objs.size + 3) .none .none →
      g.IsTupleIter s.heap.objs.size l1 0 → g.IsListIter (s.heap.objs.size + 1) l2 0 → (∀ c o, s.heap.get? c = some o → g.get? c = some o) → Q (.ref (s.heap.objs.size + 4)) { s with heap := g }) : wpAny (model prog w) A (call (.type "zip") [.ref l1, .ref l2]) Q E s := by
  refine callType_new F.called_zip (by decide) (F.typeCall_zip_2 _ _) (F.newCall_zip_2 _ _) (fun o => F.args_object_init_3 o _ _) F.entry_zip_new (meetsTL l1 l2 xs ys) ⟨q1, q2, ?_⟩
  have at4 : (zTL s.heap l1 l2).get? (s.heap.objs.size + 4) = some { cls := .type "zip", data := .fields #[.none, .bool false, .bool false, .ref (s.heap.objs.size + 2), .ref (s.heap.objs.size + 3)] } := pushN (by simp only [Heap.size_push])
  have at3 : (zTL s.heap l1 l2).get? (s.heap.objs.size + 3) = some { cls := .type "tuple", data := .seq #[.none, .none] } := Heap.get?_push_of_some _ (pushN (by simp only [Heap.size_push]))
  have at2 : (zTL s.heap l1 l2).get? (s.heap.objs.size + 2) = some { cls := .type "tuple", data := .seq #[.ref s.heap.objs.size, .ref (s.heap.objs.size + 1)] } := Heap.get?_push_of_some _ (Heap.get?_push_of_some _ (pushN (by simp only [Heap.size_push])))
  have at1 : (zTL s.heap l1 l2).get? (s.heap.objs.size + 1) = some { cls := .type "list_iterator", data := .fields #[.ref l2, .int 0 0] } := Heap.get?_push_of_some _ (Heap.get?_push_of_some _ (Heap.get?_push_of_some _ (pushN (by simp only [Heap.size_push]))))
  have at0 : (zTL s.heap l1 l2).get? s.heap.objs.size = some { cls := .type "tuple_iterator", data := .fields #[.ref l1, .int 0 0] } := Heap.get?_push_of_some _ (Heap.get?_push_of_some _ (Heap.get?_push_of_some _ (Heap.get?_push_of_some _ (pushN rfl))))
  show _ ∧ _
  exact ⟨⟨_, at4, rfl⟩, go _ at4 at2 at3 ⟨_, at0, rfl, rfl⟩ ⟨_, at1, rfl, rfl⟩ fun c o q => Heap.get?_push_of_some _ (Heap.get?_push_of_some _ (Heap.get?_push_of_some _ (Heap.get?_push_of_some _ (Heap.get?_push_of_some _ q))))⟩
end
/-- a tuple and a list, walked side by side; the tuple ends it -/
def ItzM (K : PySem.W.Frag) (a b : Addr) : It where
  go i H := ∃ (xs ys : List V) (x y : V), SqT K H a xs ∧ SqL K H b ys ∧ xs[i]? = some x ∧ ys[i]? = some y
  yld i H v H' := ∃ T x y, v = .ref T ∧ H T = none ∧ H' = upd H T (.tup [x, y]) ∧ (∀ xs, SqT K H a xs → xs[i]? = some x) ∧ ∀ ys, SqL K H b ys → ys[i]? = some y
  stop i H := ∃ xs : List V, SqT K H a xs ∧ xs.length ≤ i
theorem turnM {P : Program} {w : World} {K : PySem.W.Frag} {elts : List Expr} {kk : Nat} {tpos : Pos} {a b z TI TO i1 i2 : Addr} (Ap : ZipApart z TI TO i1 i2 a b) :
    Turn P w K (.Tuple elts kk tpos) (ItzM K a b) [z, TI, TO, i1, i2] z (fun i h => IsZip h z TI TO .none ∧ IsPair h TI (.ref i1) (.ref i2) ∧ (∃ x y, IsPair h TO x y) ∧ h.IsTupleIter i1 a i ∧ h.IsListIter i2 b i) := by
  have five : ∀ {c : Addr}, c ∈ [z, TI, TO, i1, i2] → c = z ∨ c = TI ∨ c = TO ∨ c = i1 ∨ c = i2 := fun {c} h => by simpa using h
  have out : ∀ {c : Addr}, c ∉ [z, TI, TO, i1, i2] → c ≠ z ∧ c ≠ TI ∧ c ≠ TO ∧ c ≠ i1 ∧ c ≠ i2 := fun {c} h => by simpa using h
  refine ⟨by simp, fun i h st c hc => ?_, fun i h h' st keep => ?_, ?_, ?_, fun A i s Q E st h => wpAny_pyIter_zip st.1 h⟩
  · obtain ⟨Z, pI, ⟨x, y, pO⟩, ⟨o1, g1, _, d1⟩, ⟨o2, g2, _, d2⟩⟩ := st
    rcases five hc with rfl | rfl | rfl | rfl | rfl
    · exact ⟨_, Z, fun v q => nomatch q⟩
    · exact ⟨_, pI, fun v q => nomatch q⟩
    · exact ⟨_, pO, fun v q => nomatch q⟩
    · exact ⟨o1, g1, fun v q => by rw [d1] at q; cases q⟩
    · exact ⟨o2, g2, fun v q => by rw [d2] at q; cases q⟩
  · obtain ⟨Z, pI, ⟨x, y, pO⟩, n1, n2⟩ := st
    exact ⟨keep z (by simp) _ Z, keep TI (by simp) _ pI, ⟨x, y, keep TO (by simp) _ pO⟩, n1.at fun o q => keep i1 (by simp) o q, n2.at fun o q => keep i2 (by simp) o q⟩
  · rintro X rfl rfl rfl hcalm i pins s σ H E I hf ⟨Z, pI, ⟨x0, y0, pO⟩, n1, n2⟩ ⟨xs, ys, x, y, qx, qy, ex, ey⟩
    obtain ⟨its, rv, p, _⟩ := I.tuple qx
    obtain ⟨its2, rv2, p2, _⟩ := I.list qy
    obtain ⟨u, hu, ru⟩ := rv.get ex
    obtain ⟨u2, hu2, ru2⟩ := rv2.get ey
    have zlt : z < s.heap.objs.size := Heap.lt_size Z
    have isz : s.TypeIs (.ref z) "zip" := ⟨_, Z, rfl⟩
    unfold pyNext
    refine wpAny_bind (wpAny_attempt (wpAny_callSpecial?_slot (name := Str.ofString "__next__") isz F.slot_zip_next (wpAny_call_entry F.slot_zip_next isz F.entry_zip_next
      (zipTL_item Ap Z pI pO n1 n2 (show s.heap.IsTuple a its.toArray from p) p2.isList (x := u) (y := u2) (by simpa using hu) (by simpa using hu2) fun g Z' pO' n1' n2' pT gsz old => wpAny_pure ?_) (F.args_zip_next_1 _))))
    refine ⟨_, rfl, wpAny_letOwnedTupleGo_zip (s := { s with heap := g }) Z' fun g2 Z2 sb => ?_⟩
    have pT2 : g2.get? s.heap.objs.size = some { cls := .type "tuple", data := .seq #[u, u2] } := (sb.2 _ (Nat.ne_of_gt zlt)).trans pT
    have I1 : Inv X pins σ (upd H s.heap.objs.size (.tup [x, y])) { s with heap := g2 } := by
      refine I.turnedNew (t' := s.toks) (ch := [z, TI, TO, i1, i2]) (fun c o hb q => ?_) hf (Nat.le_refl _) ⟨by show 2 ≤ sizeLine; decide, [u, u2], .cons ru (.cons ru2 .nil), ⟨_, pT2, rfl, _, rfl⟩⟩
      obtain ⟨c1, c2, c3, c4, c5⟩ := out hb
      exact (sb.2 c c1).trans (old c o c1 c3 c4 c5 q)
    refine ⟨.ref s.heap.objs.size, _, I1, rfl, ⟨_, x, y, rfl, I.hok.fresh (Nat.le_refl _), rfl, fun l hl => by rw [I.tuple_inj hl qx]; exact ex, fun l hl => by rw [I.list_inj hl qy]; exact ey⟩, ⟨Z2, ?_, ⟨u, u2, ?_⟩, ?_, ?_⟩, fun c hc => ?_⟩
    · exact (sb.2 _ Ap.TIz).trans (old _ _ Ap.TIz Ap.TITO Ap.TIi1 Ap.TIi2 pI)
    · exact (sb.2 _ Ap.TOz).trans pO'
    · exact n1'.at fun o q => (sb.2 _ Ap.i1z).trans q
    · exact n2'.at fun o q => (sb.2 _ Ap.i2z).trans q
    · have clt : c < s.heap.objs.size := by
        rcases five hc with rfl | rfl | rfl | rfl | rfl
        · exact zlt
        · exact Heap.lt_size pI
        · exact Heap.lt_size pO
        · exact let ⟨_, e1, _⟩ := n1; Heap.lt_size e1
        · exact let ⟨_, e2, _⟩ := n2; Heap.lt_size e2
      rw [upd_ne (Nat.ne_of_lt clt)]
      exact (hf c hc).1
  · rintro X rfl rfl rfl hcalm i pins s σ H E I hf ⟨Z, pI, ⟨x0, y0, pO⟩, n1, n2⟩ ⟨xs, qx, hend⟩
    obtain ⟨its, rv, p, _⟩ := I.tuple qx
    have l1 := rv.length
    have isz : s.TypeIs (.ref z) "zip" := ⟨_, Z, rfl⟩
    unfold pyNext
    refine wpAny_bind (wpAny_attempt (wpAny_callSpecial?_slot (name := Str.ofString "__next__") isz F.slot_zip_next (wpAny_call_entry F.slot_zip_next isz F.entry_zip_next
      (zipTL_end (I.ok.hd hcalm) Ap Z pI n1 (show s.heap.IsTuple a its.toArray from p) (by simp; omega) fun g e old ⟨o, ho, ce⟩ => ?_) (F.args_zip_next_1 _))))
    refine wpAny_bind (wpAny_isInstance (T := "StopIteration") (b := true) ⟨o, ho, ce⟩ isSubtype_stop (wpAny_pure ⟨rfl, ?_⟩))
    refine I.turnedL (t' := s.toks) (ch := [z, TI, TO, i1, i2]) (fun c o hb q => ?_) hf
    obtain ⟨c1, c2, c3, c4, c5⟩ := out hb
    exact old c o c1 c4 q
def iZipM (K : PySem.W.Frag) (ta : TA) : TI := fun σ H R => ta σ H fun vs H1 => ∃ a b xs ys, vs = [.ref a, .ref b] ∧ SqT K H1 a xs ∧ SqL K H1 b ys ∧ R (ItzM K a b) H1
theorem pi_zipM {X : Cx} {e e2 : Expr} {ta : TA} {p pos tpos : Pos} {elts : List Expr} {kk : Nat} (hg : Gl X "zip") (hm : X.mg "zip" = none) (ha : PA X [e, e2] ta)
    (hs : starEach [e, e2] X.env = (false, eval e X.env) :: starEach [e2] X.env := by rfl) (hpl : (backTo pos (starEach [e2] X.env)).any (·.1) = false := by rfl) : PI X (.Tuple elts kk tpos) (.Call (.Name "zip" p) [e, e2] [] pos) (iZipM X.K ta) := by
  refine ⟨fun pins s σ H R I h => Call_ (ld_blt I hg hm PyProof.Rows.boot_zip (PyProof.Rows.callWith_type1 (thn (ha.run pos pins s σ H _ I h) fun us s1 ⟨vs, H1, I1, r1, a, b, xs, ys, ex, qx, qy, q⟩ => ?_) hs hpl))⟩
  subst ex
  obtain ⟨u1, u2, rfl, t1, t2⟩ := vals2 r1
  cases t1
  cases t2
  obtain ⟨its, rv, p1, _⟩ := I1.tuple qx
  obtain ⟨its2, rv2, p2, _⟩ := I1.list qy
  obtain ⟨o1, ho1, _⟩ := id p1
  refine callTL (show s1.heap.IsTuple a its.toArray from p1) p2.isList fun g Z pI pO n1 n2 old => wpAny_pyIter_zip Z ?_
  have I2 : Inv X pins σ H1 { s1 with heap := g } := I1.kept (t' := s1.toks) old
  refine ⟨s1.heap.objs.size + 4, [s1.heap.objs.size + 4, s1.heap.objs.size + 2, s1.heap.objs.size + 3, s1.heap.objs.size, s1.heap.objs.size + 1], _, _, H1, rfl, I2, turnM (PySem.W.ktu_apart s1.heap.objs.size a b (Heap.lt_size ho1) p2.lt), ⟨Z, pI, ⟨_, _, pO⟩, n1, n2⟩, fun c hc => ?_, q⟩
  have le : s1.heap.objs.size ≤ c := by
    have : c = s1.heap.objs.size + 4 ∨ c = s1.heap.objs.size + 2 ∨ c = s1.heap.objs.size + 3 ∨ c = s1.heap.objs.size ∨ c = s1.heap.objs.size + 1 := by simpa using hc
    show s1.heap.objs.size ≤ (c : Nat)
    rcases this with z | z | z | z | z <;> (rw [z]; first | exact Nat.le_add_right _ _ | exact Nat.le_refl _)
  exact I1.fpOk le (I1.hok.fresh le)
end PL
/-! PX20: zip(t, l) in the pure layer. -/
namespace PL
open PySem PySem.Spec PyProof.Rows L2
variable [HasT]
section
variable {K : PySem.W.Frag} {mg : Str → Option Value}
theorem it_zipM {a b : Addr} {ds es : List D} (hl : ds.length ≤ sizeLine) (hle : ds.length ≤ es.length) : ItOk K mg (ItzM K a b) (zipD ds es) (fun F => (∃ xs, SqT K F a xs ∧ RepL K mg F ds xs) ∧ ∃ ys, F b = some (.lst ys) ∧ RepL K mg F es ys) := by
  unfold zipD
  refine ⟨fun F H i d s _ ⟨⟨xs, h, r⟩, ys, h', r'⟩ e => ?_, fun F H s ⟨⟨xs, h, r⟩, _⟩ => ⟨xs, s.sqT K h, ?_⟩, fun F F' m ⟨⟨xs, h, r⟩, ys, h', r'⟩ => ⟨⟨xs, m.sqT K h, r.mono K mg m _ _⟩, ys, m.lst h', r'.mono K mg m _ _⟩, by simp; omega⟩
  · rw [List.getElem?_map] at e
    cases q : (ds.zip es)[i]? with
    | none => rw [q] at e; cases e
    | some p =>
      rw [q] at e; cases e
      obtain ⟨q1, q2⟩ := get_zip q
      obtain ⟨x, hx, rx⟩ := r.get K mg q1
      obtain ⟨y, hy, ry⟩ := r'.get K mg q2
      refine ⟨⟨xs, ys, x, y, s.sqT K h, SqL.of (s.lst h'), hx, hy⟩, fun v H' z => ?_⟩
      obtain ⟨T, x', y', rfl, hT, rfl, hxs, hys⟩ := z
      have e1 := hxs xs (s.sqT K h)
      have e2 := hys ys (SqL.of (s.lst h'))
      rw [hx] at e1; cases e1
      rw [hy] at e2; cases e2
      exact step_pair s hT rx ry
  · have l1 := r.len K mg
    simp only [List.length_map, List.length_zip]
    omega
end
section
variable {X : Cx} {XE : XK}
def wZipM (w u : WE) : WI := fun ρ Q Ep => wK w ρ (fun d ρ1 => wK u ρ1 (fun e ρ2 => match d, e with
  | .tup xs, .lst ys => xs.length ≤ ys.length ∧ Q (zipD xs ys) ρ2
  | _, _ => False) Ep) Ep
theorem pi_zip2M {a b : Expr} {w u : WE} {p pos tpos : Pos} {elts : List Expr} {kk : Nat} (hg : Gl X "zip") (hm : X.mg "zip" = none) (h : PdE X XE a w) (h' : PdE X XE b u)
    (hs : starEach [a, b] X.env = (false, eval a X.env) :: starEach [b] X.env := by rfl) (hs1 : starEach [b] X.env = (false, eval b X.env) :: starEach [] X.env := by rfl) (hpl : (backTo pos (starEach [b] X.env)).any (·.1) = false := by rfl) :
    PdI X XE (.Tuple elts kk tpos) (.Call (.Name "zip" p) [a, b] [] pos) (wZipM w u) := by
  obtain ⟨t, pa, s⟩ := h
  obtain ⟨t', pa', s'⟩ := h'
  refine ⟨_, PI.len (pi_zipM hg hm (pa_cons pa (pa_cons pa' pa_nil hs1) hs) hs hpl), fun c Qp Ep R ok hw x k => ?_⟩
  refine runK (e := a) s ok hw x fun v c1 d g1 e1 r1 h1 => ?_
  rw [← e1]
  refine runK (e := b) s' g1.ok h1 (x.go X.K X.mg g1 e1) fun v' c2 d' g2 e2 r2 h2 => ?_
  have g := g1.trans X.K X.mg g2
  have r1' := Rep.mono X.K X.mg g2.fr.mono _ _ r1
  cases d with
  | tup ds =>
    cases d' with
    | lst es =>
      obtain ⟨hle, h2⟩ := h2
      obtain ⟨a', xs, rfl, ha, ra⟩ := r1'
      obtain ⟨b', ys, rfl, hb, rb⟩ := r2
      exact ⟨a', b', xs, ys, rfl, g2.ok.sub.sqT X.K ha, SqL.of (g2.ok.sub.lst hb), fun L => k _ (zipD ds es) _ c2 g (e2.trans e1) (it_zipM (L.tup g2.ok.sub ha ra) hle) ⟨⟨xs, ha, ra⟩, ys, hb, rb⟩ h2⟩
    | _ => exact h2.elim
  | _ => cases d' <;> exact h2.elim
end
end PL
/-! EN: what the top leaves, as facts that are looked up once; the end of a law. -/
namespace PL
open PySem PySem.Spec PyProof.Rows L2
open He (ga ma fAd ba eqO eqO_ok Fa DefD fnW AlD valD frG frG_in asD DefD.funD glo_ok free_ok cls_ok)
abbrev FaX : Type := PySem.W.Frag → Bool
def obsX (fa : List FaX) (fn : List DefD) (K : PySem.W.Frag) : AlD := ((fa.all fun f => f K) && fn.all fun d => d.ok K, fn.map fun d => fnW K d.at_)
def SaysX (fa : List FaX) (fn : List DefD) (K : PySem.W.Frag) : Prop := obsX fa fn K = valD fn
def obsXG (n : Nat) (fa : List FaX) (fn : List DefD) (g : Addr → Option Obj) : AlD := obsX fa fn (frG g (asD g n))
def hookX (n : Nat) (fa : List FaX) (fn : List DefD) : PySem.W.Hook where
  α := AlD
  obs := fun s => obsXG n fa fn s.heap.get?
  val := fun _ => valD fn
  says := fun _ h => ∃ K : PySem.W.Frag, K.In h ∧ SaysX fa fn K
  of := fun _ _ e => ⟨_, frG_in, e⟩
  keeps := fun _ _ _ ⟨K, hK, c⟩ k => ⟨K, PySem.W.Frag.In.keeps hK k, c⟩
theorem obsXG_eq {n : Nat} {fa : List FaX} {fn : List DefD} {g : Addr → Option Obj} {s : Shared} (h : ∀ a, g a = s.heap.get? a) : obsXG n fa fn g = (hookX n fa fn).obs s := by
  have e : g = s.heap.get? := funext h
  rw [e] <;> rfl
section
variable {fa : List FaX} {fn : List DefD} {K : PySem.W.Frag}
theorem SaysX.fact (c : SaysX fa fn K) (i : Nat) {f : FaX} (h : fa[i]? = some f := by rfl) : f K = true := by
  have c1 := (ba (show ((fa.all fun f => f K) && fn.all fun d => d.ok K) = true from congrArg (fun z : AlD => z.1) c)).1
  exact List.all_eq_true.mp c1 f (List.mem_of_getElem? h)
theorem SaysX.def_ (c : SaysX fa fn K) (i : Nat) {d : DefD} (h : fn[i]? = some d := by rfl) : ∃ fd, FunD K d.name d.qual d.params d.body d.scope (d.dvs K) (d.kws K) (fAd K d.at_) fd := by
  have c2 := (ba (show ((fa.all fun f => f K) && fn.all fun d => d.ok K) = true from congrArg (fun z : AlD => z.1) c)).2
  have e : fn.map (fun d => fnW K d.at_) = fn.map DefD.val := congrArg (fun z : AlD => z.2) c
  have e2 : (fn.map fun d => fnW K d.at_)[i]? = (fn.map DefD.val)[i]? := by rw [e]
  rw [List.getElem?_map, List.getElem?_map, h] at e2
  exact DefD.funD (Option.some.inj e2) (List.all_eq_true.mp c2 d (List.mem_of_getElem? h))
end
/-! ### facts of a class -/
def oneB (a b : Option Bool) : Bool := decide (a = b)
def clsB (x : Str) (flds : List Str) : FaX := fun K => (Fa.glo x).ok K && ((Fa.cls x).ok K && (flds.all (fun f => (Fa.noat x f).ok K) &&
  (eqO (PySem.W.findIn K (.ref (ga K x)) "__class__") (some (some (.builtin "object.__class__"))) && (eqO (PySem.W.specialIn K (.builtin "object.__class__") "__get__") (some (some (.builtin "getset_descriptor.__get__"))) &&
  (oneB (PySem.W.takesIn K (.builtin "object.__class__")) (some true) && (oneB (PySem.W.mroIn K (ga K x) (.type "object")) (some true) && (eqO (PySem.W.findIn K (.ref (ga K x)) "__ne__") (some (some (.builtin "object.__ne__"))) &&
  (oneB (PySem.W.subIn K (.ref (ga K x)) (.type "object")) (some true) && (PySem.W.selfFirst K (ga K x) && (PySem.W.makesIn K (ga K x) && PySem.W.keepIn K (.ref (ga K x))))))))))))
theorem clsB_ok {K : PySem.W.Frag} {h : Heap} {mg : Str → Option Value} (X : K.In h) (G : h.Ns mainGlobals mg) {x : Str} {flds : List Str} (c : clsB x flds K = true) : ClAt K mg x (ga K x) flds := by
  obtain ⟨c1, c⟩ := ba c
  obtain ⟨c2, c⟩ := ba c
  obtain ⟨c3, c⟩ := ba c
  obtain ⟨c4, c⟩ := ba c
  obtain ⟨c5, c⟩ := ba c
  obtain ⟨c6, c⟩ := ba c
  obtain ⟨c7, c⟩ := ba c
  obtain ⟨c8, c⟩ := ba c
  obtain ⟨c9, c⟩ := ba c
  obtain ⟨c10, c⟩ := ba c
  obtain ⟨c11, c12⟩ := ba c
  exact ⟨glo_ok X G c1, cls_ok c2, fun f hf => He.noat_ok (List.all_eq_true.mp c3 f hf), eqO_ok c4, eqO_ok c5, of_decide_eq_true c6, of_decide_eq_true c7, eqO_ok c8, of_decide_eq_true c9, c10, c11, c12⟩
/-- an empty tuple -/
def empB (p : PySem.W.Frag → Addr) : FaX := fun K => match K.lookup (p K) with
  | some ⟨.type c, _, .seq its _, _⟩ => decide (c = "tuple") && decide (its.size = 0)
  | _ => false
theorem empB_ok {K : PySem.W.Frag} {p : PySem.W.Frag → Addr} (h : empB p K = true) (H : Hp) : SqT K H (p K) [] := by
  unfold empB at h
  cases q : K.lookup (p K) with
  | none =>
    rw [q] at h
    cases h
  | some o =>
    obtain ⟨oc, od, dt, osl⟩ := o
    rw [q] at h
    cases oc with
    | type c =>
      cases dt with
      | seq its n =>
        obtain ⟨h1, h2⟩ := ba (show (decide (c = "tuple") && decide (its.size = 0)) = true from h)
        have e : its.toList = [] := by
          have := of_decide_eq_true h2
          exact List.length_eq_zero_iff.mp (by simpa using this)
        exact .inr ⟨_, its, n, q, congrArg Value.type (of_decide_eq_true h1), rfl, by have := of_decide_eq_true h2; omega, by rw [e]; exact .nil⟩
      | _ => cases h
    | _ => cases dt <;> cases h
section
variable [HasT] {P : Program} {w : World} {K : PySem.W.Frag} {mg : Str → Option Value} {base h : Heap}
theorem dfAt {x : Str} {fd : FuncData} {ps : List Str} {j : Nat} {fs : FS} (X : K.In h) (G : h.Ns mainGlobals mg) (c : (Fa.glo x).ok K = true) (kp : PySem.W.keepIn K (.ref (ga K x)) = true) (b : Binds K fd ps []) (F : FnOk P w K mg base (L2.CX P w) j (ga K x) fd ps (spOf K mg fs ps.length)) : DfAt P w K mg base x (ga K x) fd ps j fs :=
  ⟨F, glo_ok X G c, kp, b⟩
theorem mtAt {x m : Str} {fd : FuncData} {ps : List Str} {j : Nat} {fs : FS} (c : (Fa.meth x m).ok K = true) (b : Binds K fd ps []) (F : FnOk P w K mg base (L2.CX P w) j (ma K (ga K x) m) fd ps (spOf K mg fs ps.length)) : MtAt P w K mg base (ga K x) m (ma K (ga K x) m) fd ps j fs := by
  obtain ⟨c1, c2, c3⟩ := He.meth_ok c
  exact ⟨F, c1, c2, c3, b⟩
end
theorem no_way (P : Program) (w : World) (H : Hp) (s : Shared) (e : Value) (s' : Shared) (h : L2.CX P w [] H s (fun _ _ _ => False) e s') : False := by
  obtain ⟨_, _, _, _, _, _, _, _, _, _, _, _, z⟩ := h
  exact z
/-- the end, by a def that may raise -/
theorem walk_ofX {l : PySem.W.OpenLaw} {n k : Nat} {q : Program} {loose : List Str} {XP : (Str → Option Value) → Heap → Prop} {YP : World → Heap → Prop} {d : DefRec} {x : Str}
    (hn : l.most = some n) (hn2 : n ≤ sizeLine) (hdf : d.params.defaults = []) (hr : Room k callerA)
    (F : ∀ (w : World) (mg : Str → Option Value) (fa : Addr) (h : Heap), YP w h → h.Ns mainGlobals mg → mg d.name = some (.ref fa) →
      ∃ (K : PySem.W.Frag) (fd : FuncData) (sp : Sp), K.In h ∧ (∀ (s : Shared) (u : Value), BindsTo s fd ⟨[u], []⟩ [(x, u)]) ∧
        (∀ (H : Hp) (a : Addr) (ns : List Int), ns.length ≤ n → Only H → SqL K H a (ns.map V.int) → sp [.ref a] H (fun v _ => v = .bl true) fun _ _ _ => False) ∧
        ∀ base : Heap, K.In base → base.Ns mainGlobals mg → FnOk l.prog w K mg base (L2.CX l.prog w) k fa fd [x] sp) :
    PySem.W.WalkO q loose XP YP l.row.toRowW d [] (fun f vs => PySem.call f vs) := by
  refine Att.attach_call hn hdf fun w s₀ s₁ mg mb fa o pm cd doc a vs ns G Y ho hd hcd hmg hobj hints hlen hg => ?_
  obtain ⟨K, fd, sp, KX, hb, hsp, hF⟩ := F w mg fa _ Y G.T.g hmg
  exact law_call KX G.T.g G.T.b G.T.builtins G.T.nolimit hg hobj hints (Nat.le_trans hlen hn2) hr hF hb (fun H hO hS => hsp H a ns hlen hO hS) fun H e s' => no_way l.prog w H s₁ e s'
/-- the law's call: the script is a list that nobody changes -/
theorem law_sp [HasT] {K : PySem.W.Frag} {mg : Str → Option Value} {fs : FS} {H : Hp} {a : Addr} {ns : List Int} (ht : LamX.Tabs HasT.T H) (hn : ns.length ≤ 63) (hS : SqL K H a (ns.map V.int))
    (hfs : ∀ Q : R → List Ent → Prop, ∀ Ep : Ex → List Ent → Prop, (Q (.val (.bl true)) ([Ent.val (.kst (ns.map .int))])) → fs ([Ent.val (.kst (ns.map .int))]) Q Ep) : spOf K mg fs 1 [.ref a] H (fun v _ => v = .bl true) fun _ _ _ => False := by
  have rep : Rep K mg H (.kst (ns.map .int)) (.ref a) := ⟨a, _, rfl, hS, RepL.map K mg D.int V.int (fun _ => rfl) ns⟩
  refine ⟨⟨H, H, [some (.ref a)], [some (.val (.kst (ns.map .int)))], fun _ => []⟩, [Ent.val (.kst (ns.map .int))], fun r _ => r = .val (.bl true), fun _ _ => False, ⟨ht, Mono.refl _, rfl, fun i e he => ?_, fun i _ => rfl, fun i b hb => absurd hb (by simp), fun i j b hb => absurd hb (by simp), fun _ _ e => e⟩, rfl, rfl, rfl, rfl, fun e he d => ?_, hfs _ _ rfl, fun _ _ _ _ _ _ _ _ _ _ _ _ _ _ e => e.elim, fun v F' H' r args' _ _ _ _ _ _ rr hq => ?_⟩
  · match i, he with
    | 0, he => cases he; exact ⟨.ref a, rfl, rep, rfl⟩
    | i + 1, he => simp at he
  · have he' : e ∈ [Ent.val (.kst (ns.map .int))] := he
    rw [List.mem_singleton.mp he']
    intro z; cases z
  · rw [hq] at rr
    exact rr
end PL
/-! EN2: the hook with defs at any address (a property's getter too), calls by keywords, tuples of the module. -/
namespace PL
open PySem PySem.Spec PyProof.Rows L2
open He (ga ma fAd ba eqO eqO_ok Fa DefD FnW AlD valD frG frG_in glo_ok free_ok cls_ok Dv dflB dflB_ok kwdB kwdB_ok)
/-! ### what the module's names reach: each object once, code objects not looked into -/
def memN (a : Addr) : List Addr → Bool
  | [] => false
  | b :: r => match Nat.beq a b with
    | true => true
    | false => memN a r
def refsY (o : Obj) : List Addr := match o.cls with
  | .type "code" => []
  | _ => He.refsD o
def addY (seen acc : List Addr) (a : Addr) : List Addr := match memN a acc with
  | true => acc
  | false => match memN a seen with
    | true => acc
    | false => a :: acc
def addsY (seen : List Addr) : List Addr → List Addr → List Addr
  | [], acc => acc
  | a :: r, acc => addsY seen r (addY seen acc a)
def nextY (g : Addr → Option Obj) (seen : List Addr) : List Addr → List Addr → List Addr
  | [], acc => acc
  | a :: r, acc => match g a with
    | some o => nextY g seen r (addsY seen (refsY o) acc)
    | none => nextY g seen r acc
def asR (g : Addr → Option Obj) : Nat → List Addr → List Addr → List Addr
  | 0, seen, fr => seen ++ fr
  | n + 1, seen, fr => asR g n (seen ++ fr) (nextY g (seen ++ fr) fr [])
def asY (g : Addr → Option Obj) (n : Nat) : List Addr := asR g n [] [mainGlobals, cStatics]
/-- a def at an address that the frame tells -/
structure DefY where
  p : PySem.W.Frag → Addr
  d : DefD
  cl : List Str := []
/-- what a def must be: cl, the names that it closes over -/
def DefY.val (d : DefY) : FnW := some (d.d.name, d.d.qual, d.d.params, .stmts d.d.body, d.d.scope, mainGlobals, d.cl.map (fun x => (x, 0)), builtinsNs)
def fnY (K : PySem.W.Frag) (a : Addr) : FnW := match K.lookup a with
  | some ⟨_, _, .func fd, _⟩ => some (fd.name, fd.qualname, fd.params, fd.body, fd.scope, fd.globals, fd.closure.map (fun q => (q.1, 0)), fd.builtins)
  | _ => none
def DefY.ok (K : PySem.W.Frag) (d : DefY) : Bool := PySem.W.keepIn K (.ref (d.p K)) && (match K.lookup (d.p K) with
  | some ⟨_, _, .func fd, _⟩ => PySem.W.codeIn K fd.code d.d.qual && (dflB K fd.defaults (d.d.dvs K) && kwdB K fd.kwdefaults (d.d.kws K))
  | _ => false)
theorem DefY.funD {K : PySem.W.Frag} {d : DefY} (hcl : d.cl = []) (e : fnY K (d.p K) = d.val) (c : d.ok K = true) : ∃ fd, FunD K d.d.name d.d.qual d.d.params d.d.body d.d.scope (d.d.dvs K) (d.d.kws K) (d.p K) fd := by
  obtain ⟨kp, c2⟩ := ba c
  unfold fnY at e
  cases q : K.lookup (d.p K) with
  | none =>
    rw [q] at c2
    cases c2
  | some o =>
    obtain ⟨oc, od, dt, osl⟩ := o
    rw [q] at c2 e
    cases dt with
    | func fd =>
      obtain ⟨n1, n2, n3, n4, n5, n6, n7, n8, n9, n10, n11, n12, n13, n14, n15⟩ := fd
      have e2 : (some (n1, n2, n3, n4, n5, n6, n7.map (fun q => (q.1, 0)), n15) : FnW) = some (d.d.name, d.d.qual, d.d.params, .stmts d.d.body, d.d.scope, mainGlobals, d.cl.map (fun x => (x, 0)), builtinsNs) := e
      rw [hcl] at e2
      simp only [Option.some.injEq, Prod.mk.injEq, List.map_nil, List.map_eq_nil_iff] at e2
      obtain ⟨h1, h2, h3, h4, h5, h6, h7, h8⟩ := e2
      subst h1 h2 h3 h4 h5 h6 h7 h8
      have c3 : (PySem.W.codeIn K n13 d.d.qual && (dflB K n8 (d.d.dvs K) && kwdB K n9 (d.d.kws K))) = true := c2
      obtain ⟨k1, k2⟩ := ba c3
      obtain ⟨k3, k4⟩ := ba k2
      exact ⟨_, ⟨oc, od, n8, n9, n10, n11, n12, n13, n14, osl, rfl, q, k1, dflB_ok k3, kwdB_ok k4⟩, kp⟩
    | _ => cases c2
open He (Defn cT codeOf codeOf_eq codeIn_ref emptyTab emptyTab_eq frT frT_in frT_none tabsB)
def obsY (fa : List FaX) (fn : List DefY) (K : PySem.W.Frag) : AlD := ((fa.all fun f => f K) && fn.all fun d => d.ok K, fn.map fun d => fnY K (d.p K))
def valY (fn : List DefY) : AlD := (true, fn.map DefY.val)
abbrev AlY : Type := AlD × Bool
/-- the facts, the defs, the tables of code objects: empty, not in K -/
structure SaysY (fa : List FaX) (fn : List DefY) (tf : List Defn) (h : Heap) (K : PySem.W.Frag) : Prop where
  t : obsY fa fn K = valY fn
  hd : ∀ p ∈ tf, PySem.W.codeHdIn K (cT K p).1 (cT K p).2 = true
  out : ∀ p ∈ tf, K.lookup (cT K p).2 = none
  empty : ∀ p ∈ tf, h.get? (cT K p).2 = some { cls := .none, data := .fields #[] }
def obsYG (n : Nat) (fa : List FaX) (fn : List DefY) (tf : List Defn) (g : Addr → Option Obj) : AlY := (obsY fa fn (frT g (asY g n)), tabsB g tf (frT g (asY g n)))
theorem saysY_of {n : Nat} {fa : List FaX} {fn : List DefY} {tf : List Defn} {h : Heap} (e : obsYG n fa fn tf h.get? = (valY fn, true)) : SaysY fa fn tf h (frT h.get? (asY h.get? n)) := by
  have e1 : obsY fa fn (frT h.get? (asY h.get? n)) = valY fn := congrArg (fun z : AlY => z.1) e
  have h2 : tabsB h.get? tf (frT h.get? (asY h.get? n)) = true := congrArg (fun z : AlY => z.2) e
  have key : ∀ p ∈ tf, PySem.W.codeHdIn (frT h.get? (asY h.get? n)) (cT (frT h.get? (asY h.get? n)) p).1 (cT (frT h.get? (asY h.get? n)) p).2 = true ∧ ∃ o, h.get? (cT (frT h.get? (asY h.get? n)) p).2 = some o ∧ emptyTab o = true := fun p hp => by
    obtain ⟨h3, h4⟩ := ba (List.all_eq_true.mp h2 p hp)
    refine ⟨h3, ?_⟩
    cases q : h.get? (cT (frT h.get? (asY h.get? n)) p).2 with
    | none =>
      rw [q] at h4
      cases h4
    | some o =>
      rw [q] at h4
      exact ⟨o, rfl, h4⟩
  exact ⟨e1, fun p hp => (key p hp).1, fun p hp => by
    obtain ⟨_, o, q, z⟩ := key p hp
    exact frT_none q z, fun p hp => by
    obtain ⟨_, o, q, z⟩ := key p hp
    rw [q, emptyTab_eq z]⟩
def hookY (n : Nat) (fa : List FaX) (fn : List DefY) (tf : List Defn) : PySem.W.Hook where
  α := AlY
  obs := fun s => obsYG n fa fn tf s.heap.get?
  val := fun _ => (valY fn, true)
  says := fun _ h => ∃ K : PySem.W.Frag, K.In h ∧ SaysY fa fn tf h K
  of := fun _ _ e => ⟨_, frT_in, saysY_of e⟩
  keeps := fun _ _ _ ⟨K, hK, c⟩ k => ⟨K, PySem.W.Frag.In.keeps hK k, ⟨c.t, c.hd, c.out, fun p hp => k _ _ (c.empty p hp)⟩⟩
theorem obsYG_eq {n : Nat} {fa : List FaX} {fn : List DefY} {tf : List Defn} {g : Addr → Option Obj} {s : Shared} (h : ∀ a, g a = s.heap.get? a) : obsYG n fa fn tf g = (hookY n fa fn tf).obs s := by
  have e : g = s.heap.get? := funext h
  rw [e] <;> rfl
section
variable {fa : List FaX} {fn : List DefY} {tf : List Defn} {h : Heap} {K : PySem.W.Frag}
theorem SaysY.fact (c : SaysY fa fn tf h K) (i : Nat) {f : FaX} (e : fa[i]? = some f := by rfl) : f K = true := by
  have c1 := (ba (show ((fa.all fun f => f K) && fn.all fun d => d.ok K) = true from congrArg (fun z : AlD => z.1) c.t)).1
  exact List.all_eq_true.mp c1 f (List.mem_of_getElem? e)
theorem SaysY.def_ (c : SaysY fa fn tf h K) (i : Nat) {d : DefY} (hi : fn[i]? = some d := by rfl) (hcl : d.cl = [] := by rfl) : ∃ fd, FunD K d.d.name d.d.qual d.d.params d.d.body d.d.scope (d.d.dvs K) (d.d.kws K) (d.p K) fd := by
  have c2 := (ba (show ((fa.all fun f => f K) && fn.all fun d => d.ok K) = true from congrArg (fun z : AlD => z.1) c.t)).2
  have e : fn.map (fun d => fnY K (d.p K)) = fn.map DefY.val := congrArg (fun z : AlD => z.2) c.t
  have e2 : (fn.map fun d => fnY K (d.p K))[i]? = (fn.map DefY.val)[i]? := by rw [e]
  rw [List.getElem?_map, List.getElem?_map, hi] at e2
  exact DefY.funD hcl (Option.some.inj e2) (List.all_eq_true.mp c2 d (List.mem_of_getElem? hi))
end
theorem FunD.code_of {K : PySem.W.Frag} {x qual : Str} {params : Arguments} {body : List Stmt} {scope : PySem.Scope} {dvs : List V} {kws : List (Str × V)} {p : Defn} {fd : FuncData} (F : FunD K x qual params body scope dvs kws (fAd K p) fd) : fd.code = .ref (codeOf K p) := by
  obtain ⟨oc, od, dV, kV, doc, pm, an, cdv, ct, osl, rfl, lk, hcd, hD, hK⟩ := F.ex
  obtain ⟨c, rfl⟩ := codeIn_ref hcd
  rw [codeOf_eq lk rfl] <;> rfl
/-! ### the end with tables -/
/-- the law's promise at the head's heap, tables of code objects beside it -/
theorem lawAtY {l : PySem.W.OpenLaw} {w : World} {K : PySem.W.Frag} {k n : Nat} {x : Str} {mg : Str → Option Value} {fa : List FaX} {fn : List DefY} {tf : List Defn} {f : Addr} {h : Heap} {fd : FuncData} {sp : Sp} (X : K.In h) (c : SaysY fa fn tf h K)
    (hb : ∀ (s : Shared) (u : Value), BindsTo s fd ⟨[u], []⟩ [(x, u)])
    (hsp : ∀ (H : Hp) (a : Addr) (ns : List Int), ns.length ≤ n → (∀ p ∈ tf, H (cT K p).2 = some (.tbl #[])) → SqL K H a (ns.map V.int) → sp [.ref a] H (fun v _ => v = .bl true) fun _ _ _ => False)
    (hF : ∀ base : Heap, K.In base → base.Ns mainGlobals mg → (∀ p ∈ tf, LamX.TabB base mg (cT K p).1 (cT K p).2) → FnOk l.prog w K mg base (L2.CX l.prog w) k f fd [x] sp) :
    LamX.LawAtS l w K (L2.CX l.prog w) k n x mg f h := by
  refine ⟨fd, tf.map (cT K), sp, ?_, ?_, ?_, hb, fun H a ns l1 _ hT hS => hsp H a ns l1 (fun p hp => hT _ (List.mem_map.mpr ⟨p, hp, rfl⟩)) hS, fun base KX G T => hF base KX G fun p hp => T _ (List.mem_map.mpr ⟨p, hp, rfl⟩)⟩
  · intro q hq
    obtain ⟨p, hp, rfl⟩ := List.mem_map.mp hq
    exact c.empty p hp
  · intro q hq
    obtain ⟨p, hp, rfl⟩ := List.mem_map.mp hq
    exact c.out p hp
  · intro q hq
    obtain ⟨p, hp, rfl⟩ := List.mem_map.mp hq
    exact PySem.W.codeHd_of_K X (c.hd p hp)
/-! ### a tuple of the module -/
theorem tupC {K : PySem.W.Frag} {h : Heap} {mg : Str → Option Value} (X : K.In h) (G : h.Ns mainGlobals mg) {x : Str} {vs : List Dv} {ds : List D} (c1 : (Fa.glo x).ok K = true) (c2 : He.tupB K x vs = true) (r : ∀ F, RepL K mg F ds (vs.map (Dv.v K))) :
    ∃ v u, mg x = some u ∧ RelV v u ∧ ∀ F, Rep K mg F (.tup ds) v :=
  ⟨.ref (ga K x), _, glo_ok X G c1, rfl, fun F => ⟨_, _, rfl, He.tupB_ok c2 F, r F⟩⟩
/-! ### properties -/
/-- the getter of the property at p -/
def gtA (K : PySem.W.Frag) (p : Addr) : Addr := match PySem.W.recIn K p "property" with
  | some (.ref g :: _) => g
  | _ => 0
/-- the getter of the class x's property m -/
def prA (x m : Str) (K : PySem.W.Frag) : Addr := gtA K (ma K (ga K x) m)
def prB (x m : Str) : FaX := fun K => eqO (PySem.W.findIn K (.ref (ga K x)) m) (some (some (.ref (ma K (ga K x) m)))) && (eqO (PySem.W.specialIn K (.ref (ma K (ga K x) m)) "__get__") (some (some (.builtin "property.__get__"))) &&
  (oneB (PySem.W.takesIn K (.ref (ma K (ga K x) m))) (some true) && (match PySem.W.recIn K (ma K (ga K x) m) "property" with
    | some (.ref _ :: _) => true
    | _ => false)))
theorem prB_ok {K : PySem.W.Frag} {x m : Str} (c : prB x m K = true) : PropOf K (ga K x) m (ma K (ga K x) m) (prA x m K) := by
  obtain ⟨c1, c⟩ := ba c
  obtain ⟨c2, c⟩ := ba c
  obtain ⟨c3, c4⟩ := ba c
  refine ⟨eqO_ok c1, eqO_ok c2, of_decide_eq_true c3, ?_⟩
  unfold prA gtA
  revert c4
  cases PySem.W.recIn K (ma K (ga K x) m) "property" with
  | none => intro c4; cases c4
  | some l =>
    cases l with
    | nil => intro c4; cases c4
    | cons v r =>
      cases v with
      | ref g => intro _; exact ⟨r, rfl⟩
      | _ => intro c4; cases c4
section
variable [HasT] {P : Program} {w : World} {K : PySem.W.Frag} {mg : Str → Option Value} {base h : Heap}
theorem prAt {x m : Str} {fd : FuncData} {ps : List Str} {j : Nat} {fs : FS} (c : prB x m K = true) (b : Binds K fd ps []) (F : FnOk P w K mg base (L2.CX P w) j (prA x m K) fd ps (spOf K mg fs ps.length)) : PrAt P w K mg base (ga K x) m (ma K (ga K x) m) (prA x m K) fd ps j fs :=
  ⟨F, prB_ok c, b⟩
end
/-! ### calls by keywords -/
theorem FunD.kAt {K : PySem.W.Frag} {x qual : Str} {params : Arguments} {body : List Stmt} {scope : PySem.Scope} {kws : List (Str × V)} {f : Addr} {fd : FuncData} {ps : List Str} {n : Nat} {ks : List Str} {is : List Nat}
    (F : FunD K x qual params body scope [] kws f fd)
    (h : ∀ (kV doc pm : Value) (an : Option Addr) (cdv ct : Value) (us ws : List Value), us.length = n → ws.length = ks.length → bindArgs (PySem.W.fnOf x qual params body scope .none kV doc pm an cdv ct) ⟨us, ks.zip ws⟩ = pure (ps.zip (pick is (us ++ ws)))) : KAt K fd ps n ks is := by
  obtain ⟨oc, od, dV, kV, doc, pm, an, cdv, ct, osl, rfl, lk, hcd, hD, hK⟩ := F.ex
  rcases hD with ⟨_, rfl⟩ | ⟨e, _⟩
  · exact ⟨fun s us ws l1 l2 => .of_eq (h kV doc pm an cdv ct us ws l1 l2)⟩
  · exact absurd rfl e
end PL
/-! EN3: the run's equation in parts, joined. -/
namespace PL
open PySem PySem.Spec PyProof.Rows L2
open He (tabsB frT FnW)
section
variable {σ : Type} {x : Option σ}
theorem om_eq {α : Type} {f : σ → α} {a : α} {s : σ} (e : x = some s) (h : x.map f = some a) : f s = a := by
  rw [e] at h
  exact Option.some.inj h
theorem om_some {α : Type} {f : σ → α} {a : α} (h : x.map f = some a) : ∃ s, x = some s := by
  cases e : x with
  | none => rw [e] at h; cases h
  | some s => exact ⟨s, rfl⟩
theorem om_all {α : Type} {p : σ → α → Bool} {l1 l2 : List α} (h1 : x.map (fun s => l1.all (p s)) = some true) (h2 : x.map (fun s => l2.all (p s)) = some true) : x.map (fun s => (l1 ++ l2).all (p s)) = some true := by
  obtain ⟨s, e⟩ := om_some h1
  have a1 := om_eq e h1
  have a2 := om_eq e h2
  rw [e]
  show some ((l1 ++ l2).all (p s)) = some true
  rw [List.all_append, a1, a2]
  rfl
theorem om_map {α β : Type} {p : σ → α → β} {q : α → β} {l1 l2 : List α} (h1 : x.map (fun s => l1.map (p s)) = some (l1.map q)) (h2 : x.map (fun s => l2.map (p s)) = some (l2.map q)) : x.map (fun s => (l1 ++ l2).map (p s)) = some ((l1 ++ l2).map q) := by
  obtain ⟨s, e⟩ := om_some h1
  have a1 := om_eq e h1
  have a2 := om_eq e h2
  rw [e]
  show some ((l1 ++ l2).map (p s)) = some ((l1 ++ l2).map q)
  rw [List.map_append, List.map_append, a1, a2]
end
/-- the frame that a state's look gives -/
abbrev KT (s : PySem.W.SharedT) : PySem.W.Frag := frT (HandSHeadRun.getT s) (asY (HandSHeadRun.getT s) 6)
abbrev faOk (fa : List FaX) (s : PySem.W.SharedT) : Bool := fa.all ((fun s f => f (KT s)) s)
abbrev fnOk (fn : List DefY) (s : PySem.W.SharedT) : Bool := fn.all ((fun s d => d.ok (KT s)) s)
abbrev fnVs (fn : List DefY) (s : PySem.W.SharedT) : List FnW := fn.map ((fun s d => fnY (KT s) (d.p (KT s))) s)
theorem run_split {x : Option PySem.W.SharedT} {α β : Type} {A : PySem.W.SharedT → α} {B : PySem.W.SharedT → β} {a : α} {b : β} {fa : List FaX} {fn : List DefY} {tf : List He.Defn}
    (h1 : x.map A = some a) (h2 : x.map B = some b) (h3 : x.map (faOk fa) = some true) (h4 : x.map (fnOk fn) = some true) (h5 : x.map (fnVs fn) = some (fn.map DefY.val)) (h6 : x.map (fun s => tabsB (HandSHeadRun.getT s) tf (KT s)) = some true) :
    x.map (fun s => (A s, B s, obsYG 6 fa fn tf (HandSHeadRun.getT s))) = some (a, b, (valY fn, true)) := by
  obtain ⟨s, e⟩ := om_some h1
  have a1 := om_eq e h1
  have a2 := om_eq e h2
  have a3 := om_eq e h3
  have a4 := om_eq e h4
  have a5 := om_eq e h5
  have a6 := om_eq e h6
  rw [e]
  show some (A s, B s, ((faOk fa s && fnOk fn s, fnVs fn s), tabsB (HandSHeadRun.getT s) tf (KT s))) = _
  rw [a1, a2, a3, a4, a5, a6]
  rfl
end PL
/-! PY1: an own error class under own classes over ValueError: its __init__ says super().__init__("..") and stores one field. -/
namespace PL
open PySem PySem.Spec PyProof.Rows L2
/-- super().__init__("m"); self.f = p -/
abbrev iniB (m f p : Str) (j : Nat) (p1 p2 p3 p4 p5 p6 q1 q2 q3 q4 : Pos) : List Stmt :=
  [.Expr (.Call (.Attribute (.Call (.Name "super" p1) [] [] p2) "__init__" p3) [.Constant (.str m) j p4] [] p5) p6, .Assign [.Attribute (.Name "self" q1) f q2] (.Name p q3) q4]
abbrev veT : List Value := [.type "ValueError", .type "Exception", .type "BaseException", .type "object"]
/-- what the names of __init__ are -/
structure IniS (p : Str) (sc : Scope) : Prop where
  kind : sc.kind = .function
  co : sc.isCoroutine = false
  gen : sc.isGenerator = false
  noc : ∀ y ∈ sc.names, y.2 ≠ .cell
  sup : sc.names.lookup ("super" : Str) = some .globalImplicit
  cls : sc.names.lookup ("__class__" : Str) = some .free
  self : sc.names.lookup ("self" : Str) = some .local
  par : sc.names.lookup p = some .local
  ne : p ≠ ("self" : Str)
  nd : (p == ("__debug__" : Str)) = false
/-- the words of the two statements, position by position -/
structure IniE (m f p : Str) (j : Nat) (p1 p2 p3 p4 p5 p6 q1 q2 q3 q4 : Pos) (pl : Sem Bool) : Prop where
  call : ∀ env, eval (.Call (.Attribute (.Call (.Name "super" p1) [] [] p2) "__init__" p3) [.Constant (.str m) j p4] [] p5) env = (do
    let ov ← attributeBase (.Call (.Name "super" p1) [] [] p2) "__init__" env (eval (.Call (.Name "super" p1) [] [] p2) env)
    standAt p3.atName
    let (f, first) ← holding [ov] (getMethod ov "__init__" pl)
    callWith p5 f first (backTo p5 (starEach [.Constant (.str m) j p4] env)) [])
  sw1 : ∀ env, swapsWith (.Call (.Attribute (.Call (.Name "super" p1) [] [] p2) "__init__" p3) [.Constant (.str m) j p4] [] p5) none p6.line env = pure false
  sw2 : ∀ env, swapsWith (.Name p q3) (some (.Attribute (.Name "self" q1) f q2)) q4.line env = pure false
structure IniC (P : Program) (K : PySem.W.Frag) (C fI : Addr) (fd : FuncData) (f p : Str) : Prop where
  T : OexC K C
  nof : PySem.W.findIn K (.ref C) f = some none
  sup : PySem.W.ks_superIn K C C "__init__" = some (some (.builtin "ValueError.__init__"))
  subC : PySem.W.mroIn K C (.ref C) = some true
  subV : PySem.W.subIn K (.ref C) (.type "ValueError") = some true
  third : PySem.W.nsIn K cStatics "thirdparty.any" = some none
  ini : PySem.W.excInitIn K C veT "ValueError.__new__" = true
  htop : (P.main.scope.names.lookup ("super" : Str)).isSome = false
  fn : ∃ (oc : Value) (od : Option Addr) (dV kV doc pm ct : Value) (an : Option Addr) (cda cc : Addr) (osl : Array (Option Value)) (qual m : Str) (params : Arguments) (sc : Scope) (j : Nat) (p1 p2 p3 p4 p5 p6 q1 q2 q3 q4 : Pos) (pl : Sem Bool),
    fd = PySem.W.ksFn "__init__" qual params (iniB m f p j p1 p2 p3 p4 p5 p6 q1 q2 q3 q4) sc dV kV doc pm an (.ref cda) ct cc ∧ K.lookup fI = some ⟨oc, od, .func fd, osl⟩ ∧ PySem.W.codeIn K (.ref cda) qual = true ∧
    (∃ ar, (params.posonlyargs ++ params.args).head? = some ar ∧ ar.arg = ("self" : Str)) ∧
    (∃ (ccl : Value) (cdd : Option Addr) (vs : Array Value) (ccs : Array (Option Value)) (file : Str) (tf : Tok), K.lookup cda = some ⟨ccl, cdd, .fields vs, ccs⟩ ∧ vs[2]? = some (.str file tf) ∧ ((P.main.file : Str) == file) = true) ∧
    (∃ (cl : Value) (cld : Option Addr) (csl : Array (Option Value)), K.lookup cc = some ⟨cl, cld, .cell (some (.ref C)), csl⟩) ∧ IniS p sc ∧ IniE m f p j p1 p2 p3 p4 p5 p6 q1 q2 q3 q4 pl
/-- __init__(self, p): the exception gets the field f -/
def spIni (C : Addr) (f : Str) : Sp := fun vs H Q E => ∃ a x, vs = [.ref a, x] ∧ H a = some (exo a C none) ∧ ∀ dx, H dx = none → dx ≠ a → Q .non (upd (upd H dx (exd dx [(f, x)])) a (exo a C (some dx)))
section
variable {P : Program} {w : World} {K : PySem.W.Frag} {mg : Str → Option Value} {base : Heap} {CX : CXT}
theorem ini_ok {C fI : Addr} {fd : FuncData} {f p : Str} (hmg : mg "super" = none) (I : IniC P K C fI fd f p) : FnOk P w K mg base CX 1 fI fd ["self", p] (spIni C f) := by
  refine ⟨fun vs H Q E ⟨a, x, e, _⟩ => by rw [e]; rfl, fun A outer s H args us vs Q E hr e0 hb r ⟨a, x, ev, ha, hq⟩ => ?_⟩
  obtain ⟨oc, od, dV, kV, doc, pm, ct, an, cda, cc, osl, qual, m, params, sc, j, p1, p2, p3, p4, p5, p6, q1, q2, q3, q4, pl, rfl, lk, hcd, ⟨ar, har, hself⟩, ⟨ccl, cdd, vsc, ccs, file, tf, hcode, hvs, hfile⟩, ⟨cl, cld, csl, hcell⟩, S, W⟩ := I.fn
  subst ev
  obtain ⟨u, rfl, ru⟩ : ∃ u, us = [.ref a, u] ∧ RelV x u := by
    cases r with
    | @cons _ u0 _ us1 r0 r1 =>
      cases r1 with
      | @cons _ u1 _ us2 r2 r3 =>
        cases r3
        obtain rfl : u0 = Value.ref a := r0
        exact ⟨u1, rfl, r2⟩
  have X : K.In s.heap := e0.mod.kin.keeps fun b o e => (e0.bs b o e).1
  have lim : s.heap.NoLimit := e0.mod.nolimit.keeps fun b o e => (e0.bs b o e).1
  obtain ⟨t1, ho⟩ := exo_at e0.hok ha
  have lta := Heap.lt_size ho
  refine ks_codeAny_call_defAt (fd := PySem.W.ksFn "__init__" qual params (iniB m f p j p1 p2 p3 p4 p5 p6 q1 q2 q3 q4) sc dV kV doc pm an (.ref cda) ct cc) (body := iniB m f p j p1 p2 p3 p4 p5 p6 q1 q2 q3 q4) (binds := [(("self" : Str), Value.ref a), (p, u)])
    hr.depth (X _ _ lk) rfl lim (PySem.W.codeRec_of X hcd) rfl hb S.noc (fun y hy => ?_) (fun h₁ hns hk => ?_) S.co S.gen S.kind
  · rcases List.mem_cons.mp hy with rfl | hy
    · exact S.self
    · rw [List.mem_singleton.mp hy]; exact S.par
  have F : Fr (PySem.W.hideAll s.heap [a]) s.heap.objs.size h₁ (fun y => [(("self" : Str), Value.ref a), (p, u)].reverse.lookup y) := ⟨hns, fun b o e => hk b o (PySem.W.of_hideAll _ e), Nat.le_of_eq (PySem.W.hideAll_size _ _)⟩
  have N : News (PySem.W.hideAll s.heap [a]) s.heap.objs.size h₁ [(a, PySem.W.excObj C t1 none .none)] := fun q hq => by
    rw [List.mem_singleton.mp hq]
    exact ⟨hk _ _ ho, Nat.ne_of_lt lta, PySem.W.hideAll_none _ (by simp)⟩
  have X₀ : K.In (PySem.W.hideAll s.heap [a]) := fun b o e => PySem.W.hideAll_get [a] (X b o e) (by
    intro z
    have hb0 := (e0.bs b o (e0.mod.kin b o e)).2
    rw [List.mem_singleton.mp z, ha] at hb0
    cases hb0)
  have X1 : K.In h₁ := X₀.keeps F.keep
  have m_self : (fun y => [(("self" : Str), Value.ref a), (p, u)].reverse.lookup y) ("self" : Str) = some (.ref a) := by
    show List.lookup ("self" : Str) [(p, u), (("self" : Str), Value.ref a)] = _
    have : (("self" : Str) == p) = false := by simpa using Ne.symm S.ne
    simp [List.lookup, this]
  have m_par : (fun y => [(("self" : Str), Value.ref a), (p, u)].reverse.lookup y) p = some u := by
    show List.lookup p [(p, u), (("self" : Str), Value.ref a)] = _
    simp [List.lookup]
  have cdS : ∃ cdD oD, PySem.W.clsIn K C = some cdD ∧ h₁.get? C = some oD ∧ oD.data = .cls cdD := by
    obtain ⟨nm, q, N', bs, bm, sn, sub, ab, col, dd, k0, k1, k2, k3, k5, hC, hbm⟩ := I.T.cls
    exact ⟨_, _, by unfold PySem.W.clsIn; rw [hC] <;> rfl, X1 _ _ hC, rfl⟩
  obtain ⟨cdD, oD, hD, hD1, hD2⟩ := cdS
  obtain ⟨mb, hmb1, hmb2⟩ := e0.mod.blt
  have keepB : ∀ (b : Addr) (o : Obj), base.get? b = some o → h₁.get? b = some o := fun b o e => hk b o (e0.bs b o e).1
  have hint : interactive (callEnv (PySem.W.ksFn "__init__" qual params (iniB m f p j p1 p2 p3 p4 p5 p6 q1 q2 q3 q4) sc dV kV doc pm an (.ref cda) ct cc) s.heap.objs.size fI) = false := by
    unfold interactive
    show (sc.kind == .module && _) = false
    rw [S.kind]; rfl
  refine ks_wpAt_execs_cons (ks_wpAt_Expr_any (ks_wpAt_MethodCall ?_ (W.call _)) hint (W.sw1 _))
  refine ks_wpAt_super_base (f := fI) (cc := cda) S.sup S.cls (by decide) rfl (X1 _ _ lk) rfl har rfl (X1 _ _ hcode) rfl hvs hfile I.htop ?_
  refine PySem.W.ks_loadName_global S.kind S.sup (Calls.loadGlobal_builtin (e0.mod.glob.keeps keepB) hmg (hmb1.keeps keepB) ((hmb2 _ (by decide)).trans (by first | rfl | kernel_rfl)) ⟨rfl, ?_⟩)
  refine wpAny_loadName_free S.kind S.cls rfl ⟨_, X1 _ _ hcell, rfl⟩ ?_
  rw [hself]
  refine wpAny_loadName_local S.kind S.self hns m_self ?_
  refine ks_wpAny_isType_cls hD1 hD2 ⟨rfl, ?_⟩
  refine ks_wpAny_call_super hD1 hD2 (hk _ _ ho) rfl (fun c e => by cases e) (PySem.W.looks_mroIn X1 I.subC) (fun h₂ so2 k2 => ?_)
  obtain ⟨F2, N2, l2⟩ := PySem.W.ks_newsPush (s := { s with heap := h₁, toks := s.toks + 2 }) F N rfl so2 k2
  refine PySem.W.kxs_method (C := C) (D := C) (x := a) PySem.W.kxs_ValueError F2 X₀ N2 (List.mem_cons_self) (PySem.W.InstAt.of_exc0 N2 (List.mem_cons_of_mem _ (List.mem_singleton.mpr rfl))) I.third I.sup I.subV (by decide) (fun q3 h₃ F3 N3 l3 => ?_)
  refine PySem.W.kxs_callWith1 N3 (List.mem_cons_self) ?_ (by rfl) (by rfl)
  show wpAny _ _ (spliced ((false, eval (.Constant (.str m) j p4) _) :: [])) _ _ _
  refine Calls.spliced_cons (wpAny_Constant_str (Calls.spliced_nil ⟨PySem.W.kxs_at N3 (List.mem_cons_self), ?_⟩))
  have ne3 : q3 ≠ a := Ne.symm (Nat.ne_of_lt (l3 (a, PySem.W.excObj C t1 none .none) (List.mem_cons_of_mem _ (List.mem_singleton.mpr rfl))))
  have ne2 : h₁.objs.size ≠ a := Ne.symm (Nat.ne_of_lt (l2 (a, PySem.W.excObj C t1 none .none) (List.mem_singleton.mpr rfl)))
  refine PySem.W.kxs_call (x := a) (t := t1) (dv := none) (c2 := .none) (i := "ValueError.__init__") F3 X₀ N3 PySem.F.excBase_ValueError I.ini (List.mem_cons_self) (PySem.W.UpdF.tail ne3 (PySem.W.UpdF.tail ne2 (PySem.W.UpdF.head (fun p hp => by cases hp)))) (by show 1 ≤ sizeLine; rw [sizeLine_eq]; omega) (fun t' h₄ F4 N4 l4 => ?_)
  -- the store
  refine ks_wpAt_execs_cons (ks_wpAt_Assign_Attr ?_ (W.sw2 _))
  refine wpAt_of_wpAny (wpAny_Name (wpAny_loadName_local S.kind S.par F4.ns m_par (wpAny_Name (wpAny_loadName_local S.kind S.self F4.ns m_self ?_) (by decide))) S.nd)
  have X4 : K.In h₄ := X₀.keeps F4.keep
  have he4 : h₄.get? a = some (PySem.W.excObj C t' none .none) := (N4 (a, PySem.W.excObj C t' none .none) (by simp)).1
  obtain ⟨nm, q, N', bs, bm, sn, sub, ab, col, dd, k0, k1, k2', k3, k5, hC, hbm⟩ := I.T.cls
  have hcl : PySem.W.clsIn K C = some { name := nm, bases := bs, mro := .ref C :: bm, ns := N', qualname := q, hasDict := true, slotNames := sn, subclasses := sub, abstract := ab, collection := col, hasDel := false } := by unfold PySem.W.clsIn; rw [hC] <;> rfl
  refine PySem.W.set_plain X4 (ox := PySem.W.excObj C t' none .none) (od := none) ⟨he4, rfl, rfl, trivial⟩ I.T.sa ?_
  refine PySem.HandSPX.exc_osa X4 he4 hcl (show PySem.HandSPX.refsVE (.ref C :: bm) = true from hbm) rfl I.nof (fun h₅ tk5 dx k5' dn dne hx hn => ?_)
  refine wpAt_of_wpAny (wpAny_execs_nil ?_)
  show CE outer P w H s Q .none _
  have big : s.heap.objs.size ≤ h₄.objs.size := Nat.le_of_lt (by
    obtain ⟨oL, es, ep, hL, _⟩ := F4.ns
    exact Heap.lt_size hL)
  have dxs : s.heap.objs.size ≤ dx := Nat.le_trans big dn
  have hnd : H dx = none := e0.hok.fresh dxs
  have keep5 : ∀ b o, b ≠ a → s.heap.get? b = some o → h₅.get? b = some o := fun b o hb e => k5' b o hb (F4.keep b o (PySem.W.hideAll_get [a] e (fun z => hb (List.mem_singleton.mp z))))
  have nd : ∀ {b : Addr} {o : Obj}, s.heap.get? b = some o → b ≠ dx := fun {b o} q => Nat.ne_of_lt (Nat.lt_of_lt_of_le (Heap.lt_size q) dxs)
  have na : ∀ {b : Addr}, H b = none → b ≠ a := fun {b} n z => by
    rw [z, ha] at n
    cases n
  refine ⟨.non, upd (upd H dx (exd dx [(f, x)])) a (exo a C (some dx)), rfl, e0.bare, ⟨fun b o q n _ _ => keep5 b o (na n) q, fun b o q n _ _ => ⟨o.slots, keep5 b o (na n) q⟩, fun b o q n _ => by rw [upd_ne (na n), upd_ne (nd q)]; exact n, fun b o q _ => ?_,
    fun b xs q => by rw [upd_ne (at_ne ha q exo_tup), upd_ne (ne_of_none q hnd)]; exact q, fun b o v q => by rw [upd_ne (at_ne ha q exo_frz), upd_ne (ne_of_none q hnd)]; exact q, fun b ps q => ⟨#[], by rw [upd_ne (at_ne ha q exo_tbl), upd_ne (ne_of_none q hnd), q]; simp⟩⟩, fun b o q => ?_, rfl, hq dx hnd dne⟩
  · by_cases hb : b = a
    · exact ⟨_, by rw [hb]; exact hx⟩
    · exact ⟨o, keep5 b o hb q⟩
  · by_cases hb : b = a
    · subst hb
      rw [upd_same] at q
      cases q
      exact exo_ok hx
    · rw [upd_ne hb] at q
      by_cases hd : b = dx
      · subst hd
        rw [upd_same] at q
        cases q
        exact exd_ok hn (relO_put (fs := []) ru fun g => True.intro)
      · rw [upd_ne hd] at q
        refine (e0.hok b o q).stay (fun c v hc z => keep5 c v ?_ z) (fun c hc => by rw [upd_ne (at_ne ha hc exo_own), upd_ne (ne_of_none hc hnd)]; exact hc) (fun c xs hc => by rw [upd_ne (at_ne ha hc exo_tup), upd_ne (ne_of_none hc hnd)]; exact hc)
        rcases hc with hc | hc
        · rw [hc]
          exact hb
        · exact at_ne ha hc exo_own
end
end PL
/-! PY2: raise, over pure data. -/
namespace PL
open PySem PySem.Spec PyProof.Rows L2
variable [HasT]
/-- raise cn(e), its one field f -/
def wRaiseF (cn f : Str) (w : WE) : WS := fun Dp ρ => wK w ρ (fun d ρ' => Dp.ex ⟨cn, [f], [d]⟩ ρ') Dp.ex
/-- raise cn(e), no field -/
def wRaise0 (cn : Str) (w : WE) : WS := fun Dp ρ => wK w ρ (fun _ ρ' => Dp.ex ⟨cn, [], []⟩ ρ') Dp.ex
/-- the class cn, whose __init__ stores f: as the frame has it -/
structure XClF (K : PySem.W.Frag) (mg : Str → Option Value) (P : Program) (cn f p : Str) (C fI : Addr) (fd : FuncData) : Prop where
  gC : mg cn = some (.ref C)
  ini : IniC P K C fI fd f p
  iC : PySem.W.findIn K (.ref C) "__init__" = some (some (.ref fI))
  tI : PySem.W.typeIn K (.ref fI) = some (.type "function")
  bnd : Binds K fd ["self", p] []
  sup : mg "super" = none
section
variable {X : Cx} {XE : XK} {k : Nat}
/-- the exception's dict is all that is new -/
theorem xd_step {c1 : Cfg} (ok : Ok X.K X.mg c1) {dx : Addr} {gs : List (Str × V)} (h : c1.H dx = none) : Go X.K X.mg c1 { c1 with H := upd c1.H dx (.xd gs) } :=
  (Step.new (o := .xd gs) ok.sub h).go ok
/-- the heap behind C(e) -/
theorem xd_heap {H : Hp} {a dx C : Addr} {f : Str} {v : V} (ha : H a = none) (hd : H dx = none) (ne : dx ≠ a) :
    upd (L2.del (upd (upd (upd H a (exo a C none)) dx (exd dx [(f, v)])) a (exo a C (some dx))) a) dx (.xd [(f, v)]) = upd H dx (.xd [(f, v)]) := by
  funext b
  by_cases h1 : b = dx
  · rw [h1, upd_same, upd_same]
  · rw [upd_ne h1, upd_ne h1]
    by_cases h2 : b = a
    · rw [h2, del_same, ha]
    · rw [del_ne h2, upd_ne h2, upd_ne h1, upd_ne h2]
theorem raiseF_run {cn f p : Str} {Cl fI : Addr} {fd : FuncData} {e : Expr} {w : WE} {t : TE} (D : XClF X.K X.mg X.prog cn f p Cl fI fd)
    (s : ∀ (c : Cfg) (Qp : R → Env → Prop) (Ep : Ex → Env → Prop) (Q : VK), Ok X.K X.mg c → w c.ρ Qp Ep → XOk X.K X.mg c Ep XE → (∀ v c' r, Go X.K X.mg c c' → c'.σ = c.σ → RR X.K X.mg c c' r v → Qp r c'.ρ → Q v c'.H) → t c.σ c.H Q)
    (c : Cfg) (Dp : PEnds) (De : Ends) (ok : Ok X.K X.mg c) (hw : wRaiseF cn f w Dp c.ρ) (Pk : POk X.K X.mg c Dp De XE) : tMkO Cl (spIni Cl f) [] (tCons t tNil) c.σ c.H (fun cls d H => XE cls d H) := by
  show t c.σ c.H _
  refine runK (e := e) s ok hw (Pk.2.2.2.2.ex X.K X.mg) fun v c1 d g1 e1 r1 h1 => ?_
  refine ⟨by show 1 ≤ 1000; omega, fun a ha => ⟨a, v, rfl, upd_same, fun dx hdx ne => ⟨rfl, dx, [(f, v)], upd_same, by rw [upd_ne ne, upd_same], by rw [upd_ne ne] at hdx; exact hdx, ?_⟩⟩⟩
  rw [upd_ne ne] at hdx
  show XE (.ref Cl) (some dx) _
  rw [xd_heap ha hdx ne]
  exact Pk.2.2.2.2 ⟨cn, [f], [d]⟩ (.ref Cl) (some dx) { c1 with H := upd c1.H dx (.xd [(f, v)]) } (g1.trans X.K X.mg (xd_step g1.ok hdx)) ⟨Cl, D.gC, rfl, [(f, v)], upd_same, rfl, RepL.one X.K X.mg r1⟩ (fun b eb => by
    cases eb
    refine ⟨?_, fresh_F g1.ok.sub hdx, fun i hi => (g1.ok.out i _ hi).2 hdx⟩
    cases q : c.H dx with
    | none => rfl
    | some u => exact absurd hdx (g1.fr.grow dx (by rw [q]; simp))) h1
theorem pst_raiseF {cn f p : Str} {Cl fI : Addr} {fd : FuncData} {e : Expr} {w : WE} {np pos rpos : Pos} (C : Cc X XE k) (hk : 2 ≤ k) (D : XClF X.K X.mg X.prog cn f p Cl fI fd) (h : PdE X XE e w)
    (hg : Gl X cn := by rfl) (hdb : (cn == ("__debug__" : Str)) = false := by decide) (he : starEach [e] X.env = (false, eval e X.env) :: starEach [] X.env := by rfl) (hpl : (backTo pos (starEach [] X.env)).any (·.1) = false := by rfl) :
    PdS X XE (.Raise (some (.Call (.Name cn np) [e] [] pos)) none rpos) (wRaiseF cn f w) := by
  obtain ⟨t, pe, s⟩ := h
  refine ⟨_, ps_raise C.calm C.tak (pmk_oex (CX := L2.CX X.prog X.w) (k := 1) D.ini.T D.iC D.tI (ini_ok D.sup D.ini) (C.room.mono hk) D.bnd .nil (fun pins σ H s e s' I q => passes_call C.tak (fun _ _ _ _ z => False.elim z) pins σ H s e s' I q) hg D.gC (pa_cons pe pa_nil he) hdb he hpl), fun c Dp De ok hw Pk => ?_⟩
  exact raiseF_run (e := e) D s c Dp De ok hw Pk
end
end PL
/-! PY3: try: .. / except C as e: x = e: the exception is kept. -/
namespace PL
open PySem PySem.Spec PyProof.Rows L2
section
variable {X : Cx} {pins : List (Addr × Obj)} {σ : L2.St} {H : Hp} {s : Shared}
theorem excV_ok {P : Program} {w : World} {h : Heap} {a : Addr} {cls : Value} {d : Option Addr} {oe : Obj} {vs : Array Value} (e : h.get? a = some oe) (z : Zc cls d oe) (dt : oe.data = .fields vs) : ObjOk P w H h a (ExcV a cls d) :=
  ⟨⟨oe, vs, e, z, dt⟩, ⟨oe, e⟩, fun h1 h2 ⟨o, us, q1, q2, q3⟩ k => ⟨o, us, k _ q1, q2, q3⟩⟩
theorem excV_at {P : Program} {w : World} {h : Heap} {a : Addr} {cls : Value} {d : Option Addr} (hok : HOk P w H h) (e : H a = some (ExcV a cls d)) : ∃ (oe : Obj) (vs : Array Value), h.get? a = some oe ∧ Zc cls d oe ∧ oe.data = .fields vs := by
  have x : ObjOk P w H h a (.ext fun h => ∃ (oe : Obj) (vs : Array Value), h.get? a = some oe ∧ Zc cls d oe ∧ oe.data = .fields vs) := hok a _ e
  exact x.1
/-- a thing that came since the entry is told from now on -/
theorem Inv.track {a : Addr} {o : HO} (I : Inv X pins σ H s) (n0 : X.s_0.heap.get? a = none) (hn : H a = none) (nL : a ≠ X.env.locals) (nC : ∀ x c, X.env.cells.lookup x = some c → c ≠ a) (nP : ∀ p ∈ X.pn ++ pins, p.1 ≠ a)
    (new : ObjOk X.prog X.w (upd H a o) s.heap a o) : Inv X pins σ (upd H a o) s where
  ok := I.ok
  os := I.os
  bare := I.bare
  base := {
    keep := I.base.keep
    slot := I.base.slot
    free := fun b u q n e => by
      rw [upd_ne (fun z => by rw [z, n0] at q; cases q)]
      exact I.base.free b u q n e
    there := I.base.there
    tups := fun b xs q => by
      have y := I.base.tups b xs q
      rw [upd_ne (ne_of_none y hn)]; exact y
    frzs := fun b u v q => by
      have y := I.base.frzs b u v q
      rw [upd_ne (ne_of_none y hn)]; exact y
    tbls := fun b ps q => by
      obtain ⟨m, y⟩ := I.base.tbls b ps q
      exact ⟨m, by rw [upd_ne (ne_of_none y hn)]; exact y⟩ }
  loc := I.loc
  cell := I.cell
  free := by rw [upd_ne (Ne.symm nL)]; exact I.free
  freeC := fun x c e => by rw [upd_ne (nC x c e)]; exact I.freeC x c e
  pin := fun p hp => by
    obtain ⟨h1, h2, h3, h4, h5⟩ := I.pin p hp
    exact ⟨h1, by rw [upd_ne (nP p hp)]; exact h2, h3, h4, h5⟩
  hok := fun b u e => by
    by_cases hb : b = a
    · subst hb
      rw [upd_same] at e
      cases e
      exact new
    · rw [upd_ne hb] at e
      exact (I.hok b u e).stay (fun _ _ _ q => q) (fun c hc => by rw [upd_ne (ne_of_none hc hn)]; exact hc) (fun c xs hc => by rw [upd_ne (ne_of_none hc hn)]; exact hc)
  len := I.len
/-- into the clause's suite, and out of it -/
theorem Inv.inS (I : Inv X pins σ H s) (a : Addr) : Inv (X.suite a (X.pn ++ pins)) [] σ H s :=
  ⟨I.ok.suite a _, I.os, I.bare, I.base, I.loc, I.cell, I.free, I.freeC, fun p hp => I.pin p (by simpa using hp), I.hok, I.len⟩
theorem Inv.outS {a : Addr} (I : Inv (X.suite a (X.pn ++ pins)) [] σ H s) (ok : X.Ok) : Inv X pins σ H s :=
  ⟨ok, I.os, I.bare, I.base, I.loc, I.cell, I.free, I.freeC, fun p hp => I.pin p (by simpa using hp), I.hok, I.len⟩
end
/-- what the clause 'except c as e: x = e' wishes: slot i is e's, slot j is x's -/
def wKeep (K : PySem.W.Frag) (c : Value) (n i j : Nat) (Wo : WX) (D : Ends) : WX := fun cls d σ H =>
  ∃ b, PySem.W.exmOne K cls c = some b ∧ (b = true → ∀ a, H a = none → σ.length = n → D.nx (((σ.set i (some (.ref a))).set j (some (.ref a))).set i none) (upd H a (ExcV a cls d))) ∧ (b = false → Wo cls d σ H)
section
variable {X : Cx} {x n y : Str} {c : Value} {i j : Nat} {body : List Stmt} {np np2 yp apos hpos pos : Pos} {tb : WX → TS} {Wo : WX}
theorem try_keep (hs : X.stack = X.env :: X.outer) (hf : X.env.frame = some X.env.locals) (hex : X.ex = []) (hN : X.N.Nodup) (hi : X.N[i]? = some n) (hln : X.env.kindOf n = some .local) (hj : X.N[j]? = some y) (hly : X.env.kindOf y = some .local) (hc : Names X x c) (tk : Takes X Wo)
    (hb : ∀ (W : WX) (pn : List (Addr × Obj)) (xe : Value → Shared → Prop), Takes (X.tr pn xe) W → PassesOwn (model X.prog X.w) X.A X.env xe → PSs (X.tr pn xe) body (tb W))
    (hsw : swapsWith (.Name n np2) (some (.Name y yp)) apos.line X.env = pure false := by rfl) (hdn : (n == ("__debug__" : Str)) = false := by decide) (hcn : (n == ("__classdict__" : Str)) = false := by decide) :
    PS X (.Try body [.ExceptHandler (some (.Name x np)) (some n) [.Assign [.Name y yp] (.Name n np2) apos] hpos] [] [] pos) (fun D σ H => tb (wKeep X.K c X.N.length i j Wo D) D σ H) := by
  refine ⟨fun pins s σ H D I h => ?_⟩
  have ok := I.ok
  have frames : X.A.frames = some (X.env :: X.outer) := by rw [ok.frames, hs]
  refine wpAny_Try_except (wpAny_mono ((hb (wKeep X.K c X.N.length i j Wo D) (X.pn ++ pins) (fun e s1 => wpAny (model X.prog X.w) X.A (noteFrame e X.env) (fun _ s2 => wpAny (model X.prog X.w) X.A (setFlight e none) (fun _ s3 =>
    wpAny (model X.prog X.w) X.A (handleBy e X.env [.ExceptHandler (some (.Name x np)) (some n) [.Assign [.Name y yp] (.Name n np2) apos] hpos]) (SP X pins D) X.xe s3) X.xe s2) X.xe s1) (fun u s' xx => ?_) PassesOwn.looking).run [] s σ H D (I.toTry _) h) (fun f s1 hsp => ?_) (fun e s1 he => he))
  · obtain ⟨a, B, sI, pins', σ', H', cls, d, rfl, J', nb, up, sky, na, os, ag, b, hb1, hyes, hno⟩ := xx
    have J : Inv X pins σ' H' sI := J'.ofTry ok
    have sky2 : Sky B (X.env :: X.outer) a (Zc cls d) X.env.locals s'.heap := by rw [← hs]; exact sky
    show wpAny (model X.prog X.w) X.A (noteFrame (.ref a) X.env) _ _ _
    refine Sky.land Zc.steady frames hf sky2 fun h3 fl3 up3 => ?_
    have J3 : Inv X pins σ' H' { s' with heap := h3 } := J.landed nb fl3.1 (up.trans up3) os ag
    obtain ⟨oe3, vs3, he3, hz3, hd3⟩ := fl3.there
    have apart : a ∉ frs (X.env :: X.outer) := fun hm => by
      obtain ⟨_, o', e', hnf⟩ := fl3.2.2.1.mem hm
      rw [he3] at e'; cases e'
      exact hnf _ hd3
    have nL : a ≠ X.env.locals := fun z => apart (List.mem_filterMap.mpr ⟨X.env, List.mem_cons_self, by rw [hf, z]⟩)
    have nF : a ∉ X.fs := fun hm => by
      obtain ⟨e, he, q⟩ := List.mem_filterMap.mp hm
      exact apart (List.mem_filterMap.mpr ⟨e, List.mem_cons_of_mem _ he, q⟩)
    have nI : sI.heap.get? a = none := by
      cases q : sI.heap.get? a with
      | none => rfl
      | some o =>
        have y := nb a o q (by rw [hs]; exact apart)
        rw [fl3.2.1] at y
        cases y
    have n0 : X.s_0.heap.get? a = none := by
      cases q : X.s_0.heap.get? a with
      | none => rfl
      | some o =>
        obtain ⟨o', y⟩ := J.base.there a o q (by rw [hex]; simp)
        rw [nI] at y
        cases y
    have nC : ∀ x c, X.env.cells.lookup x = some c → c ≠ a := fun x c e z => by
      obtain ⟨v, o, ho, _⟩ := J.cell x c e
      rw [z, nI] at ho
      cases ho
    have nP : ∀ p ∈ X.pn ++ pins, p.1 ≠ a := fun p hp z => by
      have ho := (J.pin p hp).1
      rw [z, nI] at ho
      cases ho
    have S3 := J3.suite he3 hd3 na nL nF
    refine wpAny_handleBy_cons (codeAny_handlers_test ?_) (by intro q; cases q)
    have LT : PySem.W.Looks (model X.prog X.w) h3 (typeOf (.ref a)) cls := fun A Q E s k q => wpAny_typeOf_ref (k _ _ he3) (by rw [hz3.1]; exact q)
    have LM := PySem.W.exm_one (M := model X.prog X.w) (J3.kIn) LT hb1
    have ask : ∀ {Q : Value → Shared → Prop} {E : Value → Shared → Prop}, Q c { s' with heap := h3 } → wpAny (model X.prog X.w) (X.A.mark (some (.ref a))) (eval (.Name x np) X.env) Q E { s' with heap := h3 } := fun {Q E} q => by
      obtain ⟨hg, hdbg, hm | ⟨hm, hv, hnn⟩⟩ := hc
      · exact ld_glob (X := X.suite a ((a, oe3) :: (X.pn ++ pins))) S3 hg hm q hdbg
      · exact ld_blt (X := X.suite a ((a, oe3) :: (X.pn ++ pins))) S3 hg hm hv q hnn hdbg
    refine ask (LM.here ?_)
    cases b with
    | true =>
      refine codeAny_handlers_suite_as (HandSPX.lands_againZ fl3 fun h4 fl4 up4 => ?_)
      have J4 : Inv X pins σ' H' { s' with heap := h4 } := J.landed nb fl4.1 ((up.trans up3).trans up4) os ag
      obtain ⟨oe4, vs4, he4, hz4, hd4⟩ := fl4.there
      have J5 : Inv X pins σ' (upd H' a (ExcV a cls d)) { s' with heap := h4 } := Inv.track J4 n0 na nL nC nP (excV_ok he4 hz4 hd4)
      refine store_ok (X := X.suite a (X.pn ++ pins)) (v := .ref a) (Inv.inS J5 a) hN hi (.inl hln) rfl (fun s5 S5 => ?_) (.inr hln)
      have body' : PSs (X.suite a (X.pn ++ pins)) [.Assign [.Name y yp] (.Name n np2) apos] _ := pss_one (ps_asg (pe_var (X := X.suite a (X.pn ++ pins)) hi (.inl hln) hdn hcn) (pg_name (X := X.suite a (X.pn ++ pins)) (i := j) hN hj (.inl hly) (.inr hly)) hsw)
      have hit : (σ'.set i (some (V.ref a)))[i]? = some (some (V.ref a)) := by
        have hil : i < X.N.length := (List.getElem?_eq_some_iff.mp hi).1
        rw [List.getElem?_set_self (by rw [J.len]; exact hil)]
      refine wpAny_mono (body'.run [] s5 _ _ { nx := fun σ6 H6 => D.nx (σ6.set i none) H6, rt := fun _ _ => False } S5 ⟨.ref a, hit, hyes rfl a na J.len⟩) (fun f s6 hsp => ?_) (fun _ _ z => False.elim z)
      cases f with
      | next =>
        obtain ⟨σ6, H6, S6, q6⟩ := hsp
        exact gone_ok (Inv.outS S6 ok) hN hi hln fun s7 J7 => ⟨_, _, J7, q6⟩
      | brk => obtain ⟨σ6, H6, S6, q6⟩ := hsp; exact q6.elim
      | cont => obtain ⟨σ6, H6, S6, q6⟩ := hsp; exact q6.elim
      | ret u => obtain ⟨v6, σ6, H6, S6, r6, q6⟩ := hsp; exact q6.elim
    | false =>
      refine wpAny_handleBy_nil ?_
      obtain ⟨k1, k2, k3, oe, vs, T, oT, ts', he, hz, hd, h1, hr⟩ := id fl3
      unfold PySem.passOn
      refine wpAny_bind (wpAny_field he hd h1 ?_)
      rw [if_neg (show ¬ ((Value.ref T == Value.none) = true) from by simp)]
      have fin : wpAny (model X.prog X.w) X.A (setFlight (.ref a) X.env.frame) (fun _ s4 => wpAny (model X.prog X.w) X.A (throw (.ref a) : Sem Flow) (SP X pins D) X.xe s4) X.xe { s' with heap := h3 } := by
        rw [hf]
        exact HandSPX.setFlight_upZ fl3 fun h4 hh4 up4 => wpAny_throw (tk _ _ ⟨a, B, sI, pins, σ', H', cls, d, rfl, J, nb, (up.trans up3).trans up4, .inr (.inr (by rw [hs]; exact hh4)), na, os, ag, hno rfl⟩)
      first
        | exact wpAny_bind (wpAny_pure (wpAny_bind fin))
        | exact wpAny_bind fin
  · cases f with
    | next => obtain ⟨σ', H', J', q⟩ := hsp; exact wpAny_execs_nil ⟨σ', H', J'.ofTry ok, q⟩
    | brk => obtain ⟨σ', H', J', q⟩ := hsp; exact ⟨σ', H', J'.ofTry ok, q⟩
    | cont => obtain ⟨σ', H', J', q⟩ := hsp; exact ⟨σ', H', J'.ofTry ok, q⟩
    | ret u => obtain ⟨v, σ', H', J', r, q⟩ := hsp; exact ⟨v, σ', H', J'.ofTry ok, r, q⟩
end
end PL
/-! PY9: defs that are run where no repr is under way (repr of nested data asks that). -/
namespace PL
open PySem PySem.Spec PyProof.Rows L2
variable [HasT]
/-- no repr is under way -/
abbrev NoG (A : Around) : Prop := A.guards = some []
/-- the promise of a def, where no repr is under way -/
structure FnG (P : Program) (w : World) (K : PySem.W.Frag) (mg : Str → Option Value) (base : Heap) (k : Nat) (f : Addr) (fd : FuncData) (ps : List Str) (fs : FS) : Prop where
  run : ∀ (A : Around) (outer : List PySem.Env) (s : Shared) (H : Hp) (args : Args) (us : List Value) (vs : List V) (Q : VK) (E : XK), NoG A → Room k A → Env0 P w K mg base A outer s H → BindsTo s fd args (ps.zip us) → Vals vs us → spOf K mg fs ps.length vs H Q E →
    codeAny (model P w) A (.call (.ref f) args) (CR (L2.CX P w) outer P w H s Q E) s
theorem spOf_len {K : PySem.W.Frag} {mg : Str → Option Value} {fs : FS} {n : Nat} {vs : List V} {H : Hp} {Q : VK} {E : XK} (h : spOf K mg fs n vs H Q E) : vs.length = n := by
  obtain ⟨c, args, Qp, Ep, ok, rfl, h1, h2, h3, _⟩ := h
  have := ok.len
  rw [h1, h2] at this
  simp at this
  omega
section
variable {P : Program} {w : World} {K : PySem.W.Frag} {mg : Str → Option Value} {base : Heap}
theorem fn_pdG {x qual : Str} {prm : Arguments} {st : Stmt} {dvs0 : List V} {kws0 : List (Str × V)} {f : Addr} {fd : FuncData} {N ps : List Str} {k : Nat} {ws : WS} {fs : FS} (F : FunD K x qual prm (defBody st) (defScope st) dvs0 kws0 f fd) (S : FnScope N ps (defScope st))
    (body : ∀ (A : Around) (outer : List PySem.Env) (s : Shared) (H : Hp) (E : XK), NoG A → Cc (cxOf (L2.CX P w) P w K mg base N qual (defScope st) f fd.code A outer s H E) E k → PdSs (cxOf (L2.CX P w) P w K mg base N qual (defScope st) f fd.code A outer s H E) E (defBody st) ws)
    (spec : ∀ args Qp Ep, fs args Qp Ep → args.length = ps.length ∧ ws { nx := fun ρ => Qp (.val .non) (outA args ρ), rt := fun r ρ => Qp r (outA args ρ), ex := fun x ρ => Ep x (outA args ρ) } (envOf args N.length)) :
    FnG P w K mg base (k + 1) f fd ps fs := by
  obtain ⟨oc, od, dV, kV, doc, pm, an, cdv, ct, osl, rfl, lk, hcd, _, _⟩ := F.ex
  refine ⟨fun A outer s H args us vs Q E hn hr e0 hb r h => ?_⟩
  refine LamX.run_ofS (CX := L2.CX P w) lk hcd S hr e0 hb r (spOf_len h) fun hr' => ?_
  obtain ⟨t, ht, so⟩ := body A outer s H E hn ⟨rfl, passes_of rfl, fun pins σ H' s' e s'' I q => passes_call (takes_of rfl rfl rfl rfl) (fun _ _ _ _ z => z) pins σ H' s' e s'' I q, takes_of rfl rfl rfl rfl, hr'⟩
  exact ⟨t, ht, fn_core (X := cxOf (L2.CX P w) P w K mg base N qual (defScope st) f cdv A outer s H E) so spec h⟩
end
/-- such a def as its callers know it -/
structure DfG (P : Program) (w : World) (K : PySem.W.Frag) (mg : Str → Option Value) (base : Heap) (x : Str) (f : Addr) (fd : FuncData) (ps : List Str) (j : Nat) (fs : FS) : Prop where
  fn : FnG P w K mg base j f fd ps fs
  mx : mg x = some (.ref f)
  kp : PySem.W.keepIn K (.ref f) = true
  bd : Binds K fd ps []
section
variable {X : Cx} {XE : XK} {k : Nat}
theorem pe_callG {x : Str} {f : Addr} {fd : FuncData} {ps : List Str} {fs : FS} {p pos : Pos} {e : Expr} {es : List Expr} {ds : List Value} {dvs : List V} {t : TA} {E : XK} {j : Nat} (F : FnG X.prog X.w X.K X.mg X.base j f fd ps fs) (hn : NoG X.A) (hr : Room j X.A) (hg : Gl X x) (hm : X.mg x = some (.ref f)) (hk : PySem.W.keepIn X.K (.ref f) = true)
    (hb : Binds X.K fd ps ds) (hd : Vals dvs ds) (hx : Passes (L2.CX X.prog X.w) X E) (ha : PA X (e :: es) t) (hdb : (x == ("__debug__" : Str)) = false) (he : starEach (e :: es) X.env = (false, eval e X.env) :: starEach es X.env) (hpl : (backTo pos (starEach es X.env)).any (·.1) = false) :
    PE X (.Call (.Name x p) (e :: es) [] pos) (tCall (spOf X.K X.mg fs ps.length) dvs E t) := by
  refine ⟨fun pins s σ H Q I h => wpAny_Call_Name_kw (ld_glob I hg hm (PySem.W.callWith_K (h₀ := X.base) I.ok.mod.kin hk (thn (ha.run pos pins s σ H _ I h) fun us s1 hh => ?_) he hpl) hdb)⟩
  obtain ⟨vs, H1, I1, rv, q⟩ := hh
  refine ⟨I1.kIn, wpAny_call (codeAny_mono (F.run X.A X.stack s1 H1 ⟨us, []⟩ (us ++ ds) (vs ++ dvs) Q E hn hr I1.env0 (hb s1 us I1.kIn ?_) (rv.append hd) q) fun r s' hq => ?_)⟩
  · rw [← (rv.append hd).length]
    exact spOf_len q
  · rcases r with er | (_ | _ | _ | _)
    · exact hx pins σ H1 s1 er s' I1 hq
    · exact hq.elim
    · exact hq.elim
    · exact hq.elim
    · exact I1.after hq
/-- f(e, ..), f a def that wants no repr under way -/
theorem pd_callG {j : Nat} {x : Str} {f : Addr} {fd : FuncData} {ps : List Str} {p pos : Pos} {e : Expr} {es : List Expr} {fs : FS} {dds : List D} {dvs : List V} {ds : List Value} {w : WR} (C : Cc X XE k) (hn : NoG X.A) (F : FnG X.prog X.w X.K X.mg X.base j f fd ps fs) (hj : j ≤ k)
    (hm : X.mg x = some (.ref f)) (hk : PySem.W.keepIn X.K (.ref f) = true) (hb : Binds X.K fd ps ds) (hd : Vals dvs ds) (hD : ∀ F, RepL X.K X.mg F dds dvs) (ha : PdV X XE (e :: es) w) (hl : (e :: es).length + dds.length = ps.length := by rfl)
    (gl : Gl X x := by rfl) (hdb : (x == ("__debug__" : Str)) = false := by decide) (he : starEach (e :: es) X.env = (false, eval e X.env) :: starEach es X.env := by rfl) (hpl : (backTo pos (starEach es X.env)).any (·.1) = false := by rfl) :
    PdE X XE (.Call (.Name x p) (e :: es) [] pos) (wCallF fs dds w) := by
  obtain ⟨t, pa, s⟩ := ha
  refine ⟨_, pe_callG (E := XE) F hn (C.room.mono hj) gl hm hk hb hd C.pas pa hdb he hpl, fun c Qp Ep Q ok hw x k => ?_⟩
  refine s c _ Ep _ ok hw x fun vs c1 rs g1 e1 r1 l1 h1 => ?_
  exact call_core g1.ok r1 hD (by rw [l1]; exact hl) h1 (x.go X.K X.mg g1 e1) fun v c2 r g2 e2 rr q => k v c2 r (g1.trans X.K X.mg g2) (e2.trans e1) (rr_go g1 rr) q
end
end PL
/-! PY10: x(lambda: e) where no repr is under way, nor in e. -/
namespace PL
open PySem PySem.Spec PyProof.Rows L2 LamX
section
variable {X : Cx} {pins : List (Addr × Obj)} {σ : L2.St} {H : Hp} {s : Shared}
/-- the lambda at f is run, from the frame of the def g -/
theorem lam_runN {gE : PySem.Env} {s1 : Shared} {HZ : Hp} {f c' : Addr} {pm ctv : Value} {params : Arguments} {body : Expr} {scope : Scope} {k : Nat} {E : XK} {tb : TE} {Q : VK} (I : Inv X pins σ H s) (L : LamS X.env.scope scope)
    (of1 : s1.heap.get? f = some (PySem.W.kla_obj "<lambda>" (X.env.qual ++ "<lambda>") params body scope (cloFrom X.env.cells scope.names []) pm c' ctv)) (un : Un (frs X.stack) [] H HZ s.heap s1.heap) (e1 : Env0 X.prog X.w X.K X.mg X.base (X.A.deeper gE) (gE :: X.stack) s1 HZ) (lim : s1.heap.NoLimit)
    (hbind : bindArgs (PySem.W.kla_fn "<lambda>" (X.env.qual ++ "<lambda>") params body scope (cloFrom X.env.cells scope.names []) pm (.ref c') ctv) ⟨[], []⟩ = pure []) (hc : ∃ (oc : Obj) (vs : Array Value) (t : Tok), s1.heap.get? c' = some oc ∧ oc.data = .fields vs ∧ vs[1]? = some (.str (X.env.qual ++ "<lambda>") t))
    (hn : NoG X.A) (hr : Room (k + 1) (X.A.deeper gE)) (hbody : ∀ (A : Around) (outer : List PySem.Env) (s : Shared) (H : Hp), NoG A → Room k (A.deeper (lamEnv X scope s.heap.objs.size f c')) → PE (lamCx X A outer s H E scope f c') body tb) (ht : tb σ HZ Q) :
    codeAny (model X.prog X.w) (X.A.deeper gE) (.call (.ref f) ⟨[], []⟩) (CR (L2.CX X.prog X.w) (gE :: X.stack) X.prog X.w HZ s1 Q E) s1 := by
  obtain ⟨oc, vs, t, hoc, hdc, hvc⟩ := hc
  refine PySem.W.kla_callFunE hr.depth of1 rfl L.co L.gen rfl ⟨c', oc, vs, t, rfl, hoc, hdc, hvc⟩ ?_
  rw [hbind]
  refine wpAny_pure (wpAny_newFunctionEnv (fun y hy => (L.own y hy).2) (fun y hy => nomatch hy) (fun h₁ hns hsb => ⟨lim.fresh _ hsb, ?_⟩) L.kind)
  refine PySem.W.kla_codeExpr (env := lamEnv X scope s1.heap.objs.size f c') (wpAny_mono ((hbody (X.A.deeper gE) (gE :: X.stack) s1 HZ hn (hr.deeper _)).run [] _ _ HZ Q (lam_start2 I L e1 hr.hd un hns fun b o e => hsb.extBut b o (Nat.ne_of_lt (Heap.lt_size e)) (Heap.get?_push_of_some _ e)) ht) (fun v s' hq => ?_) fun e s' hq => hq)
  obtain ⟨w', H', J', rv, q⟩ := hq
  exact ⟨w', H', J'.os, J'.bare, J'.base, J'.hok, rv, q⟩
/-- x(), in the def g that got the lambda -/
theorem pe_actN {CXg : CXT} {Eg : XK} {Ng : List Str} {qg : Str} {sg : Scope} {g f c' : Addr} {cdg pm ctv : Value} {params : Arguments} {body : Expr} {scope : Scope} {k : Nat} {a : Str} {pn : List (Addr × Obj)} {xe : Value → Shared → Prop} {W : WX} {E : XK} {tb : TE} {p1 p2 : Pos}
    (I : Inv X pins σ H s) (L : LamS X.env.scope scope) (hf : s.heap.get? f = some (PySem.W.kla_obj "<lambda>" (X.env.qual ++ "<lambda>") params body scope (cloFrom X.env.cells scope.names []) pm c' ctv)) (hfn : H f = none) (hfr : f ∉ frs X.stack)
    (hbind : bindArgs (PySem.W.kla_fn "<lambda>" (X.env.qual ++ "<lambda>") params body scope (cloFrom X.env.cells scope.names []) pm (.ref c') ctv) ⟨[], []⟩ = pure [])
    (tk : Takes ((cxOf CXg X.prog X.w X.K X.mg X.base Ng qg sg g cdg X.A X.stack s H Eg).tr pn xe) W) (hW : ∀ cls d σ' H', E cls d H' → W cls d σ' H') (hn : NoG X.A) (hr : Room (k + 1) (X.A.deeper (envOfC qg sg s.heap.objs.size g cdg)))
    (hbody : ∀ (A : Around) (outer : List PySem.Env) (s : Shared) (H : Hp), NoG A → Room k (A.deeper (lamEnv X scope s.heap.objs.size f c')) → PE (lamCx X A outer s H E scope f c') body tb)
    (hN : Ng[0]? = some a) (hv : Vis sg a) (hd : (a == ("__debug__" : Str)) = false) (hcd : (a == ("__classdict__" : Str)) = false) :
    PE ((cxOf CXg X.prog X.w X.K X.mg X.base Ng qg sg g cdg X.A X.stack s H Eg).tr pn xe) (.Call (.Name a p1) [] [] p2) (fun σZ HZ Q => σZ[0]? = some (some (.ref f)) ∧ HZ c' = some (CodeO c' (X.env.qual ++ "<lambda>")) ∧ tb σ HZ Q) := by
  refine ⟨fun pinsZ sZ σZ HZ Q IZ hh => wpAny_Call_Name_kw (thn ((pe_var (pos := p1) (i := 0) hN hv hd hcd).run pinsZ sZ σZ HZ (fun v H1 => v = .ref f ∧ H1 = HZ) IZ ⟨.ref f, hh.1, rfl, rfl⟩) fun u s1 hq => ?_)⟩
  obtain ⟨v, H1, I1, r1, rfl, rfl⟩ := hq
  obtain rfl : u = Value.ref f := r1
  have of1 := I1.base.keep f _ hf hfn hfr (fun z => nomatch (show f ∈ ([] : List Addr) from z))
  refine PySem.W.callWith_F0 ⟨_, _, _, _, of1⟩ (wpAny_call (codeAny_mono (lam_runN (E := E) I L of1 I1.base I1.env0 I1.nolimit hbind (I1.hok c' _ hh.2.1).1 hn hr hbody hh.2.2) fun r s' hq => ?_))
  rcases r with er | (_ | _ | _ | _)
  · exact passes_call tk hW pinsZ σZ H1 s1 er s' I1 hq
  · exact hq.elim
  · exact hq.elim
  · exact hq.elim
  · exact I1.after hq
end
end PL
/-! PY4: x(lambda: e), x a def that catches what e raises and keeps it. -/
namespace PL
open PySem PySem.Spec PyProof.Rows L2 LamX
section
variable {X : Cx} {pins : List (Addr × Obj)} {σ : L2.St} {H : Hp} {s : Shared}
/-- a lambda without parameters is made; its names may be the def's captured ones -/
theorem lamZ {T : List (Addr × Str)} {c P : Addr} {params : Arguments} {body : Expr} {scope : Scope} {pos : Pos} {E : Value → Shared → Prop} {Q : Value → Shared → Prop} (I : Inv X pins σ H s) (D : LamDef T X c P) (tb : Tabs T H) (nodef : defaultsOf params X.env = ([], [])) (L : LamS X.env.scope scope)
    (go : ∀ (f c' : Addr) (pm ctv : Value) (H1 : Hp) (s' : Shared), Inv X pins σ H1 s' → LamStep P (X.env.qual ++ "<lambda>") H H1 → Tabs T H1 → s'.heap.get? f = some (PySem.W.kla_obj "<lambda>" (X.env.qual ++ "<lambda>") params body scope (cloFrom X.env.cells scope.names []) pm c' ctv) →
      H1 f = none → f ∉ frs X.stack → H1 c' = some (CodeO c' (X.env.qual ++ "<lambda>")) → Q (.ref f) s') :
    wpAny (model X.prog X.w) X.A (eval (.Lambda params body scope pos) X.env) Q E s := by
  obtain ⟨ps, tP, trip, told⟩ := tb _ D.mem
  have cl := closure_ok (env := X.env) (L.has I.ok)
  have apart : ∀ f, s.heap.objs.size ≤ f → f ∉ frs X.stack := fun f big z => by
    rcases List.mem_cons.mp (I.stkSub _ z) with e | e
    · have h1 := I.lt
      rw [← e] at h1
      exact absurd (Nat.lt_of_lt_of_le h1 big) (Nat.lt_irrefl _)
    · exact I.nofs big e
  refine PySem.W.kla_eval nodef ?_
  have oP : s.heap.get? P = some { cls := .none, data := .fields ps } := I.hok P _ tP
  have ltP := Heap.lt_size oP
  cases at_ : codeAmong pos ps.toList with
  | some cv =>
    obtain ⟨c', rfl, co⟩ := told pos cv at_
    refine PySem.W.kla_makeFunctionHit (c := c) (mg := X.mg) (ps := ps) (P := P) cl I.ok.glob (I.mod.glob.keeps I.bk) D.code (D.tab.code.keeps I.bk) oP trip at_ (D.tab.bm.keeps I.bk) fun ctv g tk old big => ?_
    exact go g.objs.size c' _ ctv H _ (I.kept fun b o e => Heap.get?_push_of_some _ (old b o e)) (.inl rfl) tb (Heap.get?_push_size _ rfl) (I.hok.fresh big) (apart _ big) co
  | none =>
    refine PySem.W.kla_makeFunction (c := c) (mg := X.mg) (ps := ps) (P := P) cl I.ok.glob (I.mod.glob.keeps I.bk) D.code (D.tab.code.keeps I.bk) oP trip at_ D.tab.gP (D.tab.bm.keeps I.bk) fun c' ctv g tk old ge lt rec_ oT => ?_
    obtain ⟨c2, oc, us, t, z, g1, g2, g3⟩ := rec_
    cases z
    have nc : H c' = none := I.hok.fresh ge
    have big : s.heap.objs.size ≤ g.objs.size := Nat.le_trans ge (Nat.le_of_lt lt)
    have J := inv_table (t' := tk) (q := X.env.qual ++ "<lambda>") (c := c') (more := #[rawInt pos.line, rawInt pos.col, .ref c'])
      (h' := g.push (PySem.W.kla_obj "<lambda>" (X.env.qual ++ "<lambda>") params body scope (cloFrom X.env.cells scope.names []) ((X.mg "__name__").getD .none) c' ctv)) I tP (fun b o hb e => Heap.get?_push_of_some _ (old b o hb e)) (Heap.get?_push_of_some _ oT) ge ⟨oc, us, t, Heap.get?_push_of_some _ g1, g2, g3⟩
    have st : LamStep P (X.env.qual ++ "<lambda>") H (upd (upd H P (.tbl (ps ++ #[rawInt pos.line, rawInt pos.col, .ref c']))) c' (CodeO c' (X.env.qual ++ "<lambda>"))) := .inr ⟨ps, _, c', tP, nc, rfl⟩
    have tl : (ps ++ #[rawInt pos.line, rawInt pos.col, .ref c']).toList = ps.toList ++ [rawInt pos.line, rawInt pos.col, .ref c'] := by simp
    have keepC : ∀ b u, H b = some (CodeO b u) → upd (upd H P (.tbl (ps ++ #[rawInt pos.line, rawInt pos.col, .ref c']))) c' (CodeO c' (X.env.qual ++ "<lambda>")) b = some (CodeO b u) := fun b u e => st.extN b _ e codeO_ne
    refine go g.objs.size c' _ ctv _ _ J st (fun p hp => ?_) (Heap.get?_push_size _ rfl) ?_ (apart _ big) upd_same
    · by_cases hp1 : p.1 = P
      · have hp2 := D.only p hp hp1
        rw [hp1, hp2]
        refine ⟨ps ++ #[rawInt pos.line, rawInt pos.col, .ref c'], by rw [upd_ne (ne_of_none tP nc), upd_same], by rw [tl]; exact PySem.TriplesOk_snoc _ _ _ _ trip, fun p' cv e => ?_⟩
        rw [tl] at e
        rcases among_app _ trip e with e | e
        · obtain ⟨c0, y1, y2⟩ := told p' cv e
          exact ⟨c0, y1, keepC _ _ y2⟩
        · exact ⟨c', e, upd_same⟩
      · obtain ⟨ps2, y1, y2, y3⟩ := tb p hp
        refine ⟨ps2, by rw [upd_ne (ne_of_none y1 nc), upd_ne hp1]; exact y1, y2, fun p' cv e => ?_⟩
        obtain ⟨c0, z1, z2⟩ := y3 p' cv e
        exact ⟨c0, z1, keepC _ _ z2⟩
    · rw [upd_ne (Nat.ne_of_gt lt), upd_ne (Nat.ne_of_gt (Nat.lt_of_lt_of_le ltP big))]
      exact I.hok.fresh big
def tLamZ (T : List (Addr × Str)) (P : Addr) (q : Str) (TT : (XK → Hp → VK → Prop) → Hp → VK → Prop) (t : XK → TE) : TE := fun σ H Q => Tabs T H ∧ ∀ H1, LamStep P q H H1 → Tabs T H1 → TT (fun E H' Q' => t E σ H' Q') H1 Q
/-- x(lambda: body) -/
theorem pe_lamZ {T : List (Addr × Str)} {TT : (XK → Hp → VK → Prop) → Hp → VK → Prop} {x a : Str} {g c P : Addr} {k : Nat} {pg : Arguments} {bg : List Stmt} {sg : Scope} {dV kV doc pm cdv ct oc : Value} {an od : Option Addr} {osl : Array (Option Value)} {Ng : List Str}
    {params : Arguments} {body : Expr} {scope : Scope} {t : XK → TE} {p lpos pos : Pos} (hg : Gl X x) (hm : X.mg x = some (.ref g)) (hk : PySem.W.keepIn X.K (.ref g) = true)
    (lk : X.K.lookup g = some ⟨oc, od, .func (PySem.W.fnOf x x pg bg sg dV kV doc pm an cdv ct), osl⟩) (hcg : PySem.W.codeIn X.K cdv x = true) (hb : L2.Binds X.K (PySem.W.fnOf x x pg bg sg dV kV doc pm an cdv ct) [a] []) (Sg : FnScope Ng [a] sg) (hNg : Ng[0]? = some a) (hva : Vis sg a)
    (hG : GivesTo X Ng x sg g cdv bg a (X.env.qual ++ "<lambda>") TT) (D : LamDef T X c P) (hn : NoG X.A) (hr : Room (k + 2) X.A) (L : LamS X.env.scope scope) (nodef : defaultsOf params X.env = ([], []))
    (hbind : ∀ (q : Str) (cl : List (Str × Addr)) (pm cv ctv : Value), bindArgs (PySem.W.kla_fn "<lambda>" q params body scope cl pm cv ctv) ⟨[], []⟩ = pure [])
    (hbody : ∀ (A : Around) (outer : List PySem.Env) (s : Shared) (H : Hp) (E : XK) (f c' : Addr), NoG A → Room k (A.deeper (lamEnv X scope s.heap.objs.size f c')) → PE (lamCx X A outer s H E scope f c') body (t E))
    (hdb : (x == ("__debug__" : Str)) = false := by decide) (hd : (a == ("__debug__" : Str)) = false := by decide) (hcd : (a == ("__classdict__" : Str)) = false := by decide) :
    PE X (.Call (.Name x p) [.Lambda params body scope lpos] [] pos) (tLamZ T P (X.env.qual ++ "<lambda>") TT t) := by
  refine ⟨fun pins s σ H Q I ⟨hT, h⟩ => ?_⟩
  refine wpAny_Call_Name_kw (ld_glob I hg hm (PySem.W.callWith_K (h₀ := X.base) I.ok.mod.kin hk ?_ (by rfl) (by rfl)) hdb)
  show wpAny _ _ (spliced ((false, eval (.Lambda params body scope lpos) X.env) :: backTo pos (starEach [] X.env))) _ _ s
  refine Calls.spliced_cons (lamZ I D hT nodef L fun f c' pm' ctv H1 s' I1 eN T1 hf hfn hfr hco => Calls.spliced_nil ⟨I1.kIn, ?_⟩)
  have rc : codeAny (model X.prog X.w) X.A (.call (.ref g) ⟨[.ref f], []⟩) (CR C8.CX0 X.stack X.prog X.w H1 s' Q C8.E0) s' := by
    refine run_ofS (N := Ng) (ps := [a]) (us := [.ref f]) (vs := [.ref f]) lk hcg Sg hr I1.env0 (hb s' [.ref f] I1.kIn rfl) (.cons rfl .nil) rfl fun hr' => ?_
    obtain ⟨t', ht', hq'⟩ := hG f c' s' H1 Q (fun E H' Q' => t E σ H' Q') (fun W pn xe E p1 p2 tk hW => pe_actN I1 L hf hfn hfr (hbind _ _ _ _ _) tk hW hn hr' (fun A outer s H hn2 hr2 => hbody A outer s H E f c' hn2 hr2) hNg hva hd hcd) hco (h H1 eN T1)
    exact ⟨t', ht'.nox, hq'⟩
  refine wpAny_call (codeAny_mono rc fun r s2 hq => ?_)
  rcases r with e | (_ | _ | _ | u)
  · exact (show False from hq).elim
  · exact False.elim hq
  · exact False.elim hq
  · exact False.elim hq
  · exact I1.after hq
/-- the def: y = None / try: a() / except C as e: y = e / rest -/
def TErr (K : PySem.W.Frag) (CS : Addr) (Ng : List Str) (i j : Nat) (tr : TS) : (XK → Hp → VK → Prop) → Hp → VK → Prop := fun tl H Q => ∀ f : Addr,
  tl (fun cls d H' => ∃ b, PySem.W.exmOne K cls (.ref CS) = some b ∧ (b = true → ∀ a (σ' : L2.St), H' a = none → σ'.length = Ng.length → tr { nx := fun _ H2 => Q .non H2, rt := Q } (((σ'.set i (some (.ref a))).set j (some (.ref a))).set i none) (upd H' a (ExcV a cls d))) ∧ (b = false → False)) H
    (fun _ H' => tr { nx := fun _ H2 => Q .non H2, rt := Q } ((L2.start Ng [V.ref f]).set j (some .non)) H')
theorem err_gives {Ng : List Str} {x a e y en q : Str} {sg : Scope} {g CS : Addr} {cdg : Value} {i j jj : Nat} {rest : List Stmt} {tr : TS} {a1 a2 a3 p1 p2 p3 p4 p5 p6 p7 p8 p9 : Pos} (hN : Ng.Nodup) (h0 : Ng[0]? = some a) (hi : Ng[i]? = some en) (hln : sg.names.lookup en = some .local) (hj : Ng[j]? = some y) (hly : sg.names.lookup y = some .local)
    (j0 : j ≠ 0) (hge : sg.names.lookup e = some .globalImplicit) (hme : X.mg e = some (.ref CS)) (hde : (e == ("__debug__" : Str)) = false)
    (hrest : ∀ (s : Shared) (H : Hp), PSs (cxOf C8.CX0 X.prog X.w X.K X.mg X.base Ng x sg g cdg X.A X.stack s H C8.E0).nox rest tr)
    (sw0 : ∀ env, swapsWith (.Constant .none jj a2) (some (.Name y a1)) a3.line env = pure false) (sw1 : ∀ env, swapsWith (.Call (.Name a p1) [] [] p2) none p3.line env = pure false) (sw2 : ∀ env, swapsWith (.Name en p5) (some (.Name y p6)) p7.line env = pure false)
    (hint : ∀ s H, interactive ((cxOf C8.CX0 X.prog X.w X.K X.mg X.base Ng x sg g cdg X.A X.stack s H C8.E0).nox).env = false)
    (hdn : (en == ("__debug__" : Str)) = false := by decide) (hcn : (en == ("__classdict__" : Str)) = false := by decide) :
    GivesTo X Ng x sg g cdg (.Assign [.Name y a1] (.Constant .none jj a2) a3 :: .Try [.Expr (.Call (.Name a p1) [] [] p2) p3] [.ExceptHandler (some (.Name e p4)) (some en) [.Assign [.Name y p6] (.Name en p5) p7] p8] [] [] p9 :: rest) a q (TErr X.K CS Ng i j tr) := by
  intro f c' s H Q tl act hc h
  have hgl : Gl (cxOf C8.CX0 X.prog X.w X.K X.mg X.base Ng x sg g cdg X.A X.stack s H C8.E0).nox e := hge
  refine ⟨_, pss_cons (ps_asg (X := (cxOf C8.CX0 X.prog X.w X.K X.mg X.base Ng x sg g cdg X.A X.stack s H C8.E0).nox) pe_non (pg_name (i := j) hN hj (.inl hly) (.inr hly)) (sw0 (cxOf C8.CX0 X.prog X.w X.K X.mg X.base Ng x sg g cdg X.A X.stack s H C8.E0).nox.env))
    (pss_cons (try_keep (X := (cxOf C8.CX0 X.prog X.w X.K X.mg X.base Ng x sg g cdg X.A X.stack s H C8.E0).nox) (c := .ref CS) (Wo := fun _ _ _ _ => False)
      (tb := fun W D σ H => ∃ Ech : XK, (∀ cls d σ' H', Ech cls d H' → W cls d σ' H') ∧ σ[0]? = some (some (.ref f)) ∧ σ.length = Ng.length ∧ H c' = some (CodeO c' q) ∧ tl Ech H fun _ H' => D.nx σ H')
      rfl rfl rfl hN hi hln hj hly ⟨hgl, hde, .inl hme⟩ LamX.takes0 (fun W pn xe tk _ => ?_) (sw2 (cxOf C8.CX0 X.prog X.w X.K X.mg X.base Ng x sg g cdg X.A X.stack s H C8.E0).nox.env) hdn hcn) (hrest s H)), ?_⟩
  · refine ⟨fun pins s' σ H' D I h' => ?_⟩
    obtain ⟨Ech, hW, h1, _, h2, h3⟩ := h'
    have hq := pss_one (ps_expr (act W pn xe Ech p1 p2 tk hW) (sw1 (cxOf C8.CX0 X.prog X.w X.K X.mg X.base Ng x sg g cdg X.A X.stack s H C8.E0).nox.env) (pos := p3))
    exact hq.run pins s' σ H' D I ⟨h1, h2, h3⟩
  · have l0 : (L2.start Ng [V.ref f]).length = Ng.length := by
      have : 0 < Ng.length := (List.getElem?_eq_some_iff.mp h0).1
      simp [L2.start]; omega
    refine ⟨fun cls d H' => ∃ b, PySem.W.exmOne X.K cls (.ref CS) = some b ∧ (b = true → ∀ a (σ' : L2.St), H' a = none → σ'.length = Ng.length → tr { nx := fun _ H2 => Q .non H2, rt := Q } (((σ'.set i (some (.ref a))).set j (some (.ref a))).set i none) (upd H' a (ExcV a cls d))) ∧ (b = false → False),
      fun cls d σ' H' ⟨b, e1, e2, e3⟩ => ⟨b, e1, fun hb a na ln => e2 hb a σ' na ln, e3⟩, ?_, by simpa using l0, hc, ?_⟩
    · rw [List.getElem?_set_ne j0]; rfl
    · exact h f
end
end PL
/-! PY5: x(lambda: e) over pure data, x a def that catches. -/
namespace PL
open PySem PySem.Spec PyProof.Rows L2 LamX
variable [HasT]
/-- what w wishes, as the library's reading -/
def canE (K : PySem.W.Frag) (mg : Str → Option Value) (XE : XK) (w : WE) : TE := fun σ H Q => ∃ (c : Cfg) (Qp : R → Env → Prop) (Ep : Ex → Env → Prop), Ok K mg c ∧ c.σ = σ ∧ c.H = H ∧ w c.ρ Qp Ep ∧ XOk K mg c Ep XE ∧ ∀ v c' r, Go K mg c c' → c'.σ = c.σ → RR K mg c c' r v → Qp r c'.ρ → Q v c'.H
def canS (K : PySem.W.Frag) (mg : Str → Option Value) (XE : XK) (w : WS) : TS := fun D σ H => ∃ (c : Cfg) (Dp : PEnds), Ok K mg c ∧ c.σ = σ ∧ c.H = H ∧ w Dp c.ρ ∧ POk K mg c Dp D XE
theorem pe_can {X : Cx} {XE : XK} {e : Expr} {w : WE} (h : PdE X XE e w) : PE X e (canE X.K X.mg XE w) := by
  obtain ⟨t, pe, s⟩ := h
  exact ⟨fun pins s0 σ H Q I ⟨c, Qp, Ep, ok, e1, e2, hw, x, k⟩ => pe.run pins s0 σ H Q I (by subst e1 e2; exact s c Qp Ep Q ok hw x k)⟩
theorem pss_can {X : Cx} {XE : XK} {st : List Stmt} {w : WS} (h : PdSs X XE st w) : PSs X st (canS X.K X.mg XE w) := by
  obtain ⟨t, pe, s⟩ := h
  exact ⟨fun pins s0 σ H D I ⟨c, Dp, ok, e1, e2, hw, P⟩ => pe.run pins s0 σ H D I (by subst e1 e2; exact s c Dp D ok hw P)⟩
/-- n slots, slot j holds d -/
def slotAt (n j : Nat) (d : D) : Env := (List.replicate n none).set j (some (.val d))
def valQ (Q : R → Env → Prop) (ρ : Env) : R → Prop
  | .val d => Q (.val d) ρ
  | _ => False
def errEnds (Q : R → Env → Prop) (ρ : Env) : PEnds := { nx := fun _ => Q (.val .non) ρ, rt := fun r _ => valQ Q ρ r }
/-- x(lambda: ..): n, j: the def's slots, the one that holds what was caught; wr what it does then -/
def wErr (n j : Nat) (cat : Str → Bool) (wr : WS) (wb : WE) : WE := fun ρ Q Ep => wb ρ (fun _ ρ' => wr (errEnds Q ρ') (slotAt n j .non)) (fun x ρ' => cat x.cls = true ∧ wr (errEnds Q ρ') (slotAt n j (.exc x.cls x.fs x.xs)))
section
variable {K : PySem.W.Frag} {mg : Str → Option Value}
/-- another frame ran, with no thing lent to it -/
theorem go_other {c cg c2 : Cfg} (ok : Ok K mg c) (g : Go K mg cg c2) (hF : cg.F = c.F) (hH : cg.H = c.H) (hf : ∀ i, cg.fp i = []) : Go K mg c { c with F := c2.F, H := c2.H } := by
  have kp : ∀ a, c.F a = none → c.H a ≠ none → (∀ ps, c.H a ≠ some (.tbl ps)) → c2.F a = none ∧ c2.H a = c.H a := fun a h1 h2 h3 => by
    have := g.fr.keep a (by rw [hF]; exact h1) (by rw [hH]; exact h2) (fun i hi => by rw [hf i] at hi; cases hi) (by rw [hH]; exact h3)
    rw [hH] at this; exact this
  have m : Mono c.F c2.F := by rw [← hF]; exact g.fr.mono
  have own : ∀ i b, b ∈ c.fp i → c2.F b = none ∧ c2.H b = c.H b := fun i b hb => by
    obtain ⟨h1, h2⟩ := ok.out i b hb
    have : ∃ e, c.ρ[i]? = some (some e) := Classical.byContradiction fun z => by
      have := ok.non i fun e q => z ⟨e, q⟩
      rw [this] at hb; cases hb
    obtain ⟨e, he⟩ := this
    obtain ⟨v, _, eo⟩ := ok.slot i e he
    obtain ⟨u, hu, pu⟩ := ent_pl eo b hb
    exact kp b h1 h2 (nt_of hu pu)
  refine ⟨⟨g.ok.tabs, g.ok.sub, ok.len, fun i e h => ?_, ok.non, fun i b hb => ?_, ok.disj, g.ok.tf⟩, ⟨m, fun a h1 h2 _ h4 => kp a h1 h2 h4, fun a h => g.fr.grow a (by rw [hH]; exact h)⟩, fun i b hb => .inl ⟨i, hb⟩, fun i d h => ⟨d, h, Grw.refl _ _, rfl⟩⟩
  · obtain ⟨v, hv, eo⟩ := ok.slot i e h
    exact ⟨v, hv, eo.frame m fun b hb => (own i b hb).2⟩
  · obtain ⟨h1, h2⟩ := own i b hb
    exact ⟨h1, by show c2.H b ≠ none; rw [h2]; exact (ok.out i b hb).2⟩
theorem ok_slot {c : Cfg} (ok : Ok K mg c) {n j : Nat} {d : D} {v : V} {σ : L2.St} (hl : σ.length = n) (hj : σ[j]? = some (some v)) (r : Rep K mg c.F d v) : Ok K mg ⟨c.F, c.H, σ, slotAt n j d, fun _ => []⟩ := by
  refine ⟨ok.tabs, ok.sub, by show (slotAt n j d).length = σ.length; simp [slotAt, hl], fun i e h => ?_, fun _ _ => rfl, fun i b hb => absurd hb (by simp), fun i k b hb => absurd hb (by simp), ok.tf⟩
  have h' : (slotAt n j d)[i]? = some (some e) := h
  unfold slotAt at h'
  rcases set_get h' with ⟨rfl, e1⟩ | ⟨_, e1⟩
  · cases e1
    exact ⟨v, hj, r, rfl⟩
  · rw [List.getElem?_replicate] at e1
    split at e1 <;> cases e1
/-- the exception is kept: it and its dict are frozen -/
theorem exc_go {c c' : Cfg} (g : Go K mg c c') {a : Addr} {cls : Value} {d : Option Addr} {gs : List (Str × V)} (na : c'.H a = none) (xn : XNew c.H c'.F c'.fp d) (hx : ∀ b, d = some b → c'.H b = some (.xd gs)) (h0 : d = none → gs = []) :
    ∃ F2, Go K mg c { c' with F := F2, H := upd c'.H a (ExcV a cls d) } ∧ F2 a = some (ExcV a cls d) ∧ XdIn F2 gs d ∧ Mono c'.F F2 := by
  have ea : ∀ ps, ExcV a cls d ≠ .tbl ps := fun ps z => by unfold ExcV at z; cases z
  have et : ∀ xs, ExcV a cls d ≠ .tup xs := fun xs z => by unfold ExcV at z; cases z
  have fa : c'.F a = none := fresh_F g.ok.sub na
  have ba : ∀ b, d = some b → b ≠ a := fun b e z => by
    have := hx b e
    rw [z, na] at this; cases this
  obtain ⟨F1, m1, s1, k1, x1, f1⟩ : ∃ F1 : Hp, Mono c'.F F1 ∧ Mono F1 c'.H ∧ (∀ b, (∀ q, d = some q → b ≠ q) → F1 b = c'.F b) ∧ XdIn F1 gs d ∧ F1 a = none := by
    cases d with
    | none => exact ⟨c'.F, Mono.refl _, g.ok.sub, fun _ _ => rfl, h0 rfl, fa⟩
    | some b =>
      obtain ⟨_, n2, _⟩ := xn b rfl
      refine ⟨upd c'.F b (.xd gs), mono_upd n2, fun y o e => ?_, fun y hy => upd_ne (hy b rfl), upd_same, by rw [upd_ne (Ne.symm (ba b rfl))]; exact fa⟩
      by_cases hy : y = b
      · subst hy
        rw [upd_same] at e; cases e
        exact ⟨_, hx y rfl, .refl _⟩
      · rw [upd_ne hy] at e
        exact g.ok.sub y o e
  have own : ∀ i b, b ∈ c'.fp i → upd F1 a (ExcV a cls d) b = none ∧ upd c'.H a (ExcV a cls d) b = c'.H b := fun i b hb => by
    obtain ⟨h1, h2⟩ := g.ok.out i b hb
    have hba : b ≠ a := fun z => by subst z; exact h2 na
    rw [upd_ne hba, upd_ne hba]
    exact ⟨by rw [k1 b fun q e z => by subst z; exact (xn b e).2.2 i hb]; exact h1, rfl⟩
  have m2 : Mono c'.F (upd F1 a (ExcV a cls d)) := m1.trans (mono_upd f1)
  refine ⟨upd F1 a (ExcV a cls d), ⟨⟨g.ok.tabs.ext (fun b o e => by show upd c'.H a (ExcV a cls d) b = some o; rw [upd_ne (ne_of_none e na)]; exact e), sub_upd s1, g.ok.len, fun i e h => ?_, g.ok.non, fun i b hb => ?_, g.ok.disj, fun b xs e => ?_⟩, ⟨g.fr.mono.trans m2, fun b h1 h2 h3 h4 => ?_, fun b h => ?_⟩, g.orig, g.bor⟩, upd_same, ?_, m2⟩
  · obtain ⟨v, hv, eo⟩ := g.ok.slot i e h
    exact ⟨v, hv, eo.frame m2 fun b hb => (own i b hb).2⟩
  · obtain ⟨h1, h2⟩ := own i b hb
    exact ⟨h1, by show upd c'.H a (ExcV a cls d) b ≠ none; rw [h2]; exact (g.ok.out i b hb).2⟩
  · have e' : upd c'.H a (ExcV a cls d) b = some (.tup xs) := e
    have hba : b ≠ a := fun z => by subst z; rw [upd_same] at e'; exact et xs (Option.some.inj e')
    rw [upd_ne hba] at e'
    exact m2.tup (g.ok.tf b xs e')
  · obtain ⟨q1, q2⟩ := g.fr.keep b h1 h2 h3 h4
    have hba : b ≠ a := fun z => by rw [z, na] at q2; rw [z] at h2; exact h2 q2.symm
    show upd F1 a (ExcV a cls d) b = none ∧ upd c'.H a (ExcV a cls d) b = c.H b
    rw [upd_ne hba, upd_ne hba, k1 b fun q e z => by rw [z] at h2; exact h2 (xn q e).1]
    exact ⟨q1, q2⟩
  · have := g.fr.grow b h
    show upd c'.H a (ExcV a cls d) b ≠ none
    by_cases hba : b = a
    · subst hba; rw [upd_same]; simp
    · rw [upd_ne hba]; exact this
  · cases d with
    | none => exact h0 rfl
    | some b =>
      show upd F1 a (ExcV a cls (some b)) b = some (.xd gs)
      rw [upd_ne (ba b rfl)]
      exact x1
end
section
variable {X : Cx} {XE : XK} {k : Nat}
theorem pd_lamE {x a e y en : Str} {g c P CS : Addr} {i j jj : Nat} {pg : Arguments} {sg : Scope} {dV kV doc pm cdv ct oc : Value} {an od : Option Addr} {osl : Array (Option Value)} {Ng : List Str} {cat : Str → Bool} {rest : List Stmt} {wr : WS} {wb : WE}
    {params : Arguments} {body : Expr} {scope : Scope} {p lpos pos a1 a2 a3 p1 p2 p3 p4 p5 p6 p7 p8 p9 : Pos} (C : Cc X XE (k + 2)) (hn : NoG X.A) (hg : Gl X x) (hm : X.mg x = some (.ref g)) (hk : PySem.W.keepIn X.K (.ref g) = true)
    (lk : X.K.lookup g = some ⟨oc, od, .func (PySem.W.fnOf x x pg (.Assign [.Name y a1] (.Constant .none jj a2) a3 :: .Try [.Expr (.Call (.Name a p1) [] [] p2) p3] [.ExceptHandler (some (.Name e p4)) (some en) [.Assign [.Name y p6] (.Name en p5) p7] p8] [] [] p9 :: rest) sg dV kV doc pm an cdv ct), osl⟩)
    (hcg : PySem.W.codeIn X.K cdv x = true) (hb : L2.Binds X.K (PySem.W.fnOf x x pg (.Assign [.Name y a1] (.Constant .none jj a2) a3 :: .Try [.Expr (.Call (.Name a p1) [] [] p2) p3] [.ExceptHandler (some (.Name e p4)) (some en) [.Assign [.Name y p6] (.Name en p5) p7] p8] [] [] p9 :: rest) sg dV kV doc pm an cdv ct) [a] [])
    (Sg : FnScope Ng [a] sg) (hNg : Ng[0]? = some a) (hva : Vis sg a) (hi : Ng[i]? = some en) (hln : sg.names.lookup en = some .local) (hj : Ng[j]? = some y) (hly : sg.names.lookup y = some .local) (j0 : j ≠ 0) (ij : i ≠ j) (hge : sg.names.lookup e = some .globalImplicit) (hme : X.mg e = some (.ref CS)) (hde : (e == ("__debug__" : Str)) = false)
    (hcat : ∀ cn Cl, cat cn = true → X.mg cn = some (.ref Cl) → PySem.W.exmOne X.K (.ref Cl) (.ref CS) = some true)
    (hrest : ∀ (s : Shared) (H : Hp), PdSs (cxOf C8.CX0 X.prog X.w X.K X.mg X.base Ng x sg g cdv X.A X.stack s H C8.E0).nox (fun _ _ _ => False) rest wr)
    (sw0 : ∀ env, swapsWith (.Constant .none jj a2) (some (.Name y a1)) a3.line env = pure false) (sw1 : ∀ env, swapsWith (.Call (.Name a p1) [] [] p2) none p3.line env = pure false) (sw2 : ∀ env, swapsWith (.Name en p5) (some (.Name y p6)) p7.line env = pure false)
    (D : LamDef HasT.T X c P) (L : LamS X.env.scope scope) (nodef : defaultsOf params X.env = ([], []))
    (hbind : ∀ (q : Str) (cl : List (Str × Addr)) (pm cv ctv : Value), bindArgs (PySem.W.kla_fn "<lambda>" q params body scope cl pm cv ctv) ⟨[], []⟩ = pure [])
    (hbody : ∀ (A : Around) (outer : List PySem.Env) (s : Shared) (H : Hp) (E : XK) (f c' : Addr), NoG A → Cc (lamCx X A outer s H E scope f c') E k → PdE (lamCx X A outer s H E scope f c') E body wb)
    (hdb : (x == ("__debug__" : Str)) = false := by decide) (hd : (a == ("__debug__" : Str)) = false := by decide) (hcd : (a == ("__classdict__" : Str)) = false := by decide) (hdn : (en == ("__debug__" : Str)) = false := by decide) (hcn : (en == ("__classdict__" : Str)) = false := by decide) :
    PdE X XE (.Call (.Name x p) [.Lambda params body scope lpos] [] pos) (wErr Ng.length j cat wr wb) := by
  have hint : ∀ s H, interactive ((cxOf C8.CX0 X.prog X.w X.K X.mg X.base Ng x sg g cdv X.A X.stack s H C8.E0).nox).env = false := fun s H => by
    unfold interactive
    show (sg.kind == .module && _) = false
    rw [Sg.kind]; rfl
  refine ⟨_, pe_lamZ (k := k) (t := fun E => canE X.K X.mg E wb) (TT := TErr X.K CS Ng i j (canS X.K X.mg (fun _ _ _ => False) wr)) hg hm hk lk hcg hb Sg hNg hva
    (err_gives Sg.nd hNg hi hln hj hly j0 hge hme hde (fun s H => pss_can (hrest s H)) sw0 sw1 sw2 hint hdn hcn) D hn C.room L nodef hbind
    (fun A outer s H E f c' hn2 hr => pe_can (hbody A outer s H E f c' hn2 ⟨rfl, passes_of rfl, fun pins σ H' s' e s'' I q => passes_call (takes_of rfl rfl rfl rfl) (fun _ _ _ _ z => z) pins σ H' s' e s'' I q, takes_of rfl rfl rfl rfl, hr⟩)) hdb hd hcd, fun c0 Qp Ep Q ok hw x0 kk => ?_⟩
  refine ⟨ok.tabs, fun H1 st tb1 f => ?_⟩
  have g1 := lam_go ok st tb1
  have jl : j < Ng.length := (List.getElem?_eq_some_iff.mp hj).1
  have pok : ∀ (c2 cg : Cfg), Go X.K X.mg c0 c2 → c2.σ = c0.σ → cg.F = c2.F → cg.H = c2.H → (∀ i, cg.fp i = []) → POk X.K X.mg cg (errEnds Qp c2.ρ) { nx := fun _ H2 => Q .non H2, rt := Q } (fun _ _ _ => False) := fun c2 cg gg e1 hF hH hfp => by
    refine ⟨fun c3 g3 q => kk .non { c2 with F := c3.F, H := c3.H } (.val .non) (gg.trans X.K X.mg (go_other gg.ok g3 hF hH hfp)) e1 rfl q, fun v c3 r3 g3 rt q => ?_, fun _ _ q => q.elim, fun _ _ q => q.elim, XOkS.none X.K X.mg⟩
    cases r3 with
    | val d => exact kk v { c2 with F := c3.F, H := c3.H } (.val d) (gg.trans X.K X.mg (go_other gg.ok g3 hF hH hfp)) e1 rt q
    | tmp d => exact q.elim
    | slot i => exact q.elim
  refine ⟨{ c0 with H := H1 }, _, _, g1.ok, rfl, rfl, hw, fun y0 cls d c' g e0 eo xn q => ?_, fun v c' r g e0 rr q => ?_⟩
  · obtain ⟨Cl, hC, rfl, hd0⟩ := eo
    refine ⟨true, hcat _ _ q.1 hC, fun _ a0 σ' na ln => ?_, fun z => by cases z⟩
    obtain ⟨gs, hx, h0, hmap, rl⟩ : ∃ gs : List (Str × V), (∀ b, d = some b → c'.H b = some (.xd gs)) ∧ (d = none → gs = []) ∧ gs.map (·.1) = y0.fs ∧ RepL X.K X.mg c'.F y0.xs (gs.map (·.2)) := by
      cases d with
      | none => exact ⟨[], (fun b e => by cases e), (fun _ => rfl), hd0.1.symm, by rw [hd0.2]; rfl⟩
      | some b =>
        obtain ⟨gs, z1, z2, z3⟩ := hd0
        exact ⟨gs, (fun b' e => by cases e; exact z1), (fun e => by cases e), z2, z3⟩
    have xn' : XNew c0.H c'.F c'.fp d := xn.go X.K X.mg g1
    obtain ⟨F2, gg, f1, f2, f3⟩ := exc_go (cls := .ref Cl) (g1.trans X.K X.mg g) na xn' hx h0
    have rep : Rep X.K X.mg F2 (.exc y0.cls y0.fs y0.xs) (.ref a0) := ⟨a0, Cl, d, gs, rfl, hC, f1, f2, hmap, rl.mono X.K X.mg f3 _ _⟩
    have hσ : (((σ'.set i (some (V.ref a0))).set j (some (V.ref a0))).set i none)[j]? = some (some (V.ref a0)) := by
      rw [List.getElem?_set_ne ij, List.getElem?_set_self (by simpa [ln] using jl)]
    exact ⟨⟨F2, upd c'.H a0 (ExcV a0 (.ref Cl) d), _, slotAt Ng.length j (.exc y0.cls y0.fs y0.xs), fun _ => []⟩, errEnds Qp c'.ρ, ok_slot (c := { c' with F := F2, H := upd c'.H a0 (ExcV a0 (.ref Cl) d) }) gg.ok (by simpa using ln) hσ rep, rfl, rfl, q.2,
      pok { c' with F := F2, H := upd c'.H a0 (ExcV a0 (.ref Cl) d) } _ gg e0 rfl rfl fun _ => rfl⟩
  · have l0 : ((L2.start Ng [V.ref f]).set j (some V.non)).length = Ng.length := by
      simp [L2.start]; omega
    have hσ : ((L2.start Ng [V.ref f]).set j (some V.non))[j]? = some (some V.non) := by
      rw [List.getElem?_set_self (by simp [L2.start]; omega)]
    exact ⟨⟨c'.F, c'.H, _, slotAt Ng.length j .non, fun _ => []⟩, errEnds Qp c'.ρ, ok_slot g.ok l0 hσ rfl, rfl, rfl, q, pok c' _ (g1.trans X.K X.mg g) e0 rfl rfl fun _ => rfl⟩
end
end PL
/-! PY6: a kept exception: isinstance, its fields. -/
namespace PL
open PySem PySem.Spec PyProof.Rows L2
variable [HasT]
section
variable {X : Cx} {XE : XK}
theorem callR_or {f : Value} {r1 r2 : List V → Hp → VK → Prop} (h1 : CallR X f r1) (h2 : CallR X f r2) : CallR X f fun xs H Q => r1 xs H Q ∨ r2 xs H Q :=
  fun pins s σ H xs us Q I r h => h.elim (h1 pins s σ H xs us Q I r) (h2 pins s σ H xs us Q I r)
/-- the dict of an exception -/
def XdAt (H : Hp) (d : Option Addr) : Prop := ∀ b, d = some b → ∃ gs, H b = some (.xd gs)
def rIsX (K : PySem.W.Frag) : List V → Hp → VK → Prop := fun xs H Q => ∃ (a D : Addr) (d : Option Addr) (c : V) (u : Value) (b : Bool), xs = [.ref a, c] ∧ H a = some (ExcV a (.ref D) d) ∧ XdAt H d ∧ ClsV c u ∧ ExcC K D ∧ PySem.W.kitOne K (.ref D) u = some b ∧ Q (.bl b) H
theorem inst_of {pins : List (Addr × Obj)} {σ : L2.St} {H : Hp} {s : Shared} {a D : Addr} {d : Option Addr} (I : Inv X pins σ H s) (ha : H a = some (ExcV a (.ref D) d)) (hx : XdAt H d) : ∃ (oe : Obj) (od : Option Obj), PySem.W.InstAt s.heap a oe D od ∧ ∀ b gs, d = some b → H b = some (.xd gs) → ∃ o, od = some o ∧ ∀ f v, gs.lookup f = some v → ∃ u, PySem.W.lookIn f o = some (some u) ∧ RelV v u := by
  obtain ⟨oe, vs, he, hz, hd⟩ := excV_at I.hok ha
  have nc : PySem.W.notCls oe = true := by unfold PySem.W.notCls; rw [hd] <;> rfl
  cases d with
  | none => exact ⟨oe, none, ⟨he, hz.1, nc, by rw [hz.2]; trivial⟩, fun b gs e => by cases e⟩
  | some b =>
    obtain ⟨gs, hb⟩ := hx b rfl
    have ok : ObjOk X.prog X.w H s.heap b (.xd gs) := I.hok b _ hb
    obtain ⟨mA, hns, hr⟩ := ok
    obtain ⟨od, ho, hl⟩ := lookIn_ns hns
    refine ⟨oe, some od, ⟨he, hz.1, nc, by rw [hz.2]; exact ho⟩, fun b' gs' e h' => ?_⟩
    cases e
    rw [hb] at h'
    cases h'
    refine ⟨od, rfl, fun f v hf => ?_⟩
    obtain ⟨u, hu, ru⟩ := RelO.some_of (v := v) (o := mA f) (by rw [← hf]; exact hr f)
    exact ⟨u, by rw [hl, hu], ru⟩
theorem call_isX : CallR X (.builtin "isinstance") (rIsX X.K) := by
  intro pins s σ H xs us Q I r h
  obtain ⟨a, D, d, c, u, b, rfl, ha, hx, hk, C, e, q⟩ := h
  obtain ⟨u1, u2, rfl, r1, r2⟩ := vals2 r
  obtain rfl := hk.eq r2
  obtain rfl : u1 = Value.ref a := r1
  obtain ⟨oe, od, J, _⟩ := inst_of I ha hx
  have hcl : (PySem.W.clsIn X.K D).isSome = true := by
    obtain ⟨cd, hc, _⟩ := PySem.W.any_some C.hd
    rw [hc]; rfl
  exact PySem.W.kia_one (PySem.W.kitx_exc hcl C.hg C.hk C.hs C.ha C.hn C.ht C.hm) I.kIn J e (fun z => nomatch z) fun tk => ⟨.bl b, H, I.kept (t' := tk) fun _ _ z => z, rfl, q⟩
/-- which answers isinstance gives for kept exceptions, by their classes, and for None -/
structure XIs (K : PySem.W.Frag) (mg : Str → Option Value) (u : Value) (tb : Str → Option Bool) : Prop where
  ex : ∀ cn D b, tb cn = some b → mg cn = some (.ref D) → ExcC K D ∧ PySem.W.kitOne K (.ref D) u = some b
  nn : PySem.W.kitOne K (.type "NoneType") u = some false
def fE (tb : Str → Option Bool) : D → Option Bool
  | .exc c _ _ => tb c
  | .non => some false
  | _ => none
theorem pd_isE {tb : Str → Option Bool} {cv : V} {u : Value} {p pos : Pos} {a ec : Expr} {w : WE} (F : XIs X.K X.mg u tb) (hc : PE X ec (tC cv)) (hk : ClsV cv u) (hm : X.mg "isinstance" = none) (ha : PdE X XE a w) (gl : Gl X "isinstance" := by rfl)
    (he : starEach [a, ec] X.env = (false, eval a X.env) :: starEach [ec] X.env := by rfl) (he2 : starEach [ec] X.env = (false, eval ec X.env) :: starEach [] X.env := by rfl)
    (hpl : (backTo pos (starEach [ec] X.env)).any (·.1) = false := by rfl) : PdE X XE (.Call (.Name "isinstance" p) [a, ec] [] pos) (wIsi (fE tb) w) := by
  obtain ⟨t, pa, s⟩ := ha
  refine ⟨_, pe_callB (callR_or call_isi call_isX) gl hm (by decide +kernel) (pa_cons pa (pa_cons hc pa_nil he2) he) (by decide) (by decide) he hpl, fun c Qp Ep Q ok hw x k => ?_⟩
  refine runV (e := a) s ok hw x fun v c1 r1 g1 e1 rr1 h1 => ?_
  obtain ⟨d, hd, h1⟩ := pk1_of h1
  have see := rr1.see g1.ok hd
  split at h1
  next b hb =>
    cases d with
    | non =>
      cases hb
      have hv : v = .non := see.non
      subst hv
      exact .inl ⟨.non, cv, .type "NoneType", u, false, rfl, hk, .base .non, F.nn, k _ c1 _ g1 e1 rr_bl h1⟩
    | exc cn fs ds =>
      have hb' : tb cn = some b := hb
      rcases see with h | ⟨ft, h⟩
      · obtain ⟨a0, D, dd, gs, rfl, hC, hF, hx, _, _⟩ := h
        obtain ⟨e1', e2'⟩ := F.ex cn D b hb' hC
        refine .inr ⟨a0, D, dd, cv, u, b, rfl, g1.ok.sub.ext hF, fun b0 eb => ?_, hk, e1', e2', k _ c1 _ g1 e1 rr_bl h1⟩
        subst eb
        exact ⟨gs, g1.ok.sub.xd hx⟩
      · exact h.elim
    | _ => cases hb
  next => exact h1.elim
/-- e.f, e a kept exception -/
def tXfV (K : PySem.W.Frag) (f : Str) (te : TE) : TE := fun σ H Q => te σ H fun x H1 => ∃ (a C b : Addr) (gs : List (Str × V)) (v : V), x = .ref a ∧ H1 a = some (ExcV a (.ref C) (some b)) ∧ XfC K C ∧ PySem.W.findIn K (.ref C) f = some none ∧ H1 b = some (.xd gs) ∧ gs.lookup f = some v ∧ Q v H1
theorem pe_xfV {e : Expr} {te : TE} {pos : Pos} {f : Str} (he : PE X e te) (hb : attributeBase e f X.env (eval e X.env) = eval e X.env := by rfl) : PE X (.Attribute e f pos) (tXfV X.K f te) := by
  refine ⟨fun pins s σ H Q I h => ?_⟩
  refine attr_of hb (thn (he.run pins s σ H _ I h) fun u s1 hh => ?_)
  obtain ⟨x, H1, I1, rx, a, C, b, gs, v, ex, ha, T, hno, hd, hl, q⟩ := hh
  subst ex
  obtain rfl : u = Value.ref a := rx
  obtain ⟨oe, od, J, look⟩ := inst_of I1 ha (fun b' e => by cases e; exact ⟨gs, hd⟩)
  obtain ⟨o, rfl, lk⟩ := look b gs rfl hd
  obtain ⟨u, hu, ru⟩ := lk f v hl
  exact HandSPX.exc_get I1.kIn J T.ga T.gg T.exC (PySem.W.findObj_own T.hdC hno rfl hu) (handed_of ru) ⟨v, H1, I1.tok _, ru, q⟩
def kXf (f : Str) (Q : R → Env → Prop) (ρ : Env) : D → Prop
  | .exc _ fs ds => match fldD fs ds f with
    | some x => Q (.val x) ρ
    | none => False
  | _ => False
/-- okc: the classes whose objects have f -/
def isX (okc : Str → Bool) : D → Prop
  | .exc c _ _ => okc c = true
  | _ => False
def wXf (okc : Str → Bool) (f : Str) (w : WE) : WE := fun ρ Q Ep => wV w ρ (fun r ρ' => pk1 ρ' r fun d => isX okc d ∧ kXf f Q ρ' d) Ep
theorem fldD_rep {K : PySem.W.Frag} {mg : Str → Option Value} {F : Hp} {f : Str} {d : D} : ∀ {fs : List Str} {ds : List D} {gs : List (Str × V)}, gs.map (·.1) = fs → RepL K mg F ds (gs.map (·.2)) → fldD fs ds f = some d → ∃ v, gs.lookup f = some v ∧ Rep K mg F d v
  | [], _, _, _, _, e => by simp [fldD] at e
  | _ :: _, [], _, _, _, e => by simp [fldD] at e
  | g :: fs, d0 :: ds, [], h, _, _ => by simp at h
  | g :: fs, d0 :: ds, kv :: gs, h, r, e => by
    simp at h
    obtain ⟨x, t, e1, r1, r2⟩ := r
    simp at e1
    unfold fldD at e
    obtain ⟨k0, v0⟩ := kv
    obtain ⟨h1, h2⟩ := h
    have h1' : k0 = g := h1
    subst h1'
    by_cases hq : f = k0
    · rw [if_pos hq] at e; cases e
      subst hq
      exact ⟨v0, by simp [List.lookup], by rw [show v0 = x from e1.1]; exact r1⟩
    · rw [if_neg hq] at e
      obtain ⟨v, hv, rv⟩ := fldD_rep h2 (by rw [e1.2]; exact r2) e
      have : (f == k0) = false := by simpa using hq
      exact ⟨v, by simp [List.lookup, this, hv], rv⟩
theorem pd_xf {okc : Str → Bool} {f : Str} {e : Expr} {pos : Pos} {w : WE} (F : ∀ cn C, okc cn = true → X.mg cn = some (.ref C) → XfC X.K C ∧ PySem.W.findIn X.K (.ref C) f = some none) (h : PdE X XE e w)
    (hb : attributeBase e f X.env (eval e X.env) = eval e X.env := by rfl) : PdE X XE (.Attribute e f pos) (wXf okc f w) := by
  obtain ⟨t, p, s⟩ := h
  refine ⟨_, pe_xfV p hb, fun c Qp Ep Q ok hw x k => ?_⟩
  refine runV (e := e) s ok hw x fun v c1 r1 g1 e1 rr1 h1 => ?_
  obtain ⟨d, hd, h1, h2⟩ := pk1_of h1
  have see := rr1.see g1.ok hd
  cases d with
  | exc cn fs ds =>
    rcases see with h | ⟨ft, h⟩
    · obtain ⟨a0, D, dd, gs, rfl, hC, hF, hx, hm, rl⟩ := h
      have h2' : (match fldD fs ds f with
        | some x => Qp (.val x) c1.ρ
        | none => False) := h2
      cases hy : fldD fs ds f with
      | none => rw [hy] at h2'; exact h2'.elim
      | some y =>
        rw [hy] at h2'
        obtain ⟨u, hu, ru⟩ := fldD_rep hm rl hy
        obtain ⟨T, no⟩ := F cn D h1 hC
        cases dd with
        | none =>
          have : gs = [] := hx
          subst this
          simp at hu
        | some b => exact ⟨a0, D, b, gs, u, rfl, g1.ok.sub.ext hF, T, no, g1.ok.sub.xd hx, hu, k u c1 (.val y) g1 e1 ru h2'⟩
    · exact h.elim
  | _ => exact h1.elim
end
end PL
/-! PY7: raise C(f=e). -/
namespace PySem
namespace PLX
open PySem.W PySem.Calls PyProof.Rows PySem.HandSPX
section
variable {M : Model} {prog : Program} {w : World} {A : Around} {E : Value → Shared → Prop} {R : Result → Shared → Prop} {h : Heap} {g : Array GenState} {d : Drawn} {t : Nat} {os : OsState}
variable {nm q : Str} {C N : Addr} {bs bm bmB : List Value} {hdct : Bool} {sn : List Str} {sub : List Value} {ab : Bool} {col : Option Bool} {dd : Option Addr} {k0 k1 k2 k3 k5 : Option Value} {B newId initId : String}
theorem kw_check (F : ExcBaseFacts B newId initId bmB) (hT : ∀ X : String, bm.contains (.type X) = bmB.contains (.type X)) {kw : List (Str × Value)} {Q : Unit → Shared → Prop}
    (hC : h.get? C = some (excClassObj nm q C N bs bm hdct sn sub ab col dd k0 k1 k2 k3 k5 newId)) (hq : Q () ⟨h, g, d, t, os⟩) : wpAny M A (checkBuiltinCall newId ⟨[.ref C], kw⟩) Q E ⟨h, g, d, t, os⟩ := by
  have has : (Value.ref C :: bm).contains (.type B) = true := by rw [List.contains_cons, hT, F.hasB, Bool.or_true]
  have st := F.noStar
  simp only [checkBuiltinCall, F.newKind, F.newSplit, F.newRow]
  repeat (first | refine wpAny_loadPart_at hC ?_ | (refine wpAny_isSubtype_exc hC ?_; rw [has]) | refine wpAny_staticBase_exc hC ?_ | refine wpAny_madeBy_exc hC ?_ | simp only [bne_self_eq_false, Bool.false_eq_true, if_false] | wp_step)
  exact hq
theorem kw_new (F : ExcBaseFacts B newId initId bmB) (hT : ∀ X : String, bm.contains (.type X) = bmB.contains (.type X)) {kw : List (Str × Value)}
    (hC : h.get? C = some (excClassObj nm q C N bs bm hdct sn sub ab col dd k0 k1 k2 k3 k5 newId))
    (hq : R (.ok (.ret (.ref (h.objs.size + 1)))) ⟨(h.push (kdv_tup [])).push (excO C h.objs.size), g, d, t, os⟩) :
    codeAny (model prog w) A (.builtin newId ⟨[.ref C], kw⟩) R ⟨h, g, d, t, os⟩ := by
  have e1 := F.ends
  have has : (Value.ref C :: bm).contains (.type B) = true := by rw [List.contains_cons, hT, F.hasB, Bool.or_true]
  have hasA : (Value.ref C :: bm).contains (.type "AttributeError") = false := by rw [List.contains_cons, hT, F.noAttr]; rfl
  have hasN : (Value.ref C :: bm).contains (.type "NameError") = false := by rw [List.contains_cons, hT, F.noName]; rfl
  refine codeAny_builtinAt F.entry ?_
  unfold Builtin.«BaseException.__new__»
  refine wpAt_bind ?_
  show wpAt _ _ _ (stack >>= _) _ _ _
  refine wpAt_bind (wpAt_stack fun p below => wpAt_of_wpAny ?_)
  wp_walk
  refine wpAt_of_wpAny ?_
  rw [F.owner]
  repeat (first | with_reducible refine wpAny_madeHere_exc F.canon hC ?_ | with_reducible refine wpAny_loadPart_at hC ?_ | (with_reducible refine wpAny_isSubtype_exc hC ?_; first | rw [has] | rw [hasA] | rw [hasN]) | wp_step)
  show R _ _
  rw [Heap.size_push]
  exact hq
theorem kw_type (F : ExcBaseFacts B newId initId bmB) (hT : ∀ X : String, bm.contains (.type X) = bmB.contains (.type X)) {kw : List (Str × Value)} {fI : Addr} {Q : Fin → Shared → Prop}
    (hC : h.get? C = some (excClassObj nm q C N bs bm hdct sn sub ab col dd k0 k1 k2 k3 k5 newId))
    (hi : W.Looks (model prog w) h (typeLookup (.ref C) "__init__") (some (.ref fI))) (hb : ∀ self, W.Looks (model prog w) h (bindSpecial (.ref fI) self) (.ref fI, [self]))
    (hq : codeAny (model prog w) A (.call (.ref fI) ⟨[.ref (h.objs.size + 1)], kw⟩) (fun r s' => match r with | .ok (.ret v) => v = .none ∧ Q (.done (.ret (.ref (h.objs.size + 1)))) s' | .ok _ => False | .error e => E e s')
      ⟨(h.push (kdv_tup [])).push (excO C h.objs.size), g, d, t, os⟩) :
    wpAny (model prog w) A (Builtin.«type.__call__» ⟨[.ref C], kw⟩) Q E ⟨h, g, d, t, os⟩ := by
  repeat (first | with_reducible refine wpAny_loadPart_at hC ?_ | with_reducible refine wpAny_madeBy_exc hC ?_ | wp_step)
  refine codeAny_call_builtin_code (Code.quiet_builtin _ F.quiet) (kw_check F hT hC (kw_new F hT hC ?_))
  show wpAny _ _ _ _ _ _
  have up : ∀ b o, h.get? b = some o → ((h.push (kdv_tup [])).push (excO C h.objs.size)).get? b = some o := fun b o e => Heap.get?_push_of_some _ (Heap.get?_push_of_some _ e)
  have hC1 := up _ _ hC
  have at_ : ((h.push (kdv_tup [])).push (excO C h.objs.size)).get? (h.objs.size + 1) = some (excO C h.objs.size) := by heap_get
  have hcC : (Value.ref C :: bm).contains (.ref C) = true := by simp
  have i1 := hi.keeps up
  have b1 := (hb (.ref (h.objs.size + 1))).keeps up
  unfold isInstance
  repeat (first | with_reducible refine wpAny_loadPart_at at_ ?_ | (with_reducible refine wpAny_isSubtype_exc hC1 ?_; rw [hcC]) | wp_step)
  show wpAny _ _ (typeLookup (.ref C) _) _ _ _
  refine i1.at (wpAny_holding (wpAny_bind (b1.at (wpAny_bind (wpAny_call (codeAny_mono hq fun r s' z => ?_))))))
  rcases r with e | (v | _ | _ | _) <;> first | exact z | exact z.elim | skip
  obtain ⟨rfl, z⟩ := z
  first
    | exact wpAny_pure (wpAny_pure z)
    | (wp_walk; exact z)
theorem kw_call (F : ExcBaseFacts B newId initId bmB) (hT : ∀ X : String, bm.contains (.type X) = bmB.contains (.type X)) {kw : List (Str × Value)} {fI : Addr}
    (hC : h.get? C = some (excClassObj nm q C N bs bm hdct sn sub ab col dd k0 k1 k2 k3 k5 newId))
    (hi : W.Looks (model prog w) h (typeLookup (.ref C) "__init__") (some (.ref fI))) (hb : ∀ self, W.Looks (model prog w) h (bindSpecial (.ref fI) self) (.ref fI, [self]))
    (hq : codeAny (model prog w) (A.under (.builtin "type.__call__" ⟨[.ref C], kw⟩)) (.call (.ref fI) ⟨[.ref (h.objs.size + 1)], kw⟩) (W.InitBack (h.objs.size + 1) R) ⟨(h.push (kdv_tup [])).push (excO C h.objs.size), g, d, t, os⟩) :
    codeAny (model prog w) A (.call (.ref C) ⟨[], kw⟩) R ⟨h, g, d, t, os⟩ := by
  have f1 := tc_lookup
  have f2 := tc_bind (.ref C)
  have hTy : (⟨h, g, d, t, os⟩ : Shared).TypeIs (.ref C) "type" := ⟨_, hC, rfl⟩
  refine codeAny_of_tree ?_
  show wpAny _ _ (callAny (.ref C) _) _ _ _
  repeat (any_goals (first | assumption | with_reducible refine wpAny_loadPart_at hC ?_ | wp_step))
  refine ⟨rfl, codeAny_call_builtin_at (Code.quiet_builtin _ (by decide +kernel)) entry_typeCall (wpAny_check_type_call_sub hC (kw_type F hT hC hi hb (codeAny_mono hq fun r s' z => ?_)))⟩
  rcases r with e | (v | _ | _ | _) <;> exact z
end
end PLX
end PySem
/-! PY8: raise C(f=e); raise C(e) of a class without __init__ of its own. -/
namespace PL
open PySem PySem.Spec PyProof.Rows L2
section
variable {X : Cx}
theorem pmk_oexK {CX : CXT} {x kn : Str} {C fI : Addr} {k : Nat} {fd : FuncData} {ps : List Str} {sp : Sp} {e : Expr} {p pos kpos : Pos} {te : TE} (T : OexC X.K C) (iC : PySem.W.findIn X.K (.ref C) "__init__" = some (some (.ref fI))) (tI : PySem.W.typeIn X.K (.ref fI) = some (.type "function"))
    (F1 : FnOk X.prog X.w X.K X.mg X.base CX k fI fd ps sp) (hr : Room (k + 1) X.A) (hb : KAt X.K fd ps 1 [kn] [0, 1]) (hx : Passes CX X (fun _ _ _ => False)) (hg : Gl X x) (hm : X.mg x = some (.ref C)) (ha : PE X e te)
    (hdb : (x == ("__debug__" : Str)) = false := by decide) (hall : (backToKw pos (keywordEach [⟨some kn, e, kpos⟩] X.env)).all (·.1.isSome) = true := by rfl) (hks : (backToKw pos (keywordEach [⟨some kn, e, kpos⟩] X.env)).filterMap (·.1) = [kn] := by rfl)
    (hpl : ((backTo pos (starEach [] X.env)).any (·.1) || (backToKw pos (keywordEach [⟨some kn, e, kpos⟩] X.env)).any (·.1.isNone)) = false := by rfl) :
    PMk X (.Call (.Name x p) [] [⟨some kn, e, kpos⟩] pos) (tMkO C sp [] (tCons te tNil)) := by
  intro pins s σ H Q I h
  obtain ⟨nm, q, N, bs, bm, sn, sub, ab, col, dd, k0, k1, k2, k3, k5, hC, hbm⟩ := T.cls
  refine wpAny_Call_Name_kw (ld_glob I hg hm ?_ hdb)
  refine PySem.W.callWith_KW0 (h₀ := X.base) I.ok.mod.kin T.kC hall ?_ hpl
  show wpAny _ _ (evalAll ((do let v ← eval e X.env; standAt pos; pure v) :: [])) _ _ s
  refine wpAny_evalAll_cons (wpAny_bind (thn (ha.run pins s σ H _ I h) fun u s1 ⟨v, H1, I1, r1, hz, q1⟩ => wpAny_bind (wpAny_standAt (wpAny_pure (wpAny_evalAll_nil ⟨I1.kIn, ?_⟩)))))
  rw [hks]
  obtain ⟨hp, g, dr, tk, os⟩ := s1
  have hsz : hp.objs.size ≤ hp.objs.size + 1 := Nat.le_succ _
  have hn : H1 (hp.objs.size + 1) = none := I1.hok.fresh hsz
  have hq := q1 (hp.objs.size + 1) hn
  have kk : ∀ b o, hp.get? b = some o → ((hp.push (PySem.W.kdv_tup [])).push (PySem.HandSPX.excO C hp.objs.size)).get? b = some o := fun b o e => Heap.get?_push_of_some _ (Heap.get?_push_of_some _ e)
  have hget : ((hp.push (PySem.W.kdv_tup [])).push (PySem.HandSPX.excO C hp.objs.size)).get? (hp.objs.size + 1) = some (PySem.HandSPX.excO C hp.objs.size) := by heap_get
  have I2 : Inv X pins σ (upd H1 (hp.objs.size + 1) (exo (hp.objs.size + 1) C none)) ⟨(hp.push (PySem.W.kdv_tup [])).push (PySem.HandSPX.excO C hp.objs.size), g, dr, tk, os⟩ :=
    I1.laid (t' := tk) (a := hp.objs.size + 1) (o := exo (hp.objs.size + 1) C none) (h' := (hp.push (PySem.W.kdv_tup [])).push (PySem.HandSPX.excO C hp.objs.size)) kk hsz (exo_ok hget)
  have r2 : Vals (V.ref (hp.objs.size + 1) :: ([v] ++ [])) (Value.ref (hp.objs.size + 1) :: ([u] ++ [])) := .cons rfl (.cons r1 .nil)
  refine wpAny_call (PySem.PLX.kw_call F.excBase_ValueError (fun Y => PySem.HandSPX.refsVE_contains Y bm hbm) (I1.kIn _ _ hC) (PySem.W.looks_findIn I1.kIn iC) (fun self => PySem.W.bind_fn I1.kIn self tI)
    (codeAny_mono (F1.run _ X.stack _ _ ⟨[Value.ref (hp.objs.size + 1)], [(kn, u)]⟩ (Value.ref (hp.objs.size + 1) :: ([u] ++ [])) _ _ (fun _ _ _ => False) (hr.make C [] [(kn, u)]) (I2.env0.make C [] [(kn, u)]) (hb.to _ [Value.ref (hp.objs.size + 1)] [u] rfl rfl) r2 hq) fun r s' hq' => ?_))
  cases r with
  | error er => exact hx pins σ _ _ er s' I2 hq'
  | ok fl =>
    cases fl with
    | ret u =>
      obtain ⟨v, H2, os2, bare2, un2, hok2, rv, ev, d, fs, ea, ed, hd1, q2⟩ := hq'
      subst ev
      obtain ⟨h2, g2, d2, t2, os'⟩ := s'
      exact ⟨rv, mk_end (raises_own T.exC T.tyC) I1 hsz kk un2 hok2 os2 bare2 ea ed hd1 q2⟩
    | next => exact False.elim hq'
    | brk => exact False.elim hq'
    | cont => exact False.elim hq'
end
variable [HasT]
/-- the class cn has no __init__ of its own -/
structure XCl0 (K : PySem.W.Frag) (mg : Str → Option Value) (cn : Str) (C : Addr) : Prop where
  gC : mg cn = some (.ref C)
  kC : PySem.W.keepIn K (.ref C) = true
  q : PySem.W.excIn K C veT "ValueError.__new__" = true
  exC : PySem.W.subIn K (.ref C) (.type "BaseException") = some true
  tyC : PySem.W.typeIn K (.ref C) = some (.type "type")
section
variable {X : Cx} {XE : XK} {k : Nat}
theorem pst_raiseFK {cn f p : Str} {Cl fI : Addr} {fd : FuncData} {e : Expr} {w : WE} {np pos kpos rpos : Pos} (C : Cc X XE k) (hk : 2 ≤ k) (D : XClF X.K X.mg X.prog cn f p Cl fI fd) (hb : KAt X.K fd ["self", p] 1 [p] [0, 1]) (h : PdE X XE e w)
    (hg : Gl X cn := by rfl) (hdb : (cn == ("__debug__" : Str)) = false := by decide) (hall : (backToKw pos (keywordEach [⟨some p, e, kpos⟩] X.env)).all (·.1.isSome) = true := by rfl) (hks : (backToKw pos (keywordEach [⟨some p, e, kpos⟩] X.env)).filterMap (·.1) = [p] := by rfl)
    (hpl : ((backTo pos (starEach [] X.env)).any (·.1) || (backToKw pos (keywordEach [⟨some p, e, kpos⟩] X.env)).any (·.1.isNone)) = false := by rfl) :
    PdS X XE (.Raise (some (.Call (.Name cn np) [] [⟨some p, e, kpos⟩] pos)) none rpos) (wRaiseF cn f w) := by
  obtain ⟨t, pe, s⟩ := h
  refine ⟨_, ps_raise C.calm C.tak (pmk_oexK (CX := L2.CX X.prog X.w) (k := 1) D.ini.T D.iC D.tI (ini_ok D.sup D.ini) (C.room.mono hk) hb (fun pins σ H s e s' I q => passes_call C.tak (fun _ _ _ _ z => False.elim z) pins σ H s e s' I q) hg D.gC pe hdb hall hks hpl), fun c Dp De ok hw Pk => ?_⟩
  exact raiseF_run (e := e) D s c Dp De ok hw Pk
theorem pst_raise0 {cn : Str} {Cl : Addr} {e : Expr} {w : WE} {np pos rpos : Pos} (C : Cc X XE k) (D : XCl0 X.K X.mg cn Cl) (h : PdE X XE e w)
    (hg : Gl X cn := by rfl) (hs : starEach [e] X.env = (false, eval e X.env) :: starEach [] X.env := by rfl) (hdb : (cn == ("__debug__" : Str)) = false := by decide) :
    PdS X XE (.Raise (some (.Call (.Name cn np) [e] [] pos)) none rpos) (wRaise0 cn w) := by
  obtain ⟨t, pe, s⟩ := h
  refine ⟨_, ps_raise C.calm C.tak (SkE.pmk_own1 PySem.F.excBase_ValueError D.q D.gC D.kC (raises_own D.exC D.tyC) hg pe hs hdb), fun c Dp De ok hw Pk => ?_⟩
  refine runK (e := e) s ok hw (Pk.2.2.2.2.ex X.K X.mg) fun v c1 d g1 e1 r1 h1 => ?_
  exact Pk.2.2.2.2 ⟨cn, [], []⟩ (.ref Cl) none c1 g1 ⟨Cl, D.gC, rfl, rfl, rfl⟩ (fun b eb => by cases eb) h1
end
end PL
/-! PY11: repr(x), str(x) of nested data, where no repr is under way. -/
namespace PL
open PySem PySem.Spec PyProof.Rows L2
variable [HasT]
/-- data whose text can be made -/
def okP (p : PyData) : Prop := p.showable = true ∧ p.hasDict = false ∧ p.depth ≤ 8 ∧ p.shown.length ≤ sizeLine
/-- str(x) -/
def strT : PyData → Str
  | .str x => x
  | p => p.shown
def gRepr : GN := fun ds Q => match ds with
  | [d] => match toP d with
    | some p => okP p ∧ Q (.val (.str p.shown))
    | none => False
  | _ => False
def gStr : GN := fun ds Q => match ds with
  | [d] => match toP d with
    | some p => okP p ∧ Q (.val (.str (strT p)))
    | none => False
  | _ => False
def rShow (K : PySem.W.Frag) (f : PyData → Str) : List V → Hp → VK → Prop := fun xs H Q => ∃ x p, xs = [x] ∧ Dp K H x p ∧ okP p ∧ Q (.str (f p)) H
section
variable {X : Cx} {k : Nat}
theorem call_repr (hn : NoG X.A) (hr : Room k X.A) : CallR X (.builtin "repr") (rShow X.K PyData.shown) := by
  intro pins s σ H xs us Q I r ⟨x, p, ex, hd, ⟨h1, h2, h3, h4⟩, q⟩
  subst ex
  obtain ⟨u, rfl, ru⟩ := vals1 r
  have un := hr.un
  have rd := Dp.reads I p x u hd ru
  obtain ⟨as, rd⟩ := rd
  have fin : ∀ {h' : Heap} {t tk : Nat}, (∀ b o, s.heap.get? b = some o → h'.get? b = some o) → EP X pins σ Q (.str p.shown t) { s with heap := h', toks := tk } := fun hk => ⟨.str p.shown, H, I.kept hk, ⟨_, rfl⟩, q⟩
  cases rd with
  | none => exact PySem.P.repr_of_none (fin fun _ _ e => e)
  | bool b => exact PySem.P.repr_of_bool (fin fun _ _ e => e)
  | int i t => exact PySem.P.repr_of_int (by simpa [PyData.showable] using h1) (fin fun _ _ e => e)
  | str x t => exact PySem.P.repr_of_str (fin fun _ _ e => e) h4
  | list a1 a2 a3 a4 => exact repr_of_reads' (.list a1 a2 a3 a4) h1 (PyData.noDict_hsm h2) hn (by omega) (fun _ _ e => e) (fun h' u tk hk => fin hk) h4
  | tuple a1 a2 a3 a4 => exact repr_of_reads' (.tuple a1 a2 a3 a4) h1 (PyData.noDict_hsm h2) hn (by omega) (fun _ _ e => e) (fun h' u tk hk => fin hk) h4
  | dict _ _ _ _ _ => cases h2
theorem call_strD (hn : NoG X.A) (hr : Room k X.A) : CallR X (.type "str") (rShow X.K strT) := by
  intro pins s σ H xs us Q I r ⟨x, p, ex, hd, ⟨h1, h2, h3, h4⟩, q⟩
  subst ex
  obtain ⟨u, rfl, ru⟩ := vals1 r
  have un := hr.un
  have rd := Dp.reads I p x u hd ru
  obtain ⟨as, rd⟩ := rd
  have fin : ∀ {h' : Heap} {t tk : Nat}, (∀ b o, s.heap.get? b = some o → h'.get? b = some o) → EP X pins σ Q (.str (strT p) t) { s with heap := h', toks := tk } := fun hk => ⟨.str (strT p), H, I.kept hk, ⟨_, rfl⟩, q⟩
  cases rd with
  | none => exact PySem.P.str_of_none (fin fun _ _ e => e)
  | bool b => exact PySem.P.str_of_bool (fin fun _ _ e => e)
  | int i t => exact PySem.P.str_of_int (by simpa [PyData.showable] using h1) (fin fun _ _ e => e)
  | str x t => exact PySem.P.str_of_str (fin (tk := s.toks) fun _ _ e => e)
  | list a1 a2 a3 a4 => exact str_of_reads (.list a1 a2 a3 a4) h1 (PyData.noDict_hsm h2) hn (by omega) (fun _ _ e => e) (fun h' u tk hk => fin hk) h4
  | tuple a1 a2 a3 a4 => exact str_of_reads (.tuple a1 a2 a3 a4) h1 (PyData.noDict_hsm h2) hn (by omega) (fun _ _ e => e) (fun h' u tk hk => fin hk) h4
  | dict _ _ _ _ _ => cases h2
end
section
variable {K : PySem.W.Frag} {mg : Str → Option Value}
theorem opn_repr : OpN K mg (rShow K PyData.shown) gRepr := by
  intro F H ds vs Qg Q s h hg k
  unfold gRepr at hg
  split at hg
  next d =>
    obtain ⟨v, rfl, h1⟩ := seeL1 h
    split at hg
    next p hp => exact ⟨v, p, rfl, h1.dp s hp, hg.1, fin_val s k (d := .str _) rfl hg.2⟩
    next => exact hg.elim
  next => exact hg.elim
theorem opn_str : OpN K mg (rShow K strT) gStr := by
  intro F H ds vs Qg Q s h hg k
  unfold gStr at hg
  split at hg
  next d =>
    obtain ⟨v, rfl, h1⟩ := seeL1 h
    split at hg
    next p hp => exact ⟨v, p, rfl, h1.dp s hp, hg.1, fin_val s k (d := .str _) rfl hg.2⟩
    next => exact hg.elim
  next => exact hg.elim
end
section
variable {X : Cx} {XE : XK} {k : Nat}
theorem pd_repr {p pos : Pos} {e : Expr} {w : WR} (C : Cc X XE k) (hn : NoG X.A) (hm : X.mg "repr" = none) (ha : PdV X XE [e] w) (gl : Gl X "repr" := by rfl)
    (he : starEach [e] X.env = (false, eval e X.env) :: starEach [] X.env := by rfl) (hpl : (backTo pos (starEach [] X.env)).any (·.1) = false := by rfl) : PdE X XE (.Call (.Name "repr" p) [e] [] pos) (wCall gRepr w) :=
  pd_callB (call_repr hn C.room) opn_repr gl hm (by decide +kernel) ha (by decide) (by decide) he hpl
theorem pd_strD {p pos : Pos} {e : Expr} {w : WR} (C : Cc X XE k) (hn : NoG X.A) (hm : X.mg "str" = none) (ha : PdV X XE [e] w) (gl : Gl X "str" := by rfl)
    (he : starEach [e] X.env = (false, eval e X.env) :: starEach [] X.env := by rfl) (hpl : (backTo pos (starEach [] X.env)).any (·.1) = false := by rfl) : PdE X XE (.Call (.Name "str" p) [e] [] pos) (wCall gStr w) :=
  pd_callTy (call_strD hn C.room) opn_str gl hm (by decide +kernel) ha (by decide) (by decide) he hpl
end
end PL
/-! PY12: l.count(b), l.index(b) of a list of truth values; isinstance by a class's name; x(lambda: e) by facts of the def x. -/
namespace PL
open PySem PySem.Spec PyProof.Rows L2
variable [HasT]
def isLst : D → Prop
  | .lst _ => True
  | _ => False
def kCnt (Q : R → Env → Prop) (ρ : Env) : D → D → Prop
  | .lst xs, .bl b => match blsD xs with
    | some bs => Q (.val (.int (bs.count b : Nat))) ρ
    | none => False
  | _, _ => False
def kIdx (Q : R → Env → Prop) (ρ : Env) : D → D → Prop
  | .lst xs, .bl b => match blsD xs with
    | some bs => b ∈ bs ∧ Q (.val (.int (bs.idxOf b : Nat))) ρ
    | none => False
  | _, _ => False
/-- l.m(b) -/
def wLm (kk : (R → Env → Prop) → Env → D → D → Prop) (wo w : WE) : WE := fun ρ Q Ep => wV wo ρ (fun r0 ρ0 => pk1 ρ0 r0 fun d0 => isLst d0 ∧ wV w ρ0 (fun r1 ρ1 => pk1 ρ1 r0 fun d0' => pk1 ρ1 r1 fun d1 => kk Q ρ1 d0' d1) Ep) Ep
section
variable {K : PySem.W.Frag} {H : Hp}
theorem dpAll_bls : ∀ bs : List Bool, DpAll K H (bs.map V.bl) (bs.map PyData.bool)
  | [] => .nil
  | b :: bs => .cons (.bl b) (dpAll_bls bs)
theorem plainAll_bls : ∀ bs : List Bool, PyData.plainAll (bs.map PyData.bool) = true
  | [] => rfl
  | b :: bs => by simp [PyData.plainAll, PyData.plain, plainAll_bls bs]
theorem depth_bls : ∀ bs : List Bool, PyData.depthAll (bs.map PyData.bool) = 0
  | [] => rfl
  | b :: bs => by simp [PyData.depthAll, PyData.depth, depth_bls bs]
theorem count_bls (b : Bool) : ∀ bs : List Bool, (bs.map PyData.bool).countP (fun y => PyData.eqv y (.bool b)) = bs.count b
  | [] => rfl
  | x :: bs => by
    rw [List.map_cons, List.countP_cons, count_bls b bs, List.count_cons]
    simp [PyData.eqv]
theorem lay_bls : ∀ bs : List Bool, PyData.canLayAll0 (bs.map PyData.bool) = true
  | [] => rfl
  | b :: bs => by simp [PyData.canLayAll0, PyData.canLay0, lay_bls bs]
theorem shaped_bls (bs : List Bool) : SeqAt.shaped (.list (bs.map PyData.bool)) = true := by
  simp [SeqAt.shaped, PyData.canLay0, lay_bls, PyData.depth, depth_bls]
end
def rCntB (K : PySem.W.Frag) : V → List V → Hp → VK → Prop := fun x xs H Q => ∃ (p : Addr) (bs : List Bool) (b : Bool), x = .ref p ∧ xs = [.bl b] ∧ SqL K H p (bs.map V.bl) ∧ Q (.int (bs.count b : Nat)) H
def rIdxB (K : PySem.W.Frag) : V → List V → Hp → VK → Prop := fun x xs H Q => ∃ (p : Addr) (bs : List Bool) (b : Bool), x = .ref p ∧ xs = [.bl b] ∧ SqL K H p (bs.map V.bl) ∧ b ∈ bs ∧ Q (.int (bs.idxOf b : Nat)) H
section
variable {X : Cx} {XE : XK} {k : Nat}
theorem mt_cntB (hu : X.A.units + 65 < cLine) : MtR X "list.count" (rCntB X.K) := by
  intro pins s σ H x xs v us Q I rx rxs h
  obtain ⟨p, bs, b, rfl, rfl, hs, q⟩ := h
  cases rx
  obtain ⟨u, rfl, ru⟩ := rxs.one
  obtain rfl : u = Value.bool b := ru
  obtain ⟨its, rv, hl, hlen⟩ := I.list hs
  obtain ⟨as, h4⟩ := Dp.readsAll I _ _ its (dpAll_bls bs) rv
  refine SeqAt.count_list_data (vs := its.toArray) hl.isList (xs := bs.map PyData.bool) (d := .bool b) (by simpa using h4) (.bool b) (plainAll_bls bs) rfl (by rw [depth_bls]; simp; omega) ?_
  exact ⟨.int (bs.count b : Nat), H, I.tok _, ⟨s.toks, by rw [count_bls]⟩, q⟩
theorem mt_idxB (hu : X.A.units + 65 < cLine) : MtR X "list.index" (rIdxB X.K) := by
  intro pins s σ H x xs v us Q I rx rxs h
  obtain ⟨p, bs, b, rfl, rfl, hs, hb, q⟩ := h
  have hj : bs.idxOf b < bs.length := List.idxOf_lt_length_iff.mpr hb
  refine mt_indexD hu pins s σ H (.ref p) [.bl b] v us Q I rx rxs ⟨p, .bl b, .bool b, bs.map PyData.bool, bs.idxOf b, .bool b, rfl, rfl, .lst hs (dpAll_bls bs), .bl b, shaped_bls bs, rfl, ?_, by simp [PyData.eqv], fun m z' hm hz => ?_, q⟩
  · rw [List.getElem?_map, List.getElem?_eq_getElem hj, List.getElem_idxOf hj]; rfl
  · rw [List.getElem?_map] at hz
    have hml : m < bs.length := by omega
    rw [List.getElem?_eq_getElem hml] at hz
    cases hz
    have := List.not_of_lt_findIdx (p := (· == b)) (xs := bs) hm
    simpa [PyData.eqv] using this
theorem lm_run {r : V → List V → Hp → VK → Prop} {kk : (R → Env → Prop) → Env → D → D → Prop} {o e : Expr} {to te : TE} {wo w : WE}
    (hk : ∀ (c : Cfg) (Qp : R → Env → Prop) (Q : VK) (d0 d1 : D) (x y : V), Ok X.K X.mg c → kk Qp c.ρ d0 d1 → See X.K X.mg c.F c.H d0 x → See X.K X.mg c.F c.H d1 y → (∀ v d, Rep X.K X.mg c.F d v → Qp (.val d) c.ρ → Q v c.H) → r x [y] c.H Q)
    (so : SoE X XE to wo) (s : SoE X XE te w) : SoE X XE (tBM X.K "list" r to (tCons te tNil)) (wLm kk wo w) := by
  intro c Qp Ep Q ok hw x0 k0
  refine runV (e := o) so ok hw x0 fun v0 c0 r0 g0 e0 rr0 h0 => ?_
  obtain ⟨d0, hd0, hl, h1⟩ := pk1_of h0
  have see0 := rr0.see g0.ok hd0
  cases d0 with
  | lst ds0 =>
    obtain ⟨a, xs, rfl, ha, _⟩ := see0.lst g0.ok.sub
    refine ⟨.inl ⟨rfl, xs, SqL.of ha⟩, ?_⟩
    rw [← e0]
    refine runV (e := e) s g0.ok h1 (x0.go X.K X.mg g0 e0) fun v1 c1 r1 g1 e1 rr1 h2 => ?_
    obtain ⟨d0', hd0', h2⟩ := pk1_of h2
    obtain ⟨d1, hd1, h2⟩ := pk1_of h2
    exact hk c1 Qp Q d0' d1 _ _ g1.ok h2 ((rr0.go g1 e1).see g1.ok hd0') (rr1.see g1.ok hd1) fun v d rp q => k0 v c1 (.val d) (g0.trans X.K X.mg g1) (e1.trans e0) rp q
  | _ => exact hl.elim
theorem pd_cntB {o e : Expr} {apos cpos : Pos} {wo w : WE} (C : Cc X XE k) (ho : PdE X XE o wo) (h : PdE X XE e w) (hbase : attributeBase o "count" X.env (eval o X.env) = eval o X.env := by rfl)
    (hfew : ((backTo cpos (starEach [e] X.env)).all (fun x => !x.1) && (backToKw cpos (keywordEach [] X.env)).all (fun x => x.1.isSome)
      && decide ([e].length + ([] : List Keyword).length + (if ([] : List Keyword).isEmpty then 0 else 1) < 30)) = true := by rfl)
    (hline : (apos.endLine == cpos.line) = true := by rfl) (hs : starEach [e] X.env = (false, eval e X.env) :: starEach [] X.env := by rfl) (hplain : (backTo cpos (starEach [] X.env)).any (·.1) = false := by rfl) :
    PdE X XE (.Call (.Attribute o "count" apos) [e] [] cpos) (wLm kCnt wo w) := by
  obtain ⟨to, po, so⟩ := ho
  obtain ⟨te, pe, s⟩ := h
  refine ⟨_, pe_bm PySem.F.plainAttrs_list PySem.F.slot_list_count PySem.F.type_list_count (mt_cntB (by have := C.u65; omega)) po (pa_cons pe pa_nil hs) hbase hfew hline hs hplain, lm_run (o := o) (e := e) (fun c Qp Q d0 d1 x y ok hk s0 s1 kq => ?_) so s⟩
  unfold kCnt at hk
  split at hk
  next xs b =>
    split at hk
    next bs hb =>
      obtain ⟨a, vs, rfl, ha, rp⟩ := s0.lst ok.sub
      rw [s1.bl]
      cases blsD_rep rp hb
      exact ⟨a, bs, b, rfl, rfl, SqL.of ha, kq _ (.int _) rfl hk⟩
    next => exact hk.elim
  next => exact hk.elim
theorem pd_idxB {o e : Expr} {apos cpos : Pos} {wo w : WE} (C : Cc X XE k) (ho : PdE X XE o wo) (h : PdE X XE e w) (hbase : attributeBase o "index" X.env (eval o X.env) = eval o X.env := by rfl)
    (hfew : ((backTo cpos (starEach [e] X.env)).all (fun x => !x.1) && (backToKw cpos (keywordEach [] X.env)).all (fun x => x.1.isSome)
      && decide ([e].length + ([] : List Keyword).length + (if ([] : List Keyword).isEmpty then 0 else 1) < 30)) = true := by rfl)
    (hline : (apos.endLine == cpos.line) = true := by rfl) (hs : starEach [e] X.env = (false, eval e X.env) :: starEach [] X.env := by rfl) (hplain : (backTo cpos (starEach [] X.env)).any (·.1) = false := by rfl) :
    PdE X XE (.Call (.Attribute o "index" apos) [e] [] cpos) (wLm kIdx wo w) := by
  obtain ⟨to, po, so⟩ := ho
  obtain ⟨te, pe, s⟩ := h
  refine ⟨_, pe_bm PySem.F.plainAttrs_list PySem.F.slot_list_index PySem.F.type_list_index (mt_idxB (by have := C.u65; omega)) po (pa_cons pe pa_nil hs) hbase hfew hline hs hplain, lm_run (o := o) (e := e) (fun c Qp Q d0 d1 x y ok hk s0 s1 kq => ?_) so s⟩
  unfold kIdx at hk
  split at hk
  next xs b =>
    split at hk
    next bs hb =>
      obtain ⟨a, vs, rfl, ha, rp⟩ := s0.lst ok.sub
      rw [s1.bl]
      cases blsD_rep rp hb
      exact ⟨a, bs, b, rfl, rfl, SqL.of ha, hk.1, kq _ (.int _) rfl hk.2⟩
    next => exact hk.elim
  next => exact hk.elim
end
end PL
/-! PY13: x(lambda: e) by facts of the def x; isinstance by a class's name. -/
namespace PL
open PySem PySem.Spec PyProof.Rows L2 LamX
variable [HasT]
/-- the def x that takes a lambda, as its users know it -/
structure CatAt (K : PySem.W.Frag) (mg : Str → Option Value) (x a : Str) (st : Stmt) (g : Addr) (fd : FuncData) : Prop where
  d0 : ∃ dvs kws, FunD K x x (defArgs st) (defBody st) (defScope st) dvs kws g fd
  mx : mg x = some (.ref g)
  kp : PySem.W.keepIn K (.ref g) = true
  bd : L2.Binds K fd [a] []
/-- which classes the handler of e catches -/
structure ExmAt (K : PySem.W.Frag) (mg : Str → Option Value) (e : Str) (CS : Addr) (cat : Str → Bool) : Prop where
  mx : mg e = some (.ref CS)
  is : ∀ cn Cl, cat cn = true → mg cn = some (.ref Cl) → PySem.W.exmOne K (.ref Cl) (.ref CS) = some true
section
variable {X : Cx} {XE : XK} {k : Nat}
theorem pd_lamC {x a e y en : Str} {g c P CS : Addr} {fd : FuncData} {st : Stmt} {i j jj : Nat} {Ng : List Str} {cat : Str → Bool} {rest : List Stmt} {wr : WS} {wb : WE}
    {params : Arguments} {body : Expr} {scope : Scope} {p lpos pos a1 a2 a3 p1 p2 p3 p4 p5 p6 p7 p8 p9 : Pos} (C : Cc X XE (k + 2)) (hn : NoG X.A) (T : CatAt X.K X.mg x a st g fd) (G : ExmAt X.K X.mg e CS cat)
    (hs : defBody st = (.Assign [.Name y a1] (.Constant .none jj a2) a3 :: .Try [.Expr (.Call (.Name a p1) [] [] p2) p3] [.ExceptHandler (some (.Name e p4)) (some en) [.Assign [.Name y p6] (.Name en p5) p7] p8] [] [] p9 :: rest))
    (Sg : FnScope Ng [a] (defScope st)) (ij : (Ng[0]? = some a ∧ Ng[i]? = some en ∧ Ng[j]? = some y) ∧ j ≠ 0 ∧ i ≠ j) (lks : Vis (defScope st) a ∧ (defScope st).names.lookup en = some .local ∧ (defScope st).names.lookup y = some .local ∧ (defScope st).names.lookup e = some .globalImplicit)
    (hrest : ∀ (s : Shared) (H : Hp), Cc (cxOf C8.CX0 X.prog X.w X.K X.mg X.base Ng x (defScope st) g fd.code X.A X.stack s H C8.E0).nox (fun _ _ _ => False) (k + 1) → PdSs (cxOf C8.CX0 X.prog X.w X.K X.mg X.base Ng x (defScope st) g fd.code X.A X.stack s H C8.E0).nox (fun _ _ _ => False) rest wr)
    (D : LamDef HasT.T X c P) (L : LamS X.env.scope scope) (nodef : defaultsOf params X.env = ([], []))
    (hbind : ∀ (q : Str) (cl : List (Str × Addr)) (pm cv ctv : Value), bindArgs (PySem.W.kla_fn "<lambda>" q params body scope cl pm cv ctv) ⟨[], []⟩ = pure [])
    (hbody : ∀ (A : Around) (outer : List PySem.Env) (s : Shared) (H : Hp) (E : XK) (f c' : Addr), NoG A → Cc (lamCx X A outer s H E scope f c') E k → PdE (lamCx X A outer s H E scope f c') E body wb)
    (sw0 : ∀ env, swapsWith (.Constant .none jj a2) (some (.Name y a1)) a3.line env = pure false := by exact fun _ => rfl) (sw1 : ∀ env, swapsWith (.Call (.Name a p1) [] [] p2) none p3.line env = pure false := by exact fun _ => rfl) (sw2 : ∀ env, swapsWith (.Name en p5) (some (.Name y p6)) p7.line env = pure false := by exact fun _ => rfl)
    (hg : Gl X x := by rfl) (hde : (e == ("__debug__" : Str)) = false := by decide)
    (hdb : (x == ("__debug__" : Str)) = false := by decide) (hd : (a == ("__debug__" : Str)) = false := by decide) (hcd : (a == ("__classdict__" : Str)) = false := by decide) (hdn : (en == ("__debug__" : Str)) = false := by decide) (hcn : (en == ("__classdict__" : Str)) = false := by decide) :
    PdE X XE (.Call (.Name x p) [.Lambda params body scope lpos] [] pos) (wErr Ng.length j cat wr wb) := by
  obtain ⟨⟨dvs, kws, ⟨oc, od, dV, kV, doc, pm, an, cdv, ct, osl, rfl, lk, hcd2, _, _⟩, _⟩, hm, hk, hb⟩ := T
  rw [hs] at lk hb
  exact pd_lamE (k := k) C hn hg hm hk lk hcd2 hb Sg ij.1.1 lks.1 ij.1.2.1 lks.2.1 ij.1.2.2 lks.2.2.1 ij.2.1 ij.2.2 lks.2.2.2 G.mx hde G.is
    (fun s H => hrest s H ⟨rfl, PassesOwn.never, fun pins σ H' s' e s'' I q => passes_call (X := (cxOf C8.CX0 X.prog X.w X.K X.mg X.base Ng x (defScope st) g cdv X.A X.stack s H C8.E0).nox) (W := fun _ _ _ _ => False) LamX.takes0 (fun _ _ _ _ z => z) pins σ H' s' e s'' I q, LamX.takes0, C.room.deeper _⟩)
    sw0 sw1 sw2 D L nodef hbind hbody hdb hd hcd hdn hcn
/-- isinstance(e, C), C an own class -/
theorem pd_isX {tb : Str → Option Bool} {cn : Str} {Cl : Addr} {p p2 pos : Pos} {a : Expr} {w : WE} (F : XIs X.K X.mg (.ref Cl) tb) (hc : X.mg cn = some (.ref Cl)) (hm : X.mg "isinstance" = none) (ha : PdE X XE a w) (gl : Gl X "isinstance" := by rfl) (gx : Gl X cn := by rfl) (hd : (cn == ("__debug__" : Str)) = false := by decide)
    (he : starEach [a, .Name cn p2] X.env = (false, eval a X.env) :: starEach [.Name cn p2] X.env := by rfl) (he2 : starEach [.Name cn p2] X.env = (false, eval (.Name cn p2) X.env) :: starEach [] X.env := by rfl)
    (hpl : (backTo pos (starEach [.Name cn p2] X.env)).any (·.1) = false := by rfl) : PdE X XE (.Call (.Name "isinstance" p) [a, .Name cn p2] [] pos) (wIsi (fE tb) w) :=
  pd_isE F (pe_glob (v := .ref Cl) gx hc rfl hd) (.own _) hm ha gl he he2 hpl
/-- isinstance(e, T), T a built-in class -/
theorem pd_isXT {tb : Str → Option Bool} {cn : Str} {T : String} {p p2 pos : Pos} {a : Expr} {w : WE} (F : XIs X.K X.mg (.type T) tb) (hv : bootBuiltins cn = some (.type T)) (hc : X.mg cn = none) (hm : X.mg "isinstance" = none) (ha : PdE X XE a w) (gl : Gl X "isinstance" := by rfl) (gx : Gl X cn := by rfl) (hn : cn ≠ "__name__" := by decide) (hd : (cn == ("__debug__" : Str)) = false := by decide)
    (he : starEach [a, .Name cn p2] X.env = (false, eval a X.env) :: starEach [.Name cn p2] X.env := by rfl) (he2 : starEach [.Name cn p2] X.env = (false, eval (.Name cn p2) X.env) :: starEach [] X.env := by rfl)
    (hpl : (backTo pos (starEach [.Name cn p2] X.env)).any (·.1) = false := by rfl) : PdE X XE (.Call (.Name "isinstance" p) [a, .Name cn p2] [] pos) (wIsi (fE tb) w) :=
  pd_isE F (pe_bltn (v := .ty T) gx hc hv rfl hn hd) (.ty _) hm ha gl he he2 hpl
end
/-- a table of answers -/
def tbOf (all yes : List Str) : Str → Option Bool := fun c => if all.contains c then some (yes.contains c) else none
end PL
/-! PY14: equations of the new words, for simp. -/
namespace PL
open PySem PySem.Spec PyProof.Rows L2
variable [HasT]
section
variable {ρ : Env} {Q : R → Env → Prop} {Ep : Ex → Env → Prop} {n : Env → Prop} {rt : R → Env → Prop} {bk ct : Env → Prop} {ex : Ex → Env → Prop}
theorem x_raiseF {cn f : Str} {w : WE} : wRaiseF cn f w ⟨n, rt, bk, ct, ex⟩ ρ = w ρ (kK fun d ρ' => ex ⟨cn, [f], [d]⟩ ρ') ex := Eq.trans rfl rfl
theorem x_raise0 {cn : Str} {w : WE} : wRaise0 cn w ⟨n, rt, bk, ct, ex⟩ ρ = w ρ (kK fun _ ρ' => ex ⟨cn, [], []⟩ ρ') ex := Eq.trans rfl rfl
theorem x_err {m j : Nat} {cat : Str → Bool} {wr : WS} {wb : WE} : wErr m j cat wr wb ρ Q Ep = wb ρ (fun _ ρ' => wr ⟨fun _ => Q (.val .non) ρ', fun r _ => valQ Q ρ' r, fun _ => False, fun _ => False, fun _ _ => False⟩ (slotAt m j .non)) (fun x ρ' => cat x.cls = true ∧ wr ⟨fun _ => Q (.val .non) ρ', fun r _ => valQ Q ρ' r, fun _ => False, fun _ => False, fun _ _ => False⟩ (slotAt m j (.exc x.cls x.fs x.xs))) := Eq.trans rfl rfl
theorem valQ_v {d : D} : valQ Q ρ (.val d) = Q (.val d) ρ := Eq.trans rfl rfl
theorem x_xf {okc : Str → Bool} {f : Str} {w : WE} : wXf okc f w ρ Q Ep = wV w ρ (fun r ρ' => pk1 ρ' r fun d => isX okc d ∧ kXf f Q ρ' d) Ep := Eq.trans rfl rfl
theorem isX_e {okc : Str → Bool} {c : Str} {fs : List Str} {ds : List D} : isX okc (.exc c fs ds) = (okc c = true) := Eq.trans rfl rfl
theorem kXf_1 {f c : Str} {d : D} : kXf f Q ρ (.exc c [f] [d]) = Q (.val d) ρ := by
  show (match fldD [f] [d] f with | some x => Q (.val x) ρ | none => False) = _
  simp [fldD]
theorem fE_e {tb : Str → Option Bool} {c : Str} {fs : List Str} {ds : List D} : fE tb (.exc c fs ds) = tb c := Eq.trans rfl rfl
theorem fE_n {tb : Str → Option Bool} : fE tb .non = some false := Eq.trans rfl rfl
theorem x_lm {kk : (R → Env → Prop) → Env → D → D → Prop} {wo w : WE} : wLm kk wo w ρ Q Ep = wV wo ρ (fun r0 ρ0 => pk1 ρ0 r0 fun d0 => isLst d0 ∧ wV w ρ0 (fun r1 ρ1 => pk1 ρ1 r0 fun d0' => pk1 ρ1 r1 fun d1 => kk Q ρ1 d0' d1) Ep) Ep := Eq.trans rfl rfl
theorem isLst_l {ds : List D} : isLst (.lst ds) = True := Eq.trans rfl rfl
theorem kCnt_l {bs : List Bool} {b : Bool} : kCnt Q ρ (.lst (bs.map .bl)) (.bl b) = Q (.val (.int (bs.count b : Nat))) ρ := by
  show (match blsD (bs.map .bl) with | some bs => Q (.val (.int (bs.count b : Nat))) ρ | none => False) = _
  rw [blsD_map]
theorem kIdx_l {bs : List Bool} {b : Bool} : kIdx Q ρ (.lst (bs.map .bl)) (.bl b) = (b ∈ bs ∧ Q (.val (.int (bs.idxOf b : Nat))) ρ) := by
  show (match blsD (bs.map .bl) with | some bs => b ∈ bs ∧ Q (.val (.int (bs.idxOf b : Nat))) ρ | none => False) = _
  rw [blsD_map]
end
theorem gRepr_of {d : D} {p : PyData} {Q : R → Prop} (h : toP d = some p) : gRepr [d] Q = (okP p ∧ Q (.val (.str p.shown))) := by
  unfold gRepr
  simp only [h]
theorem gStr_of {d : D} {p : PyData} {Q : R → Prop} (h : toP d = some p) : gStr [d] Q = (okP p ∧ Q (.val (.str (strT p)))) := by
  unfold gStr
  simp only [h]
end PL
/-! PY15: the law's end for a law that wants no repr under way. -/
namespace PL
open PySem PySem.Spec PyProof.Rows L2 LamX
variable [HasT]
/-- the object of a script, of an empty table -/
abbrev oScr (vs : List Value) : Obj := { cls := .type "list", data := .seq vs.toArray }
abbrev oTab : Obj := { cls := .none, data := .fields #[] }
/-- what is tracked at the law's call: the tables ts, the script at a (but where K holds it) -/
def hLaw (ts : List Addr) (a : Addr) (own : Bool) (vs : List Value) (ns : List Int) : Hp := fun b => if b ∈ ts then some (.tbl #[]) else if own = true ∧ b = a then some (.frz (oScr vs) (.lst (ns.map V.int))) else none
section
variable {ts : List Addr} {a : Addr} {own : Bool} {vs : List Value} {ns : List Int}
theorem hLaw_cases {b : Addr} {u : HO} (h : hLaw ts a own vs ns b = some u) : (b ∈ ts ∧ u = .tbl #[]) ∨ (b ∉ ts ∧ own = true ∧ b = a ∧ u = .frz (oScr vs) (.lst (ns.map V.int))) := by
  unfold hLaw at h
  split at h
  next hb => cases h; exact .inl ⟨hb, rfl⟩
  next hb =>
    split at h
    next hc => cases h; exact .inr ⟨hb, hc.1, hc.2, rfl⟩
    next => cases h
theorem hLaw_tab {b : Addr} (h : b ∈ ts) : hLaw ts a own vs ns b = some (.tbl #[]) := if_pos h
/-- what is neither is not tracked -/
theorem hLaw_free {h : Heap} (hT : ∀ b ∈ ts, h.get? b = some oTab) (ha : h.get? a = some (oScr vs)) {b : Addr} {o : Obj} (e : h.get? b = some o) (n1 : o ≠ oTab) (n2 : own = true → o ≠ oScr vs) : hLaw ts a own vs ns b = none := by
  cases q : hLaw ts a own vs ns b with
  | none => rfl
  | some u =>
    rcases hLaw_cases q with ⟨hb, _⟩ | ⟨_, ho, hb, _⟩
    · rw [hT b hb] at e
      exact absurd (Option.some.inj e).symm n1
    · rw [hb, ha] at e
      exact absurd (Option.some.inj e).symm (n2 ho)
end
theorem ne_tab {o : Obj} {es : Array DictEntry} {ep : Nat} (d : o.data = .dict es ep) : o ≠ oTab := fun z => by
  rw [z] at d
  cases d
theorem ne_scr {o : Obj} {es : Array DictEntry} {ep : Nat} {vs : List Value} (d : o.data = .dict es ep) : o ≠ oScr vs := fun z => by
  rw [z] at d
  cases d
theorem law_callG {P : Program} {w : World} {K : PySem.W.Frag} {mg mb : Str → Option Value} {k : Nat} {fa a : Addr} {cs : List (Addr × Addr)} {fd : FuncData} {x : Str} {fs : FS} {s₁ : Shared} {vs : List Value} {ns : List Int}
    (KX : K.In s₁.heap) (hns : s₁.heap.Ns mainGlobals mg) (hb : s₁.heap.Ns builtinsNs mb) (hbb : ∀ x : Str, x ≠ "__name__" → mb x = bootBuiltins x) (hlim : s₁.heap.NoLimit) (hg : s₁.gens = #[])
    (hT : ∀ p ∈ cs, s₁.heap.get? p.2 = some oTab) (nT : ∀ p ∈ cs, K.lookup p.2 = none) (C : ∀ p ∈ cs, PySem.W.CodeHd s₁.heap p.1 p.2)
    (hbm : ∃ (bm : Addr) (ob : Obj), mg "__builtins__" = some (.ref bm) ∧ bm ≠ builtinsNs ∧ s₁.heap.get? bm = some ob ∧ ob.cls = .type "module" ∧ ob.dict = some builtinsNs ∧ ob.data = .plain)
    (ha : s₁.heap.get? a = some (oScr vs)) (hi : IntsAre vs ns) (hl : ns.length ≤ sizeLine) (hr : Room k callerA)
    (F : ∀ base : Heap, K.In base → base.Ns mainGlobals mg → (∀ p ∈ cs, TabB base mg p.1 p.2) → FnG P w K mg base k fa fd [x] fs) (hbind : ∀ (s : Shared) (u : Value), BindsTo s fd ⟨[u], []⟩ [(x, u)])
    (hsp : ∀ H : Hp, (∀ p ∈ cs, H p.2 = some (.tbl #[])) → SqL K H a (ns.map V.int) → spOf K mg fs 1 [.ref a] H (fun v _ => v = .bl true) fun _ _ _ => False) :
    codeAny (model P w) callerA (.call (.ref fa) ⟨[.ref a], []⟩) (fun r s' => r = .ok (.ret (.bool true)) ∧ OldK s₁.heap s'.heap ∧ s'.os = s₁.os ∧ AllBare s'.gens) s₁ := by
  let ts := cs.map (·.2)
  let own := (K.lookup a).isNone
  let H : Hp := hLaw ts a own vs ns
  have tT : ∀ b ∈ ts, s₁.heap.get? b = some oTab := fun b hb => by
    obtain ⟨p, hp, rfl⟩ := List.mem_map.mp hb
    exact hT p hp
  have ta : a ∉ ts := fun z => by
    have := tT a z
    rw [ha] at this
    exact absurd (congrArg Obj.cls (Option.some.inj this)) (by simp)
  have free : ∀ {b : Addr} {o : Obj}, s₁.heap.get? b = some o → o ≠ oTab → (own = true → o ≠ oScr vs) → (hidT s₁.heap H).get? b = some o := fun e n1 n2 => hidT_get e (hLaw_free tT ha e n1 n2)
  have dic : ∀ {b : Addr} {m : Str → Option Value}, s₁.heap.Ns b m → (hidT s₁.heap H).Ns b m := fun ⟨o, es, ep, e, d, r⟩ => ⟨o, es, ep, free e (ne_tab d) (fun _ => ne_scr d), d, r⟩
  have kin : K.In (hidT s₁.heap H) := fun b o e => by
    refine hidT_get (KX b o e) ?_
    cases q : H b with
    | none => rfl
    | some u =>
      rcases hLaw_cases q with ⟨hb, _⟩ | ⟨_, ho, hb, _⟩
      · obtain ⟨p, hp, rfl⟩ := List.mem_map.mp hb
        rw [nT p hp] at e; cases e
      · rw [hb] at e
        have ho : (K.lookup a).isNone = true := ho
        rw [e] at ho; cases ho
  have sq : SqL K H a (ns.map V.int) := by
    cases q : K.lookup a with
    | none => exact .inl (.inr ⟨oScr vs, by show hLaw ts a own vs ns a = _; unfold hLaw; rw [if_neg ta, if_pos ⟨by show (K.lookup a).isNone = true; rw [q]; rfl, rfl⟩]⟩)
    | some o =>
      have := KX a o q
      rw [ha] at this
      cases this
      exact .inr ⟨oScr vs, vs.toArray, _, q, rfl, rfl, rfl, by rw [List.size_toArray, hi.length]; exact hl, by simpa using vals_ints hi⟩
  have hok : HOk P w H s₁.heap := fun b u e => by
    rcases hLaw_cases e with ⟨hb, rfl⟩ | ⟨_, _, rfl, rfl⟩
    · exact tT b hb
    · exact ⟨ha, by rw [List.length_map]; exact hl, vs, _, vals_ints hi, ha⟩
  have tabs : ∀ p ∈ cs, TabB (hidT s₁.heap H) mg p.1 p.2 := fun p hp => by
    refine ⟨?_, ?_, fun z => ?_⟩
    · obtain ⟨o, us, file, tf, flags, tg, inF, text, tt, e1, r1, r2⟩ := C p hp
      exact ⟨o, us, file, tf, flags, tg, inF, text, tt, free e1 (fun z => by rw [z] at r1; cases r1) (fun _ z => by rw [z] at r1; exact absurd r1 (by simp)), r1, r2⟩
    · obtain ⟨bm, ob, b1, b2, b3, b4, b5, b6⟩ := hbm
      have np : ∀ {es : Array DictEntry} {ep : Nat}, ob.data ≠ .dict es ep := fun z => by rw [b6] at z; cases z
      refine ⟨bm, ob, b1, b2, fun z => ?_, fun z => ?_, free b3 (fun z => by rw [z] at b4; cases b4) (fun _ z => by rw [z] at b4; exact absurd b4 (by simp)), b4, b5, b6⟩
      · obtain ⟨o, es, ep, e, d, _⟩ := hns
        rw [z, e] at b3
        cases b3
        exact np d
      · rw [z, hT p hp] at b3
        cases b3
        cases b4
    · obtain ⟨o, es, ep, e, d, _⟩ := hns
      rw [z, hT p hp] at e
      cases e
      cases d
  have env : Env0 P w K mg (hidT s₁.heap H) callerA [] s₁ H := ⟨rfl, ⟨kin, dic hns, ⟨mb, dic hb, hbb⟩, hlim.elim fun mc h => ⟨mc, dic h.1, h.2⟩⟩, fun b o e => of_hidT e, Nat.le_of_eq (hidT_size _ _), trivial, fun b z => (nomatch (show b ∈ ([] : List Addr) from z)), hok, .of_eq hg⟩
  refine codeAny_mono ((F _ kin (dic hns) tabs).run callerA [] s₁ H ⟨[.ref a], []⟩ [.ref a] [.ref a] _ _ rfl hr env (hbind s₁ (.ref a)) (.cons rfl .nil) (hsp H (fun p hp => hLaw_tab (List.mem_map_of_mem hp)) sq)) fun r s' hq => ?_
  rcases r with e | (_ | _ | _ | u)
  · exact (no_way _ _ _ _ _ _ hq).elim
  · exact hq.elim
  · exact hq.elim
  · exact hq.elim
  · obtain ⟨v, H', os, bare, un, hok', ru, rfl⟩ := hq
    obtain rfl : u = Value.bool true := ru
    have kept : ∀ {b : Addr} {o : Obj}, b ∉ ts → s₁.heap.get? b = some o → s'.heap.get? b = some o := fun {b o} nb e => by
      cases q : H b with
      | none => exact un.keep b o e q (fun z => nomatch (show b ∈ ([] : List Addr) from z)) (fun z => nomatch z)
      | some u =>
        rcases hLaw_cases q with ⟨hb, _⟩ | ⟨_, _, rfl, rfl⟩
        · exact absurd hb nb
        · rw [ha] at e
          cases e
          exact (hok' _ _ (un.frzs _ _ _ q)).1
    refine ⟨rfl, ⟨fun b o e => ?_, fun b o e => ?_⟩, os, bare⟩
    · by_cases hb : b ∈ ts
      · obtain ⟨p, hp, rfl⟩ := List.mem_map.mp hb
        obtain ⟨more, z⟩ := un.tbls p.2 #[] (hLaw_tab hb)
        have z' : s'.heap.get? p.2 = some { cls := .none, data := .fields (#[] ++ more) } := hok' p.2 _ z
        rw [hT p hp] at e
        cases e
        exact .inr (.inl ⟨((C p hp).tab (hT p hp)).isCodeTable, rfl, #[], more, rfl, z'⟩)
      · exact .inl (kept hb e)
    · by_cases hb : b ∈ ts
      · obtain ⟨more, z⟩ := un.tbls b #[] (hLaw_tab hb)
        exact ⟨_, hok' b _ z⟩
      · exact ⟨o, kept hb e⟩
end PL
/-! EN4: facts of the top about error classes: their __init__, isinstance, fields, handlers. -/
namespace PL
open PySem PySem.Spec PyProof.Rows L2
open He (ga ma fAd ba eqO eqO_ok Fa DefD FnW dflB dflB_ok kwdB kwdB_ok glo_ok)
/-- `some true` -/
def oT (o : Option Bool) : Bool := match o with
  | some true => true
  | _ => false
theorem oT_ok {o : Option Bool} (h : oT o = true) : o = some true := by
  unfold oT at h
  split at h
  · rfl
  · cases h
def oF (o : Option Bool) : Bool := match o with
  | some false => true
  | _ => false
theorem oF_ok {o : Option Bool} (h : oF o = true) : o = some false := by
  unfold oF at h
  split at h
  · rfl
  · cases h
/-- the class has the builtin id as m, has no m -/
def hasB (K : PySem.W.Frag) (C : Addr) (m : Str) (id : String) : Bool := match PySem.W.findIn K (.ref C) m with
  | some (some (.builtin i)) => i == id
  | _ => false
theorem hasB_ok {K : PySem.W.Frag} {C : Addr} {m : Str} {id : String} (h : hasB K C m id = true) : PySem.W.findIn K (.ref C) m = some (some (.builtin id)) := by
  unfold hasB at h
  split at h
  next i e => rw [e, beq_iff_eq.mp h]
  next => cases h
def hasN (K : PySem.W.Frag) (C : Addr) (m : Str) : Bool := match PySem.W.findIn K (.ref C) m with
  | some none => true
  | _ => false
theorem hasN_ok {K : PySem.W.Frag} {C : Addr} {m : Str} (h : hasN K C m = true) : PySem.W.findIn K (.ref C) m = some none := by
  unfold hasN at h
  split at h
  · assumption
  · cases h
def tyT (K : PySem.W.Frag) (v : Value) (n : String) : Bool := match PySem.W.typeIn K v with
  | some (.type t) => t == n
  | _ => false
theorem tyT_ok {K : PySem.W.Frag} {v : Value} {n : String} (h : tyT K v n = true) : PySem.W.typeIn K v = some (.type n) := by
  unfold tyT at h
  split at h
  next i e => rw [e, beq_iff_eq.mp h]
  next => cases h
/-- the class at C as a class of errors that hold a dict -/
def oexB (K : PySem.W.Frag) (C : Addr) : Bool := (match K.lookup C with
  | some ⟨.type "type", _, .cls cd, sl⟩ => (match cd.mro, sl.toList with
    | .ref C' :: bm, [_, _, _, _, some (.builtin n), _] => C' == C && n == "ValueError.__new__" && !cd.hasDel && cd.hasDict && PySem.HandSPX.refsVE bm
    | _, _ => false)
  | _ => false) && hasB K C "__setattr__" "object.__setattr__" && oT (PySem.W.subIn K (.ref C) (.type "BaseException")) && tyT K (.ref C) "type" && PySem.W.keepIn K (.ref C)
theorem oexB_ok {K : PySem.W.Frag} {C : Addr} (h : oexB K C = true) : OexC K C := by
  unfold oexB at h
  simp only [Bool.and_eq_true] at h
  obtain ⟨⟨⟨⟨q, h1⟩, h2⟩, h3⟩, h4⟩ := h
  refine ⟨?_, hasB_ok h1, oT_ok h2, tyT_ok h3, h4⟩
  split at q
  · rename_i dd cd sl ho
    split at q
    · rename_i C' bm k0 k1 k2 k3 n k5 hm hs
      simp only [Bool.and_eq_true, beq_iff_eq, Bool.not_eq_true'] at q
      obtain ⟨⟨⟨⟨rfl, rfl⟩, hdel⟩, hdic⟩, hve⟩ := q
      obtain ⟨nm, bs, mro, ns, qn, hd, sn, sub, ab, col, del⟩ := cd
      dsimp only at hm hdel hdic
      subst hm hdel hdic
      obtain ⟨l⟩ := sl
      simp only at hs
      subst hs
      exact ⟨_, _, _, _, _, _, _, _, _, _, _, _, _, _, _, ho, hve⟩
    · cases q
  · cases q
/-- the class at C as isinstance looks at its errors -/
def excB (K : PySem.W.Frag) (C : Addr) : Bool := hasB K C "__getattribute__" "BaseException.__getattribute__" && hasN K C "__getattr__" && oT (PySem.W.subIn K (.ref C) (.type "BaseException")) && PySem.W.hasDictIn K C && hasB K C "__class__" "object.__class__" &&
  (match PySem.W.specialIn K (.builtin "object.__class__") "__get__" with
  | some (some (.builtin i)) => i == "getset_descriptor.__get__"
  | _ => false) && oT (PySem.W.takesIn K (.builtin "object.__class__")) && oT (PySem.W.mroIn K C (.type "object"))
theorem excB_ok {K : PySem.W.Frag} {C : Addr} (h : excB K C = true) : ExcC K C := by
  unfold excB at h
  simp only [Bool.and_eq_true] at h
  obtain ⟨⟨⟨⟨⟨⟨⟨h1, h2⟩, h3⟩, h4⟩, h5⟩, h6⟩, h7⟩, h8⟩ := h
  refine ⟨hasB_ok h1, hasN_ok h2, oT_ok h3, h4, hasB_ok h5, ?_, oT_ok h7, oT_ok h8⟩
  split at h6
  next i e => rw [e, beq_iff_eq.mp h6]
  next => cases h6
/-- the names are classes of the module -/
def gloAll (all : List Str) (K : PySem.W.Frag) : Bool := all.all fun cn => (Fa.glo cn).ok K
def excAll (all : List Str) (K : PySem.W.Frag) : Bool := all.all fun cn => excB K (ga K cn)
def xisB (all yes : List Str) (u : PySem.W.Frag → Value) (K : PySem.W.Frag) : Bool := (all.all fun cn => match PySem.W.kitOne K (.ref (ga K cn)) (u K) with
  | some b => b == yes.contains cn
  | none => false) && oF (PySem.W.kitOne K (.type "NoneType") (u K))
section
variable {K : PySem.W.Frag} {h : Heap} {mg : Str → Option Value} {all yes : List Str}
theorem gloAll_ok (X : K.In h) (G : h.Ns mainGlobals mg) (c : gloAll all K = true) {cn : Str} (hc : all.contains cn = true) : mg cn = some (.ref (ga K cn)) :=
  glo_ok X G (List.all_eq_true.mp c cn (by simpa using hc))
theorem xisB_ok {u : PySem.W.Frag → Value} (X : K.In h) (G : h.Ns mainGlobals mg) (c : gloAll all K = true) (c2 : excAll all K = true) (c3 : xisB all yes u K = true) : XIs K mg (u K) (tbOf all yes) := by
  obtain ⟨h1, h2⟩ := ba c3
  refine ⟨fun cn D b e hm => ?_, oF_ok h2⟩
  unfold tbOf at e
  split at e
  next hc =>
    cases e
    have e2 := gloAll_ok X G c hc
    rw [hm] at e2
    cases e2
    refine ⟨excB_ok (List.all_eq_true.mp c2 cn (by simpa using hc)), ?_⟩
    have := List.all_eq_true.mp h1 cn (by simpa using hc)
    split at this
    next b' e3 => rw [e3, beq_iff_eq.mp this]
    next => cases this
  next => cases e
def xfAll (cls : List Str) (f : Str) (K : PySem.W.Frag) : Bool := cls.all fun cn => xfB K (ga K cn) && hasN K (ga K cn) f
theorem xfAll_ok {cls : List Str} {f : Str} {okc : Str → Bool} (ho : ∀ c, okc c = cls.contains c) (hs : ∀ c, cls.contains c = true → all.contains c = true) (X : K.In h) (G : h.Ns mainGlobals mg) (c : gloAll all K = true) (c2 : xfAll cls f K = true) :
    ∀ cn C, okc cn = true → mg cn = some (.ref C) → XfC K C ∧ PySem.W.findIn K (.ref C) f = some none := fun cn C e hm => by
  rw [ho] at e
  have e2 := gloAll_ok X G c (hs _ e)
  rw [hm] at e2
  cases e2
  obtain ⟨q1, q2⟩ := ba (List.all_eq_true.mp c2 cn (by simpa using e))
  exact ⟨xfB_ok q1, hasN_ok q2⟩
def exmB (all : List Str) (e : Str) (K : PySem.W.Frag) : Bool := all.all fun cn => oT (PySem.W.exmOne K (.ref (ga K cn)) (.ref (ga K e)))
theorem exmB_ok {e : Str} {cat : Str → Bool} (hc : ∀ c, cat c = all.contains c) (X : K.In h) (G : h.Ns mainGlobals mg) (c : gloAll all K = true) (c1 : (Fa.glo e).ok K = true) (c2 : exmB all e K = true) : ExmAt K mg e (ga K e) cat := by
  refine ⟨glo_ok X G c1, fun cn C k hm => ?_⟩
  rw [hc] at k
  have e2 := gloAll_ok X G c k
  rw [hm] at e2
  cases e2
  exact oT_ok (List.all_eq_true.mp c2 cn (by simpa using k))
def xcl0B (cn : Str) (K : PySem.W.Frag) : Bool := PySem.W.keepIn K (.ref (ga K cn)) && PySem.W.excIn K (ga K cn) veT "ValueError.__new__" && oT (PySem.W.subIn K (.ref (ga K cn)) (.type "BaseException")) && tyT K (.ref (ga K cn)) "type"
theorem xcl0B_ok {cn : Str} (X : K.In h) (G : h.Ns mainGlobals mg) (c1 : (Fa.glo cn).ok K = true) (c2 : xcl0B cn K = true) : XCl0 K mg cn (ga K cn) := by
  unfold xcl0B at c2
  simp only [Bool.and_eq_true] at c2
  obtain ⟨⟨⟨h1, h2⟩, h3⟩, h4⟩ := c2
  exact ⟨glo_ok X G c1, h1, h2, oT_ok h3, tyT_ok h4⟩
/-- the class cn and its __init__ at fI, that stores f; FILE: the file of its code -/
def xclFB (cn f FILE : Str) (K : PySem.W.Frag) : Bool := oexB K (ga K cn) && hasN K (ga K cn) f && (match PySem.W.ks_superIn K (ga K cn) (ga K cn) "__init__" with
  | some (some (.builtin i)) => i == "ValueError.__init__"
  | _ => false) && oT (PySem.W.mroIn K (ga K cn) (.ref (ga K cn))) && oT (PySem.W.subIn K (.ref (ga K cn)) (.type "ValueError")) && (match PySem.W.nsIn K cStatics "thirdparty.any" with
  | some none => true
  | _ => false) && PySem.W.excInitIn K (ga K cn) veT "ValueError.__new__" && tyT K (.ref (fAd K (cn, some "__init__"))) "function" && (match PySem.W.findIn K (.ref (ga K cn)) "__init__" with
  | some (some (.ref a)) => a == fAd K (cn, some "__init__")
  | _ => false) && (match K.lookup (fAd K (cn, some "__init__")) with
  | some ⟨_, _, .func fd, _⟩ => (match fd.closure, fd.code with
    | [(_, cc)], .ref cda => (match K.lookup cc with
      | some ⟨_, _, .cell (some (.ref a)), _⟩ => a == ga K cn
      | _ => false) && (match K.lookup cda with
      | some ⟨_, _, .fields vs, _⟩ => (match (vs[2]? : Option Value) with
        | some (Value.str file _) => FILE == file
        | _ => false)
      | _ => false)
    | _, _ => false)
  | _ => false)
theorem cell_of {K : PySem.W.Frag} {cc C : Addr} (h : (match K.lookup cc with
      | some ⟨_, _, .cell (some (.ref a)), _⟩ => a == C
      | _ => false) = true) : ∃ (cl : Value) (cld : Option Addr) (csl : Array (Option Value)), K.lookup cc = some ⟨cl, cld, .cell (some (.ref C)), csl⟩ := by
  split at h
  next a _ e => rw [beq_iff_eq.mp h] at e; exact ⟨_, _, _, e⟩
  next => cases h
theorem file_of {K : PySem.W.Frag} {cda : Addr} {FILE : Str} (h : (match K.lookup cda with
      | some ⟨_, _, .fields vs, _⟩ => (match (vs[2]? : Option Value) with
        | some (Value.str file _) => FILE == file
        | _ => false)
      | _ => false) = true) : ∃ (ccl : Value) (cdd : Option Addr) (vs : Array Value) (ccs : Array (Option Value)) (file : Str) (tf : Tok), K.lookup cda = some ⟨ccl, cdd, .fields vs, ccs⟩ ∧ vs[2]? = some (.str file tf) ∧ (FILE == file) = true := by
  split at h
  next vs _ e =>
    split at h
    next file tf e2 => exact ⟨_, _, _, _, _, _, e, e2, h⟩
    next => cases h
  next => cases h
/-- a class of errors whose __init__ stores one field -/
theorem xclF_of {P : Program} {fa : List FaX} {fn : List DefY} {tf : List He.Defn} {cn m f p qual : Str} {params : Arguments} {sc : PySem.Scope} {j : Nat} {p1 p2 p3 p4 p5 p6 q1 q2 q3 q4 : Pos} {pl : Sem Bool}
    (X : K.In h) (G : h.Ns mainGlobals mg) (c : SaysY fa fn tf h K) (c1 : (Fa.glo cn).ok K = true) (c2 : xclFB cn f P.main.file K = true) (c3 : mg "super" = none) (i : Nat) {d : DefY} (hi : fn[i]? = some d) (hd : d = ⟨fun K => fAd K (cn, some "__init__"), ⟨(cn, some "__init__"), "__init__", qual, params, iniB m f p j p1 p2 p3 p4 p5 p6 q1 q2 q3 q4, sc, [], []⟩, ["__class__"]⟩)
    (htop : (P.main.scope.names.lookup ("super" : Str)).isSome = false) (S : IniS p sc) (E : IniE m f p j p1 p2 p3 p4 p5 p6 q1 q2 q3 q4 pl) (har : ∃ ar, (params.posonlyargs ++ params.args).head? = some ar ∧ ar.arg = ("self" : Str))
    (b1 : ∀ (kV doc pm : Value) (an : Option Addr) (cdv ct : Value) (cc : Addr) (x y : Value), bindArgs (PySem.W.ksFn "__init__" qual params (iniB m f p j p1 p2 p3 p4 p5 p6 q1 q2 q3 q4) sc .none kV doc pm an cdv ct cc) ⟨[x, y], []⟩ = pure [(("self" : Str), x), (p, y)])
    (b2 : ∀ (kV doc pm : Value) (an : Option Addr) (cdv ct : Value) (cc : Addr) (x y : Value), bindArgs (PySem.W.ksFn "__init__" qual params (iniB m f p j p1 p2 p3 p4 p5 p6 q1 q2 q3 q4) sc .none kV doc pm an cdv ct cc) ⟨[x], [(p, y)]⟩ = pure [(("self" : Str), x), (p, y)]) :
    ∃ fd, XClF K mg P cn f p (ga K cn) (fAd K (cn, some "__init__")) fd ∧ KAt K fd ["self", p] 1 [p] [0, 1] := by
  have ok := List.all_eq_true.mp (ba (show ((fa.all fun f => f K) && fn.all fun d => d.ok K) = true from congrArg (fun z : He.AlD => z.1) c.t)).2 d (List.mem_of_getElem? hi)
  have e : fn.map (fun d => fnY K (d.p K)) = fn.map DefY.val := congrArg (fun z : He.AlD => z.2) c.t
  have e2 : (fn.map fun d => fnY K (d.p K))[i]? = (fn.map DefY.val)[i]? := by rw [e]
  rw [List.getElem?_map, List.getElem?_map, hi] at e2
  have e3 := Option.some.inj e2
  subst hd
  unfold xclFB at c2
  simp only [Bool.and_eq_true] at c2
  obtain ⟨⟨⟨⟨⟨⟨⟨⟨⟨x1, x2⟩, x3⟩, x4⟩, x5⟩, x6⟩, x7⟩, x8⟩, x9⟩, x10⟩ := c2
  obtain ⟨kp, ok2⟩ := ba ok
  dsimp only at e3 ok2
  unfold fnY at e3
  cases q : K.lookup (fAd K (cn, some "__init__")) with
  | none => rw [q] at ok2; cases ok2
  | some o =>
    obtain ⟨oc, od, dt, osl⟩ := o
    rw [q] at ok2 e3 x10
    cases dt with
    | func fd =>
      obtain ⟨n1, n2, n3, n4, n5, n6, n7, n8, n9, n10, n11, n12, n13, n14, n15⟩ := fd
      have e4 : (some (n1, n2, n3, n4, n5, n6, n7.map (fun q => (q.1, 0)), n15) : FnW) = (some (("__init__" : Str), qual, params, .stmts (iniB m f p j p1 p2 p3 p4 p5 p6 q1 q2 q3 q4), sc, mainGlobals, [(("__class__" : Str), 0)], builtinsNs) : FnW) := e3
      simp only [Option.some.injEq, Prod.mk.injEq] at e4
      obtain ⟨h1, h2, h3, h4, h5, h6, h7, h8⟩ := e4
      subst h1 h2 h3 h4 h5 h6 h8
      have ok3 : (PySem.W.codeIn K n13 n2 && (dflB K n8 [] && kwdB K n9 [])) = true := ok2
      obtain ⟨k1, k2⟩ := ba ok3
      obtain ⟨k3, k4⟩ := ba k2
      have hdv : n8 = .none := by
        rcases dflB_ok k3 with ⟨_, z⟩ | ⟨z, _⟩
        · exact z
        · exact absurd rfl z
      subst hdv
      match n7, h7, x10 with
      | [(y, cc)], h7, x10 =>
        have hy : y = "__class__" := by simpa using h7
        subst hy
        obtain ⟨cda, rfl⟩ := He.codeIn_ref k1
        obtain ⟨z1, z2⟩ := ba x10
        have hini : PySem.W.findIn K (.ref (ga K cn)) "__init__" = some (some (.ref (fAd K (cn, some "__init__")))) := by
          split at x9
          next a e5 => rw [e5, beq_iff_eq.mp x9]
          next => cases x9
        have hsup : PySem.W.ks_superIn K (ga K cn) (ga K cn) "__init__" = some (some (.builtin "ValueError.__init__")) := by
          split at x3
          next a e5 => rw [e5, beq_iff_eq.mp x3]
          next => cases x3
        have hth : PySem.W.nsIn K cStatics "thirdparty.any" = some none := by
          split at x6
          · assumption
          · cases x6
        refine ⟨_, ⟨glo_ok X G c1, ⟨oexB_ok x1, hasN_ok x2, hsup, oT_ok x4, oT_ok x5, hth, x7, htop, oc, od, .none, n9, n10, n11, n14, n12, cda, cc, osl, n2, m, n3, n5, j, p1, p2, p3, p4, p5, p6, q1, q2, q3, q4, pl, rfl, q, k1, har, file_of z2, cell_of z1, S, E⟩, hini, tyT_ok x8, ?_, c3⟩, ⟨fun s us ws l1 l2 => ?_⟩⟩
        · refine Binds.all fun us hl => ?_
          match us, hl with
          | [x, y], _ => exact b1 _ _ _ _ _ _ _ x y
        · match us, ws, l1, l2 with
          | [x], [y], _, _ => exact .of_eq (b2 _ _ _ _ _ _ _ x y)
    | _ => cases ok2
end
/-! ### the end -/
/-- the law's promise at the head's heap, where no repr is under way -/
def LawAtG (T : HasT) (P : Program) (w : World) (K : PySem.W.Frag) (k n : Nat) (x : Str) (mg : Str → Option Value) (fa : Addr) (h : Heap) : Prop :=
  ∃ (fd : FuncData) (cs : List (Addr × Addr)) (fs : FS), (∀ p ∈ cs, h.get? p.2 = some oTab) ∧ (∀ p ∈ cs, K.lookup p.2 = none) ∧ (∀ p ∈ cs, PySem.W.CodeHd h p.1 p.2) ∧ (∀ (s : Shared) (u : Value), BindsTo s fd ⟨[u], []⟩ [(x, u)]) ∧
    (∀ (H : Hp) (a : Addr) (ns : List Int), ns.length ≤ n → (∀ p ∈ cs, H p.2 = some (.tbl #[])) → SqL K H a (ns.map V.int) → @spOf T K mg fs 1 [.ref a] H (fun v _ => v = .bl true) fun _ _ _ => False) ∧
    ∀ base : Heap, K.In base → base.Ns mainGlobals mg → (∀ p ∈ cs, LamX.TabB base mg p.1 p.2) → @FnG T P w K mg base k fa fd [x] fs
theorem walk_ofG {l : PySem.W.OpenLaw} {n k : Nat} {q : Program} {loose : List Str} {XP : (Str → Option Value) → Heap → Prop} {YP : World → Heap → Prop} {d : DefRec} {x : Str}
    (hn : l.most = some n) (hn2 : n ≤ sizeLine) (hdf : d.params.defaults = []) (hr : Room k callerA)
    (F : ∀ (w : World) (mg : Str → Option Value) (fa : Addr) (h : Heap), YP w h → h.Ns mainGlobals mg → mg d.name = some (.ref fa) → ∃ (T : HasT) (K : PySem.W.Frag), K.In h ∧ LawAtG T l.prog w K k n x mg fa h) :
    PySem.W.WalkO q loose XP YP l.row.toRowW d [] (fun f vs => PySem.call f vs) := by
  refine Att.attach_callB hn hdf fun w s₀ s₁ mg mb fa o pm cd doc a vs ns G Y ho hd hcd hmg hobj hints hlen hbits hg => ?_
  obtain ⟨T, K, KX, fd, cs, fs, h1, h2, h3, h4, h5, h6⟩ := F w mg fa _ Y G.T.g hmg
  exact @law_callG T l.prog w K mg mb k fa a cs fd x fs s₁ vs ns KX G.T.g G.T.b G.T.builtins G.T.nolimit hg h1 h2 h3 G.T.bmain hobj hints (Nat.le_trans hlen hn2) hr h6 h4 fun H => h5 H a ns hlen
open He (cT) in
theorem lawAtGY {T : HasT} {P : Program} {w : World} {K : PySem.W.Frag} {k n : Nat} {x : Str} {mg : Str → Option Value} {fa : List FaX} {fn : List DefY} {tf : List He.Defn} {f : Addr} {h : Heap} {fd : FuncData} {fs : FS} (X : K.In h) (c : SaysY fa fn tf h K)
    (hb : ∀ (s : Shared) (u : Value), BindsTo s fd ⟨[u], []⟩ [(x, u)])
    (hsp : ∀ (H : Hp) (a : Addr) (ns : List Int), ns.length ≤ n → (∀ p ∈ tf, H (cT K p).2 = some (.tbl #[])) → SqL K H a (ns.map V.int) → @spOf T K mg fs 1 [.ref a] H (fun v _ => v = .bl true) fun _ _ _ => False)
    (hF : ∀ base : Heap, K.In base → base.Ns mainGlobals mg → (∀ p ∈ tf, LamX.TabB base mg (cT K p).1 (cT K p).2) → @FnG T P w K mg base k f fd [x] fs) : LawAtG T P w K k n x mg f h := by
  have to : ∀ {Z : Addr × Addr → Prop}, (∀ p ∈ tf, Z (cT K p)) → ∀ q ∈ tf.map (cT K), Z q := fun hz q hq => by
    obtain ⟨p, hp, rfl⟩ := List.mem_map.mp hq
    exact hz p hp
  have off : ∀ {Z : Addr × Addr → Prop}, (∀ q ∈ tf.map (cT K), Z q) → ∀ p ∈ tf, Z (cT K p) := fun hz p hp => hz _ (List.mem_map_of_mem hp)
  exact ⟨fd, tf.map (cT K), fs, to c.empty, to c.out, to fun p hp => PySem.W.codeHd_of_K X (c.hd p hp), hb, fun H a ns hl hT => hsp H a ns hl (off (Z := fun q => H q.2 = some (.tbl #[])) hT), fun base KX G hT => hF base KX G (off (Z := fun q => LamX.TabB base mg q.1 q.2) hT)⟩
end PL
namespace PL
open PySem PySem.Spec PyProof.Rows L2
def top (i : Nat) : Stmt := PySem.Challenge.pw_wardgates_k01_errors_by_class.main.body.getD i (.Pass ⟨0, 0, 0, 0⟩)
abbrev s__law_take : Stmt := top 15
abbrev s__law_begin : Stmt := top 14
abbrev s__law_caught : Stmt := top 17
abbrev s_X_InvalidText : Stmt := inClass (top 12) 0
abbrev s_X_NoBlocks : Stmt := inClass (top 2) 0
abbrev s_X_NoGate : Stmt := inClass (top 5) 0
abbrev s_X_NoMove : Stmt := inClass (top 7) 0
abbrev s_X_NoNet : Stmt := inClass (top 3) 0
abbrev s_X_NoOperation : Stmt := inClass (top 9) 0
abbrev s_X_NoRules : Stmt := inClass (top 8) 0
abbrev s_X_NoZone : Stmt := inClass (top 4) 0
abbrev s_X_TooMany : Stmt := inClass (top 11) 0
abbrev s__law_pick : Stmt := top 16
abbrev s__law_raised : Stmt := top 18
abbrev s__law_field : Stmt := top 19
abbrev s_law : Stmt := top 20
def exA : List Str := ["NoBlocks", "NoMove", "NoRules", "NoOperation", "NoZone", "NoGate", "NoNet", "TooMany", "InvalidText", "NoPackets", "NothingLeft"]
end PL
namespace PL
open PySem PySem.Spec PyProof.Rows L2
def dd__law_begin : DefY := ⟨fun K => He.fAd K ("_law_begin", none), ⟨("_law_begin", none), "_law_begin", "_law_begin", defArgs s__law_begin, defBody s__law_begin, defScope s__law_begin, [], []⟩, []⟩
def dd__law_take : DefY := ⟨fun K => He.fAd K ("_law_take", none), ⟨("_law_take", none), "_law_take", "_law_take", defArgs s__law_take, defBody s__law_take, defScope s__law_take, [], []⟩, []⟩
def dd__law_caught : DefY := ⟨fun K => He.fAd K ("_law_caught", none), ⟨("_law_caught", none), "_law_caught", "_law_caught", defArgs s__law_caught, defBody s__law_caught, defScope s__law_caught, [], []⟩, []⟩
def dd__law_pick : DefY := ⟨fun K => He.fAd K ("_law_pick", none), ⟨("_law_pick", none), "_law_pick", "_law_pick", defArgs s__law_pick, defBody s__law_pick, defScope s__law_pick, [], []⟩, []⟩
def dd__law_raised : DefY := ⟨fun K => He.fAd K ("_law_raised", none), ⟨("_law_raised", none), "_law_raised", "_law_raised", defArgs s__law_raised, defBody s__law_raised, defScope s__law_raised, [], []⟩, []⟩
def dd__law_field : DefY := ⟨fun K => He.fAd K ("_law_field", none), ⟨("_law_field", none), "_law_field", "_law_field", defArgs s__law_field, defBody s__law_field, defScope s__law_field, [], []⟩, []⟩
def dd_law : DefY := ⟨fun K => He.fAd K ("law", none), ⟨("law", none), "law", "law", defArgs s_law, defBody s_law, defScope s_law, [], []⟩, []⟩
def dd_X_InvalidText : DefY := ⟨fun K => He.fAd K ("InvalidText", some "__init__"), ⟨("InvalidText", some "__init__"), "__init__", "InvalidText.__init__", defArgs s_X_InvalidText, defBody s_X_InvalidText, defScope s_X_InvalidText, [], []⟩, ["__class__"]⟩
def dd_X_NoBlocks : DefY := ⟨fun K => He.fAd K ("NoBlocks", some "__init__"), ⟨("NoBlocks", some "__init__"), "__init__", "NoBlocks.__init__", defArgs s_X_NoBlocks, defBody s_X_NoBlocks, defScope s_X_NoBlocks, [], []⟩, ["__class__"]⟩
def dd_X_NoGate : DefY := ⟨fun K => He.fAd K ("NoGate", some "__init__"), ⟨("NoGate", some "__init__"), "__init__", "NoGate.__init__", defArgs s_X_NoGate, defBody s_X_NoGate, defScope s_X_NoGate, [], []⟩, ["__class__"]⟩
def dd_X_NoMove : DefY := ⟨fun K => He.fAd K ("NoMove", some "__init__"), ⟨("NoMove", some "__init__"), "__init__", "NoMove.__init__", defArgs s_X_NoMove, defBody s_X_NoMove, defScope s_X_NoMove, [], []⟩, ["__class__"]⟩
def dd_X_NoNet : DefY := ⟨fun K => He.fAd K ("NoNet", some "__init__"), ⟨("NoNet", some "__init__"), "__init__", "NoNet.__init__", defArgs s_X_NoNet, defBody s_X_NoNet, defScope s_X_NoNet, [], []⟩, ["__class__"]⟩
def dd_X_NoOperation : DefY := ⟨fun K => He.fAd K ("NoOperation", some "__init__"), ⟨("NoOperation", some "__init__"), "__init__", "NoOperation.__init__", defArgs s_X_NoOperation, defBody s_X_NoOperation, defScope s_X_NoOperation, [], []⟩, ["__class__"]⟩
def dd_X_NoRules : DefY := ⟨fun K => He.fAd K ("NoRules", some "__init__"), ⟨("NoRules", some "__init__"), "__init__", "NoRules.__init__", defArgs s_X_NoRules, defBody s_X_NoRules, defScope s_X_NoRules, [], []⟩, ["__class__"]⟩
def dd_X_NoZone : DefY := ⟨fun K => He.fAd K ("NoZone", some "__init__"), ⟨("NoZone", some "__init__"), "__init__", "NoZone.__init__", defArgs s_X_NoZone, defBody s_X_NoZone, defScope s_X_NoZone, [], []⟩, ["__class__"]⟩
def dd_X_TooMany : DefY := ⟨fun K => He.fAd K ("TooMany", some "__init__"), ⟨("TooMany", some "__init__"), "__init__", "TooMany.__init__", defArgs s_X_TooMany, defBody s_X_TooMany, defScope s_X_TooMany, [], []⟩, ["__class__"]⟩
def tfA : List He.Defn := [("law", none)]
def fnA0 : List DefY := [dd__law_begin, dd__law_take, dd__law_caught, dd__law_pick, dd__law_raised, dd__law_field, dd_law, dd_X_InvalidText, dd_X_NoBlocks, dd_X_NoGate, dd_X_NoMove, dd_X_NoNet, dd_X_NoOperation, dd_X_NoRules, dd_X_NoZone, dd_X_TooMany]
def fnA : List DefY := fnA0
def fileA : PySem.Str := "/claim/cut.py"
def faA0 : List FaX := [(fun K => (He.Fa.free "ValueError").ok K),
  (fun K => (He.Fa.free "abs").ok K),
  (fun K => (He.Fa.free "divmod").ok K),
  (fun K => (He.Fa.free "enumerate").ok K),
  (fun K => (He.Fa.free "int").ok K),
  (fun K => (He.Fa.free "isinstance").ok K),
  (fun K => (He.Fa.free "len").ok K),
  (fun K => (He.Fa.free "list").ok K),
  (fun K => (He.Fa.free "min").ok K),
  (fun K => (He.Fa.free "range").ok K),
  (fun K => (He.Fa.free "repr").ok K),
  (fun K => (He.Fa.free "str").ok K),
  (fun K => (He.Fa.glo "_law_begin").ok K),
  (fun K => (He.Fa.glo "_law_take").ok K),
  (fun K => (He.Fa.glo "_law_caught").ok K),
  (fun K => (He.Fa.glo "_law_pick").ok K),
  (fun K => (He.Fa.glo "_law_raised").ok K),
  (fun K => (He.Fa.glo "_law_field").ok K),
  (fun K => (He.Fa.glo "law").ok K),
  (fun K => (He.Fa.free "super").ok K),
  gloAll exA,
  excAll exA,
  (fun K => (He.Fa.glo "GateError").ok K),
  (exmB exA "GateError"),
  (fun K => (He.Fa.glo "InvalidText").ok K),
  (xclFB "InvalidText" "line" fileA),
  (fun K => (He.Fa.glo "NoBlocks").ok K),
  (xclFB "NoBlocks" "index" fileA),
  (fun K => (He.Fa.glo "NoGate").ok K),
  (xclFB "NoGate" "name" fileA),
  (fun K => (He.Fa.glo "NoMove").ok K),
  (xclFB "NoMove" "index" fileA),
  (fun K => (He.Fa.glo "NoNet").ok K),
  (xclFB "NoNet" "part" fileA),
  (fun K => (He.Fa.glo "NoOperation").ok K),
  (xclFB "NoOperation" "index" fileA),
  (fun K => (He.Fa.glo "NoPackets").ok K),
  (xcl0B "NoPackets"),
  (fun K => (He.Fa.glo "NoRules").ok K),
  (xclFB "NoRules" "index" fileA),
  (fun K => (He.Fa.glo "NoZone").ok K),
  (xclFB "NoZone" "name" fileA),
  (fun K => (He.Fa.glo "NothingLeft").ok K),
  (xcl0B "NothingLeft"),
  (fun K => (He.Fa.glo "TooMany").ok K),
  (xclFB "TooMany" "most" fileA),
  (xfAll ["NoBlocks", "NoMove", "NoRules", "NoOperation"] "index"),
  (xfAll ["InvalidText"] "line"),
  (xfAll ["TooMany"] "most"),
  (xfAll ["NoZone", "NoGate"] "name"),
  (xfAll ["NoNet"] "part"),
  (xisB exA ["InvalidText"] (fun K => .ref (He.ga K "InvalidText"))),
  (xisB exA ["NoBlocks"] (fun K => .ref (He.ga K "NoBlocks"))),
  (xisB exA ["NoGate"] (fun K => .ref (He.ga K "NoGate"))),
  (xisB exA ["NoMove"] (fun K => .ref (He.ga K "NoMove"))),
  (xisB exA ["NoNet"] (fun K => .ref (He.ga K "NoNet"))),
  (xisB exA ["NoOperation"] (fun K => .ref (He.ga K "NoOperation"))),
  (xisB exA ["NoPackets"] (fun K => .ref (He.ga K "NoPackets"))),
  (xisB exA ["NoRules"] (fun K => .ref (He.ga K "NoRules"))),
  (xisB exA ["NoZone"] (fun K => .ref (He.ga K "NoZone"))),
  (xisB exA ["NothingLeft"] (fun K => .ref (He.ga K "NothingLeft"))),
  (xisB exA ["TooMany"] (fun K => .ref (He.ga K "TooMany"))),
  (xisB exA exA (fun _ => .type "ValueError"))]
def faA : List FaX := faA0
abbrev RowA : PySem.W.OpenRow := PySem.W.OpenLaw.row PySem.Challenge.rw_wardgates_k01_errors_by_class
abbrev hk : PySem.W.Hook := hookY 6 faA fnA tfA
def obA (s : PySem.W.SharedT) : AlY := obsYG 6 faA fnA tfA (HandSHeadRun.getT s)
theorem obA_eq (s : PySem.W.SharedT) : obA s = hk.obs s.abs := obsYG_eq (HandSHeadRun.getT_eq s)
def names0 : List PySem.Str := ["GateError", "NoBlocks", "NoNet", "NoZone", "NoGate", "NoPackets", "NoMove", "NoRules", "NoOperation", "NothingLeft", "TooMany", "InvalidText", "_law_begin", "_law_take", "_law_pick", "_law_caught", "_law_raised", "_law_field"]
def namesA : List PySem.Str := names0
noncomputable abbrev EX (w : World) (os : PySem.OsState) : Option PySem.W.SharedT := HandSHeadRun.endF (HandSHeadRun.stepQ (HandSHeadRun.denQ HandSHeadRun.tabQ) RowA.prog w) 20000 RowA.prog w os
abbrev QV : Program := PySem.W.view RowA.prog [20]
theorem run_l (w : World) (os : PySem.OsState) : (EX w os).map (fun s => HandSHeadRun.looksF RowA.prog (PySem.W.boot_heap w.params) s.abs) = some true := by kernel_rfl
theorem run_s (w : World) (os : PySem.OsState) : (EX w os).map (fun s => HandSHeadRun.seenQ QV namesA (importedModules RowA.prog.main.body) (fun s => PySem.W.xlAt QV [] s && PySem.W.recOk RowA.toRowW.records s) s.abs) = some (PySem.W.openGood QV namesA) := by kernel_rfl
theorem run_t (w : World) (os : PySem.OsState) : (EX w os).map (fun s => He.tabsB (HandSHeadRun.getT s) tfA (KT s)) = some true := by kernel_rfl
theorem run_f0 (w : World) (os : PySem.OsState) : (EX w os).map (faOk faA0) = some true := by kernel_rfl
theorem run_k0 (w : World) (os : PySem.OsState) : (EX w os).map (fnOk fnA0) = some true := by kernel_rfl
theorem run_v0 (w : World) (os : PySem.OsState) : (EX w os).map (fnVs fnA0) = some (fnA0.map DefY.val) := by kernel_rfl
theorem run (w : World) : HandSHeadRun.RunEq RowA QV hk obA 20000 namesA w := fun os =>
  run_split (run_l w os) (run_s w os) (run_f0 w os) (run_k0 w os) (run_v0 w os) (run_t w os)
end PL
/-! PK1: packets.py over pure data: ranges, blocks, what each def promises. -/
namespace PL
open PySem PySem.Spec PyProof.Rows L2
variable [HasT]
abbrev Rg := Int × Int
def rgD (r : Rg) : D := .tup [.int r.1, .int r.2]
structure Bk where
  k : Str
  rs : List Rg
def bD (b : Bk) : D := .tup (.str b.k :: b.rs.map rgD)
structure Pk where
  k : Str
  a : Int
  b : Int
  c : Int
  d : Int
def pkD (p : Pk) : D := .tup [.str p.k, .tup [.int p.a, .int p.b], .tup [.int p.c, .int p.d]]
def Pk.ns (p : Pk) : List Int := [p.a, p.b, p.c, p.d]
def letters : Str := "abcdefghijklmnopqrstuvwxyz"
def nameOk (x : Str) : Prop := 1 ≤ x.length ∧ x.length ≤ 6 ∧ ∀ c ∈ x.cps.toList, c ∈ letters.cps.toList
def numOk (n : Int) : Prop := 0 ≤ n ∧ n ≤ 255
def rgOk (r : Rg) : Prop := 0 ≤ r.1 ∧ r.1 ≤ r.2 ∧ r.2 ≤ 255
def bOk (b : Bk) : Prop := nameOk b.k ∧ b.rs.length = 4 ∧ ∀ r ∈ b.rs, rgOk r
/-- a text that can be compared -/
def sOk (x : Str) : Prop := PyData.canLay0 (.str x) = true
/-- what every block has, empty or not -/
def bWell (b : Bk) : Prop := sOk b.k ∧ b.rs.length = 4
def pOk (p : Pk) : Prop := nameOk p.k ∧ numOk p.a ∧ numOk p.b ∧ numOk p.c ∧ numOk p.d
/-! ### what the defs compute -/
def inR : List Rg → List Int → Bool
  | [], [] => true
  | r :: rs, n :: ns => decide (r.1 ≤ n ∧ n ≤ r.2) && inR rs ns
  | _, _ => false
def hasP (b : Bk) (p : Pk) : Bool := decide (b.k = p.k) && inR b.rs p.ns
def interR (r q : Rg) : Rg := (if q.1 > r.1 then q.1 else r.1, if q.2 < r.2 then q.2 else r.2)
def metF (b o : Bk) : List Bk := if b.k = o.k then
    let rs := (b.rs.zip o.rs).map fun p => interR p.1 p.2
    if rs.all (fun r => decide (r.1 ≤ r.2)) then [⟨b.k, rs⟩] else []
  else []
/-- one dimension cut: what lies under, what lies over, what is left -/
def cutAt (l : Bk) (i : Nat) (r q : Rg) : List Bk := (if r.1 < q.1 then [⟨l.k, l.rs.set i (r.1, q.1 - 1)⟩] else []) ++ (if q.2 < r.2 then [⟨l.k, l.rs.set i (q.2 + 1, r.2)⟩] else [])
def splitL (o : Bk) : List Nat → Bk → List Bk → List Bk
  | [], _, acc => acc
  | i :: is_, l, acc => match l.rs[i]?, o.rs[i]? with
    | some r, some q => splitL o is_ ⟨l.k, l.rs.set i (interR r q)⟩ (acc ++ cutAt l i r q)
    | _, _ => acc
def splitF (b o : Bk) : List Bk := match metF b o with
  | [] => [b]
  | _ => splitL o [0, 1, 2, 3] b []
def withoutF (bs : List Bk) (o : Bk) : List Bk := (bs.map fun b => splitF b o).flatten
def turnB (b : Bk) : Bk := ⟨b.k, match b.rs with
  | [r0, r1, r2, r3] => [r2, r3, r0, r1]
  | l => l⟩
def turnP (p : Pk) : Pk := ⟨p.k, p.c, p.d, p.a, p.b⟩
/-- two blocks that lie side by side, as one -/
def sideF (b o : Bk) : List Bk := if b.k = o.k then
    match (List.range 4).filter (fun i => decide (b.rs[i]? ≠ o.rs[i]?)) with
    | [i] => match b.rs[i]?, o.rs[i]? with
      | some r, some q => let lo := if q.1 < r.1 ∨ (q.1 = r.1 ∧ q.2 < r.2) then q else r
        let hi := if q.1 < r.1 ∨ (q.1 = r.1 ∧ q.2 < r.2) then r else q
        if lo.2 + 1 = hi.1 then [⟨b.k, b.rs.set i (lo.1, hi.2)⟩] else []
      | _, _ => []
    | _ => []
  else []
/-! ### sets of packets -/
def memB (bs : List Bk) (p : Pk) : Prop := ∃ b ∈ bs, hasP b p = true
/-- the grid in whose lines the blocks lie: names, addresses, ports -/
structure Grid where
  ks : List Str
  xs : List Int
  ys : List Int
def Grid.ok (G : Grid) : Prop := G.ks.length * (G.xs.length * G.xs.length * (G.ys.length * G.ys.length)) ≤ 8388608
def onL (l : List Int) (r : Rg) : Prop := r.1 ∈ l ∧ r.2 + 1 ∈ l
def inG (G : Grid) (b : Bk) : Prop := b.k ∈ G.ks ∧ ∀ i r, b.rs[i]? = some r → onL (if i % 2 = 0 then G.xs else G.ys) r
def apart (a b : Bk) : Prop := ∀ p, ¬(hasP a p = true ∧ hasP b p = true)
/-- a list of blocks as Packets keeps it -/
structure PS (G : Grid) (bs : List Bk) : Prop where
  ok : ∀ b ∈ bs, bOk b
  ap : bs.Pairwise apart
  gr : ∀ b ∈ bs, inG G b
def setD (bs : List Bk) : D := .obj "Packets" ["p_blocks"] [.lst (bs.map bD)]
def volF (b : Bk) : Int := (b.rs.map fun r => r.2 - r.1 + 1).foldl (· * ·) 1
def lowP (b : Bk) : Option Pk := match b.rs with
  | [r0, r1, r2, r3] => some ⟨b.k, r0.1, r1.1, r2.1, r3.1⟩
  | _ => none
/-! ### the promises -/
abbrev vals (l : List D) : List Ent := l.map .val
def fs_is_number : FS := fun args Q _ => ∃ n : Int, args = vals [.int n] ∧ numOk n ∧ Q (.val (.bl true)) args
def fs_is_name : FS := fun args Q _ => ∃ (x : Str), args = vals [.str x] ∧ nameOk x ∧ Q (.val (.bl true)) args
def fs_is_range : FS := fun args Q _ => ∃ (r : Rg), args = vals [rgD r] ∧ rgOk r ∧ Q (.val (.bl true)) args
def fs_is_end : FS := fun args Q _ => ∃ m n : Int, args = vals [.tup [.int m, .int n]] ∧ numOk m ∧ numOk n ∧ Q (.val (.bl true)) args
def fs_is_packet : FS := fun args Q _ => ∃ (p : Pk), args = vals [pkD p] ∧ pOk p ∧ Q (.val (.bl true)) args
def fs_are_ranges : FS := fun args Q _ => ∃ rs : List Rg, args = vals [.tup (rs.map rgD)] ∧ rs.length = 4 ∧ (∀ r ∈ rs, rgOk r) ∧ Q (.val (.bl true)) args
def fs_is_block : FS := fun args Q _ => ∃ (b : Bk), args = vals [bD b] ∧ bOk b ∧ Q (.val (.bl true)) args
def fs_turned_block : FS := fun args Q _ => ∃ (b : Bk), args = vals [bD b] ∧ bWell b ∧ Q (.val (bD (turnB b))) args
def fs_has_packet : FS := fun args Q _ => ∃ (b : Bk) (p : Pk), args = vals [bD b, pkD p] ∧ bWell b ∧ sOk p.k ∧ Q (.val (.bl (hasP b p))) args
def fs_met : FS := fun args Q _ => ∃ (b : Bk) (o : Bk), args = vals [bD b, bD o] ∧ bWell b ∧ bWell o ∧ Q (.tmp (.lst ((metF b o).map bD))) args
def fs_split : FS := fun args Q _ => ∃ (b : Bk) (o : Bk), args = vals [bD b, bD o] ∧ bWell b ∧ bWell o ∧ Q (.tmp (.lst ((splitF b o).map bD))) args
def fs_without_block : FS := fun args Q _ => ∃ (bs : List Bk) (o : Bk), args = vals [.lst (bs.map bD), bD o] ∧ (∀ b ∈ bs, bWell b) ∧ bWell o ∧ (withoutF bs o).length ≤ sizeLine ∧ Q (.tmp (.lst ((withoutF bs o).map bD))) args
def fs_side_by_side : FS := fun args Q _ => ∃ (b : Bk) (o : Bk), args = vals [bD b, bD o] ∧ bWell b ∧ bWell o ∧ Q (.tmp (.lst ((sideF b o).map bD))) args
/-- blocks put together, two by two -/
inductive Joins : List Bk → List Bk → Prop
  | perm {l m : List Bk} : l.Perm m → Joins l m
  | join {l t m : List Bk} {a b c : Bk} : l.Perm (a :: b :: t) → sideF a b = [c] → Joins (c :: t) m → Joins l m
def fs_pushed_together : FS := fun args Q _ => ∃ (bs : List Bk), args = vals [.lst (bs.map bD)] ∧ (∀ b ∈ bs, bWell b) ∧ bs.length < sizeLine ∧ ∀ bs', Joins bs bs' → Q (.tmp (.lst (bs'.map bD))) args
def listy (l : List D) (d : D) : Prop := d = .lst l ∨ d = .tup l
def fs_disjoint : FS := fun args Q _ => ∃ (G : Grid) (bs : List Bk) (d : D), args = vals [d] ∧ listy (bs.map bD) d ∧ Grid.ok G ∧ (∀ b ∈ bs, bOk b) ∧ (∀ b ∈ bs, inG G b) ∧ ∀ bs', PS G bs' → (∀ p, memB bs' p ↔ memB bs p) → Q (.tmp (.lst (bs'.map bD))) args
def fs_size_of : FS := fun args Q _ => ∃ (b : Bk), args = vals [bD b] ∧ bOk b ∧ Q (.val (.int (volF b))) args
def fs_check_blocks : FS := fun args Q _ => ∃ (bs : List Bk) (d : D), args = vals [d] ∧ listy (bs.map bD) d ∧ (∀ b ∈ bs, bOk b) ∧ Q (.val .non) args
def fs_Packets_init : FS := fun args Q _ => ∃ (G : Grid) (bs : List Bk) (d : D), args = [.own true (.obj "Packets" [] []), .val d] ∧ listy (bs.map bD) d ∧ Grid.ok G ∧ (∀ b ∈ bs, bOk b) ∧ (∀ b ∈ bs, inG G b) ∧ ∀ bs', PS G bs' → (∀ p, memB bs' p ↔ memB bs p) → Q (.val .non) [.own true (setD bs'), .val d]
open Classical in
def fs_Packets_contains : FS := fun args Q _ => ∃ (G : Grid) (a : List Bk) (p : Pk), args = vals [setD a, pkD p] ∧ PS G a ∧ pOk p ∧ Q (.val (.bl (decide (memB a p)))) args
open Classical in
def fs_Packets_eq : FS := fun args Q _ => ∃ (G : Grid) (a : List Bk) (b : List Bk), args = vals [setD a, setD b] ∧ Grid.ok G ∧ PS G a ∧ PS G b ∧ Q (.val (.bl (decide (∀ p, memB a p ↔ memB b p)))) args
def fsOp (f : Prop → Prop → Prop) : FS := fun args Q _ => ∃ (G : Grid) (a : List Bk) (b : List Bk), args = vals [setD a, setD b] ∧ Grid.ok G ∧ PS G a ∧ PS G b ∧ ∀ c, PS G c → (∀ p, memB c p ↔ f (memB a p) (memB b p)) → Q (.val (setD c)) args
def fs_Packets_or : FS := fsOp fun a b => a ∨ b
def fs_Packets_and : FS := fsOp fun a b => a ∧ b
def fs_Packets_sub : FS := fsOp fun a b => a ∧ ¬b
def fs_Packets_blocks : FS := fun args Q _ => ∃ (a : List Bk), args = vals [setD a] ∧ Q (.tmp (.lst (a.map bD))) args
def fs_Packets_size : FS := fun args Q _ => ∃ (G : Grid) (a : List Bk), args = vals [setD a] ∧ PS G a ∧ Q (.val (.int (a.map volF).sum)) args
def fs_Packets_least : FS := fun args Q _ => ∃ (G : Grid) (a : List Bk), args = vals [setD a] ∧ Grid.ok G ∧ PS G a ∧ (a = [] → Q (.val .non) args) ∧ ∀ b ∈ a, ∀ p, lowP b = some p → Q (.val (pkD p)) args
def fs_Packets_turned : FS := fun args Q _ => ∃ (G : Grid) (a : List Bk), args = vals [setD a] ∧ Grid.ok G ∧ PS G a ∧ ∀ c, PS G c → (∀ p, memB c p ↔ memB a (turnP p)) → Q (.val (setD c)) args
instance (n : Int) : Decidable (numOk n) := inferInstanceAs (Decidable (_ ∧ _))
end PL
/-! PK2: packets.py's defs as WP terms (printed by gen_pk.py). -/
namespace PL
open PySem PySem.Spec PyProof.Rows L2
variable [HasT]
def w_is_number : WS :=
  wRet (wAnd (wIsi (fT .int) (wVar 0)) (wAnd (wNot (wIsi (fT .bl) (wVar 0))) (wChain gLe gLe (wC (.int 0)) (wVar 0) (wC (.int 255)))))
def w_is_name : WS :=
  wSeq (wIf (wOrT (wNotT (wB (wIsi (fT .str) (wVar 0)))) (wNotT (wB (wChain gLe gLe (wC (.int 1)) (wCall gLen (wVc (wVar 0) (wVn))) (wC (.int 6)))))) (wRet (wC (.bl false))) (wNext))
    (wRet (wCall gAll (wVc (wLc (wSrc (wVar 0)) (wName 1) (wYes) (wOp2 (gInS id) (wVar 1) (wC (.str "abcdefghijklmnopqrstuvwxyz"))) [1]) (wVn))))
def w_is_range : WS :=
  wSeq (wIf (wOrT (wNotT (wB (wIsi (fT .tup) (wVar 0)))) (wOrT (wB (wOp2 (gEq not) (wCall gLen (wVc (wVar 0) (wVn))) (wC (.int 2)))) (wNotT (wB (wCall gAll (wVc (wLc (wSrc (wVar 0)) (wName 1) (wYes) (wCallF fs_is_number [] (wVk (wVar 1) (wVn))) [1]) (wVn))))))) (wRet (wC (.bl false))) (wNext))
    (wRet (wOp2 (gI fun i j => .bl (decide (i ≤ j))) (wOp2 gIx (wVar 0) (wC (.int 0))) (wOp2 gIx (wVar 0) (wC (.int 1)))))
def w_is_end : WS :=
  wRet (wAnd (wIsi (fT .tup) (wVar 0)) (wAnd (wOp2 (gEq id) (wCall gLen (wVc (wVar 0) (wVn))) (wC (.int 2))) (wCall gAll (wVc (wLc (wSrc (wVar 0)) (wName 1) (wYes) (wCallF fs_is_number [] (wVk (wVar 1) (wVn))) [1]) (wVn)))))
def w_is_packet : WS :=
  wRet (wAnd (wIsi (fT .tup) (wVar 0)) (wAnd (wOp2 (gEq id) (wCall gLen (wVc (wVar 0) (wVn))) (wC (.int 3))) (wAnd (wCallF fs_is_name [] (wVk (wOp2 gIx (wVar 0) (wC (.int 0))) (wVn))) (wAnd (wCallF fs_is_end [] (wVk (wOp2 gIx (wVar 0) (wC (.int 1))) (wVn))) (wCallF fs_is_end [] (wVk (wOp2 gIx (wVar 0) (wC (.int 2))) (wVn)))))))
def w_are_ranges : WS :=
  wRet (wAnd (wOp2 (gEq id) (wCall gLen (wVc (wVar 0) (wVn))) (wC (.int 4))) (wCall gAll (wVc (wLc (wSrc (wVar 0)) (wName 1) (wYes) (wCallF fs_is_range [] (wVk (wVar 1) (wVn))) [1]) (wVn))))
def w_is_block : WS :=
  wRet (wAnd (wIsi (fT .tup) (wVar 0)) (wAnd (wOp2 (gEq id) (wCall gLen (wVc (wVar 0) (wVn))) (wC (.int 5))) (wAnd (wCallF fs_is_name [] (wVk (wOp2 gIx (wVar 0) (wC (.int 0))) (wVn))) (wCallF fs_are_ranges [] (wVk (wSl (wVar 0) (wSome (wC (.int 1))) (wNone)) (wVn))))))
def w_turned_block : WS :=
  wRet (wTup (wKc (wOp2 gIx (wVar 0) (wC (.int 0))) (wKc (wOp2 gIx (wVar 0) (wC (.int 3))) (wKc (wOp2 gIx (wVar 0) (wC (.int 4))) (wKc (wOp2 gIx (wVar 0) (wC (.int 1))) (wKc (wOp2 gIx (wVar 0) (wC (.int 2))) (wKn)))))))
def w_has_packet : WS :=
  wSeq (wAsg (wVar 1) (wUnp 3 (wGc (wName 2) (wGc (wUnp 2 (wGc (wName 3) (wGc (wName 4) (wGn)))) (wGc (wUnp 2 (wGc (wName 5) (wGc (wName 6) (wGn)))) (wGn))))))
    (wSeq (wIf (wB (wOp2 (gEq not) (wOp2 gIx (wVar 0) (wC (.int 0))) (wVar 2))) (wRet (wC (.bl false))) (wNext))
    (wSeq (wSet 7 (wTup (wKc (wVar 3) (wKc (wVar 4) (wKc (wVar 5) (wKc (wVar 6) (wKn)))))))
    (wRet (wCall gAll (wVc (wLc (wZip (wSl (wVar 0) (wSome (wC (.int 1))) (wNone)) (wVar 7)) (wUnp 2 (wGc (wUnp 2 (wGc (wName 8) (wGc (wName 9) (wGn)))) (wGc (wName 10) (wGn)))) (wYes) (wChain gLe gLe (wVar 8) (wVar 10) (wVar 9)) [8, 9, 10]) (wVn))))))
def w_met : WS :=
  wSeq (wIf (wB (wOp2 (gEq not) (wOp2 gIx (wVar 0) (wC (.int 0))) (wOp2 gIx (wVar 1) (wC (.int 0))))) (wRet (wLst (wKn))) (wNext))
    (wSeq (wSet 2 (wLc (wZip (wSl (wVar 0) (wSome (wC (.int 1))) (wNone)) (wSl (wVar 1) (wSome (wC (.int 1))) (wNone))) (wUnp 2 (wGc (wName 3) (wGc (wName 4) (wGn)))) (wYes) (wTup (wKc (wCall gMax2 (wVc (wOp2 gIx (wVar 3) (wC (.int 0))) (wVc (wOp2 gIx (wVar 4) (wC (.int 0))) (wVn)))) (wKc (wCall gMin2 (wVc (wOp2 gIx (wVar 3) (wC (.int 1))) (wVc (wOp2 gIx (wVar 4) (wC (.int 1))) (wVn)))) (wKn)))) [3, 4]))
    (wRet (wIfE (wB (wCall gAll (wVc (wLc (wSrc (wVar 2)) (wUnp 2 (wGc (wName 5) (wGc (wName 6) (wGn)))) (wYes) (wOp2 (gI fun i j => .bl (decide (i ≤ j))) (wVar 5) (wVar 6)) [5, 6]) (wVn)))) (wLst (wKc (wOp2 gAdd (wTup (wKc (wOp2 gIx (wVar 0) (wC (.int 0))) (wKn))) (wCall gTuple (wVc (wVar 2) (wVn)))) (wKn))) (wLst (wKn)))))
def w_split : WS :=
  wSeq (wIf (wB (wOp2 (gEq id) (wCallF fs_met [] (wVk (wVar 0) (wVk (wVar 1) (wVn)))) (wLst (wKn)))) (wRet (wLst (wKc (wVar 0) (wKn)))) (wNext))
    (wSeq (wSet 2 (wLst (wKn)))
    (wSeq (wSet 3 (wVar 0))
    (wSeq (wFor (wRng2 (wC (.int 1)) (wC (.int 5))) (wName 4) (wSeq (wAsg (wOp2 gIx (wVar 3) (wVar 4)) (wUnp 2 (wGc (wName 5) (wGc (wName 6) (wGn)))))
    (wSeq (wAsg (wOp2 gIx (wVar 1) (wVar 4)) (wUnp 2 (wGc (wName 7) (wGc (wName 8) (wGn)))))
    (wSeq (wIf (wB (wOp2 (gI fun i j => .bl (decide (i < j))) (wVar 5) (wVar 7))) (wSet 2 (wOp2 gAdd (wVar 2) (wLst (wKc (wOp2 gAdd (wOp2 gAdd (wSl (wVar 3) (wNone) (wSome (wVar 4))) (wTup (wKc (wTup (wKc (wVar 5) (wKc (wOp2 (gI fun i j => .int (i - j)) (wVar 7) (wC (.int 1))) (wKn)))) (wKn)))) (wSl (wVar 3) (wSome (wOp2 gAdd (wVar 4) (wC (.int 1)))) (wNone))) (wKn))))) (wNext))
    (wSeq (wIf (wB (wOp2 (gI fun i j => .bl (decide (i < j))) (wVar 8) (wVar 6))) (wSet 2 (wOp2 gAdd (wVar 2) (wLst (wKc (wOp2 gAdd (wOp2 gAdd (wSl (wVar 3) (wNone) (wSome (wVar 4))) (wTup (wKc (wTup (wKc (wOp2 gAdd (wVar 8) (wC (.int 1))) (wKc (wVar 6) (wKn)))) (wKn)))) (wSl (wVar 3) (wSome (wOp2 gAdd (wVar 4) (wC (.int 1)))) (wNone))) (wKn))))) (wNext))
    (wSet 3 (wOp2 gAdd (wOp2 gAdd (wSl (wVar 3) (wNone) (wSome (wVar 4))) (wTup (wKc (wTup (wKc (wCall gMax2 (wVc (wVar 5) (wVc (wVar 7) (wVn)))) (wKc (wCall gMin2 (wVc (wVar 6) (wVc (wVar 8) (wVn)))) (wKn)))) (wKn)))) (wSl (wVar 3) (wSome (wOp2 gAdd (wVar 4) (wC (.int 1)))) (wNone)))))))))
    (wRet (wVar 2)))))
def w_without_block : WS :=
  wSeq (wSet 2 (wLst (wKn)))
    (wSeq (wFor (wSrc (wVar 0)) (wName 3) (wExpr (wExtend 2 (wCallF fs_split [] (wVk (wVar 3) (wVk (wVar 1) (wVn)))))))
    (wRet (wVar 2)))
def w_side_by_side : WS :=
  wSeq (wIf (wB (wOp2 (gEq not) (wOp2 gIx (wVar 0) (wC (.int 0))) (wOp2 gIx (wVar 1) (wC (.int 0))))) (wRet (wLst (wKn))) (wNext))
    (wSeq (wSet 2 (wLc (wRng2 (wC (.int 1)) (wC (.int 5))) (wName 3) (wB (wOp2 (gEq not) (wOp2 gIx (wVar 0) (wVar 3)) (wOp2 gIx (wVar 1) (wVar 3)))) (wVar 3) [3]))
    (wSeq (wIf (wB (wOp2 (gEq not) (wCall gLen (wVc (wVar 2) (wVn))) (wC (.int 1)))) (wRet (wLst (wKn))) (wNext))
    (wSeq (wSet 3 (wOp2 gIx (wVar 2) (wC (.int 0))))
    (wSeq (wAsg (wCall gSort (wVc (wLst (wKc (wOp2 gIx (wVar 0) (wVar 3)) (wKc (wOp2 gIx (wVar 1) (wVar 3)) (wKn)))) (wVn))) (wUnp 2 (wGc (wName 4) (wGc (wName 5) (wGn)))))
    (wSeq (wIf (wB (wOp2 (gEq not) (wOp2 gAdd (wOp2 gIx (wVar 4) (wC (.int 1))) (wC (.int 1))) (wOp2 gIx (wVar 5) (wC (.int 0))))) (wRet (wLst (wKn))) (wNext))
    (wRet (wLst (wKc (wOp2 gAdd (wOp2 gAdd (wSl (wVar 0) (wNone) (wSome (wVar 3))) (wTup (wKc (wTup (wKc (wOp2 gIx (wVar 4) (wC (.int 0))) (wKc (wOp2 gIx (wVar 5) (wC (.int 1))) (wKn)))) (wKn)))) (wSl (wVar 0) (wSome (wOp2 gAdd (wVar 3) (wC (.int 1)))) (wNone))) (wKn)))))))))
def w_pushed_together : WS :=
  wSeq (wSet 1 (wLst (wKn)))
    (wSeq (wFor (wSrc (wVar 0)) (wName 2) (wSeq (wSet 3 (wVar 2))
    (wSeq (wSet 4 (wC (.int 0)))
    (wSeq (wWhile (wB (wOp2 (gI fun i j => .bl (decide (i < j))) (wVar 4) (wCall gLen (wVc (wVar 1) (wVn))))) (wSeq (wSet 5 (wCallF fs_side_by_side [] (wVk (wOp2 gIx (wVar 1) (wVar 4)) (wVk (wVar 3) (wVn)))))
    (wIf (wB (wOp2 (gEq id) (wVar 5) (wLst (wKn)))) (wSet 4 (wOp2 gAdd (wVar 4) (wC (.int 1)))) (wSeq (wSet 3 (wOp2 gIx (wVar 5) (wC (.int 0))))
    (wSeq (wSet 1 (wOp2 gAdd (wSl (wVar 1) (wNone) (wSome (wVar 4))) (wSl (wVar 1) (wSome (wOp2 gAdd (wVar 4) (wC (.int 1)))) (wNone))))
    (wSet 4 (wC (.int 0))))))))
    (wSet 1 (wOp2 gAdd (wVar 1) (wLst (wKc (wVar 3) (wKn)))))))))
    (wRet (wVar 1)))
def w_disjoint : WS :=
  wSeq (wSet 1 (wLst (wKn)))
    (wSeq (wFor (wSrc (wVar 0)) (wName 2) (wSeq (wSet 3 (wLst (wKc (wVar 2) (wKn))))
    (wSeq (wFor (wSrc (wVar 1)) (wName 4) (wSet 3 (wCallF fs_without_block [] (wVk (wVar 3) (wVk (wVar 4) (wVn))))))
    (wSet 1 (wOp2 gAdd (wVar 1) (wVar 3))))))
    (wRet (wCallF fs_pushed_together [] (wVk (wVar 1) (wVn)))))
def w_size_of : WS :=
  wSeq (wSet 1 (wC (.int 1)))
    (wSeq (wFor (wSrc (wSl (wVar 0) (wSome (wC (.int 1))) (wNone))) (wUnp 2 (wGc (wName 2) (wGc (wName 3) (wGn)))) (wAugI 1 CMul (· * ·) (wOp2 gAdd (wOp2 (gI fun i j => .int (i - j)) (wVar 3) (wVar 2)) (wC (.int 1)))))
    (wRet (wVar 1)))
def w_check_blocks : WS :=
  wSeq (wIf (wNotT (wB (wIsi (fT2 .lst .tup) (wVar 0)))) (wNever) (wNext))
    (wFor (wEnum (wVar 0)) (wUnp 2 (wGc (wName 1) (wGc (wName 2) (wGn)))) (wIf (wNotT (wB (wCallF fs_is_block [] (wVk (wVar 2) (wVn))))) (wNever) (wNext)))
def w_Packets_init : WS :=
  wSeq (wExpr (wCallF fs_check_blocks [] (wVk (wVar 1) (wVn))))
    (wSetF 0 "Packets" "p_blocks" (wCallF fs_disjoint [] (wVk (wVar 1) (wVn))))
def w_Packets_contains : WS :=
  wRet (wAnd (wCallF fs_is_packet [] (wVk (wVar 1) (wVn))) (wCall gAny (wVc (wLc (wSrc (wFld "Packets" "p_blocks" (wVar 0))) (wName 2) (wYes) (wCallF fs_has_packet [] (wVk (wVar 2) (wVk (wVar 1) (wVn)))) [2]) (wVn))))
def w_Packets_eq : WS :=
  wSeq (wIf (wNotT (wB (wIsi (fObj "Packets") (wVar 1)))) (wRet (wC (.bl false))) (wNext))
    (wSeq (wPar 2 3 (wFld "Packets" "p_blocks" (wVar 0)) (wFld "Packets" "p_blocks" (wVar 1)))
    (wSeq (wFor (wSrc (wFld "Packets" "p_blocks" (wVar 1))) (wName 4) (wSet 2 (wCallF fs_without_block [] (wVk (wVar 2) (wVk (wVar 4) (wVn))))))
    (wSeq (wFor (wSrc (wFld "Packets" "p_blocks" (wVar 0))) (wName 4) (wSet 3 (wCallF fs_without_block [] (wVk (wVar 3) (wVk (wVar 4) (wVn))))))
    (wRet (wAnd (wOp2 (gEq id) (wVar 2) (wLst (wKn))) (wOp2 (gEq id) (wVar 3) (wLst (wKn))))))))
def w_Packets_or : WS :=
  wSeq (wIf (wNotT (wB (wIsi (fObj "Packets") (wVar 1)))) (wNever) (wNext))
    (wRet (wMake "Packets" fs_Packets_init [] (wVk (wOp2 gAdd (wFld "Packets" "p_blocks" (wVar 0)) (wFld "Packets" "p_blocks" (wVar 1))) (wVn))))
def w_Packets_and : WS :=
  wSeq (wIf (wNotT (wB (wIsi (fObj "Packets") (wVar 1)))) (wNever) (wNext))
    (wSeq (wSet 2 (wLst (wKn)))
    (wSeq (wFor (wSrc (wFld "Packets" "p_blocks" (wVar 0))) (wName 3) (wFor (wSrc (wFld "Packets" "p_blocks" (wVar 1))) (wName 4) (wExpr (wExtend 2 (wCallF fs_met [] (wVk (wVar 3) (wVk (wVar 4) (wVn))))))))
    (wRet (wMake "Packets" fs_Packets_init [] (wVk (wVar 2) (wVn))))))
def w_Packets_sub : WS :=
  wSeq (wIf (wNotT (wB (wIsi (fObj "Packets") (wVar 1)))) (wNever) (wNext))
    (wSeq (wSet 2 (wFld "Packets" "p_blocks" (wVar 0)))
    (wSeq (wFor (wSrc (wFld "Packets" "p_blocks" (wVar 1))) (wName 3) (wSet 2 (wCallF fs_without_block [] (wVk (wVar 2) (wVk (wVar 3) (wVn))))))
    (wRet (wMake "Packets" fs_Packets_init [] (wVk (wVar 2) (wVn))))))
def w_Packets_blocks : WS :=
  wRet (wCall gList (wVc (wFld "Packets" "p_blocks" (wVar 0)) (wVn)))
def w_Packets_size : WS :=
  wRet (wCall gSum (wVc (wLc (wSrc (wFld "Packets" "p_blocks" (wVar 0))) (wName 1) (wYes) (wCallF fs_size_of [] (wVk (wVar 1) (wVn))) [1]) (wVn)))
def w_Packets_least : WS :=
  wSeq (wIf (wB (wOp2 (gEq id) (wFld "Packets" "p_blocks" (wVar 0)) (wLst (wKn)))) (wRet (wC .non)) (wNext))
    (wSeq (wSet 1 (wLst (wKn)))
    (wSeq (wFor (wSrc (wFld "Packets" "p_blocks" (wVar 0))) (wUnp 5 (wGc (wName 2) (wGc (wName 3) (wGc (wName 4) (wGc (wName 5) (wGc (wName 6) (wGn))))))) (wExpr (wAppend 1 (wTup (wKc (wVar 2) (wKc (wTup (wKc (wOp2 gIx (wVar 3) (wC (.int 0))) (wKc (wOp2 gIx (wVar 4) (wC (.int 0))) (wKn)))) (wKc (wTup (wKc (wOp2 gIx (wVar 5) (wC (.int 0))) (wKc (wOp2 gIx (wVar 6) (wC (.int 0))) (wKn)))) (wKn))))))))
    (wRet (wCall gMin (wVc (wVar 1) (wVn))))))
def w_Packets_turned : WS :=
  wRet (wMake "Packets" fs_Packets_init [] (wVk (wLc (wSrc (wFld "Packets" "p_blocks" (wVar 0))) (wName 1) (wYes) (wCallF fs_turned_block [] (wVk (wVar 1) (wVn))) [1]) (wVn)))
end PL
/-! PK3: packets.py's small defs keep their promises. (The lists of names in simp: expand.py writes them.) -/
namespace PL
open PySem PySem.Spec PyProof.Rows L2
variable [HasT]
theorem gEq_of {f : Bool → Bool} {d e : D} {p q : PyData} {Q : R → Prop} (h1 : toP d = some p) (h2 : toP e = some q) (h3 : SeqAt.shaped p = true) (h4 : SeqAt.shaped q = true) : gEq f d e Q = Q (.val (.bl (f (PyData.eqv p q)))) := by
  unfold gEq dEq
  rw [h1, h2]
  simp only [h3, h4, Bool.and_self, if_true]
theorem gEq_int {f : Bool → Bool} {i j : Int} {Q : R → Prop} : gEq f (.int i) (.int j) Q = Q (.val (.bl (f (decide (i = j))))) := by
  rw [gEq_of (p := .int i) (q := .int j) rfl rfl rfl rfl]
  congr 4
theorem gEq_str {f : Bool → Bool} {x y : Str} {Q : R → Prop} (hx : sOk x) (hy : sOk y) : gEq f (.str x) (.str y) Q = Q (.val (.bl (f (decide (x = y))))) := by
  have sh : ∀ {x : Str}, sOk x → SeqAt.shaped (.str x) = true := fun {x} h => by
    unfold SeqAt.shaped
    rw [show PyData.canLay0 (.str x) = true from h]
    rfl
  rw [gEq_of (p := .str x) (q := .str y) rfl rfl (sh hx) (sh hy)]
  congr 4
def rgP (r : Rg) : PyData := .tuple [.int r.1, .int r.2]
theorem toP_rg (r : Rg) : toP (rgD r) = some (rgP r) := rfl
theorem shaped_rg (r : Rg) : SeqAt.shaped (rgP r) = true := rfl
theorem gEq_rg {f : Bool → Bool} {r q : Rg} {Q : R → Prop} : gEq f (rgD r) (rgD q) Q = Q (.val (.bl (f (decide (r = q))))) := by
  rw [gEq_of (toP_rg r) (toP_rg q) (shaped_rg r) (shaped_rg q)]
  have : PyData.eqv (rgP r) (rgP q) = decide (r = q) := by
    obtain ⟨a, b⟩ := r
    obtain ⟨c, d⟩ := q
    simp only [rgP, PyData.eqv, PyData.eqvAll, Prod.mk.injEq, Bool.and_true, Bool.decide_and]
    rfl
  rw [this]
theorem toPs_map {α : Type} {f : α → D} {g : α → PyData} (h : ∀ a, toP (f a) = some (g a)) : ∀ l : List α, toPs (l.map f) = some (l.map g)
  | [] => rfl
  | a :: l => by
    show (toP (f a)).bind _ = _
    rw [h a, Option.bind_some, toPs_map h l]
    rfl
def bP (b : Bk) : PyData := .tuple (.str b.k :: b.rs.map rgP)
theorem toP_b (b : Bk) : toP (bD b) = some (bP b) := by
  show (toPs (.str b.k :: b.rs.map rgD)).map PyData.tuple = _
  show ((toP (.str b.k)).bind fun p => (toPs (b.rs.map rgD)).map fun r => p :: r).map PyData.tuple = _
  rw [toPs_map toP_rg]
  rfl
theorem canAll {α : Type} {g : α → PyData} : ∀ {l : List α}, (∀ a ∈ l, PyData.canLay0 (g a) = true) → PyData.canLayAll0 (l.map g) = true
  | [], _ => by simp [PyData.canLayAll0]
  | a :: l, h => by
    rw [List.map_cons, PyData.canLayAll0, h a List.mem_cons_self, canAll fun b hb => h b (List.mem_cons_of_mem _ hb)]
    rfl
theorem depAll {α : Type} {g : α → PyData} {n : Nat} : ∀ {l : List α}, (∀ a ∈ l, PyData.depth (g a) ≤ n) → PyData.depthAll (l.map g) ≤ n
  | [], _ => by simp [PyData.depthAll]
  | a :: l, h => by
    rw [List.map_cons, PyData.depthAll]
    have h1 := h a List.mem_cons_self
    have h2 := depAll (l := l) fun b hb => h b (List.mem_cons_of_mem _ hb)
    omega
theorem can_b {b : Bk} (h : sOk b.k) : PyData.canLay0 (bP b) = true := by
  unfold bP
  rw [PyData.canLay0, PyData.canLayAll0, show PyData.canLay0 (.str b.k) = true from h, canAll fun r _ => rfl]
  rfl
theorem dep_b (b : Bk) : PyData.depth (bP b) ≤ 2 := by
  unfold bP
  rw [PyData.depth, PyData.depthAll]
  have : PyData.depthAll (b.rs.map rgP) ≤ 1 := depAll fun r _ => by simp [rgP, PyData.depth, PyData.depthAll]
  have : PyData.depth (.str b.k) = 0 := by simp [PyData.depth]
  omega
theorem gEq_bs {f : Bool → Bool} {bs : List Bk} {Q : R → Prop} (h : ∀ b ∈ bs, sOk b.k) : gEq f (.lst (bs.map bD)) (.lst []) Q = Q (.val (.bl (f bs.isEmpty))) := by
  have e1 : toP (.lst (bs.map bD)) = some (.list (bs.map bP)) := by
    show (toPs (bs.map bD)).map PyData.list = _
    rw [toPs_map toP_b]
    rfl
  have sh : SeqAt.shaped (.list (bs.map bP)) = true := by
    unfold SeqAt.shaped
    have c : PyData.canLay0 (.list (bs.map bP)) = true := by
      rw [PyData.canLay0]
      exact canAll fun b hb => can_b (h b hb)
    have d : PyData.depth (.list (bs.map bP)) ≤ 64 := by
      rw [PyData.depth]
      have := depAll (l := bs) (g := bP) (n := 2) fun b _ => dep_b b
      omega
    rw [c, decide_eq_true d]
    rfl
  rw [gEq_of e1 (q := .list []) rfl sh rfl]
  have : PyData.eqv (.list (bs.map bP)) (.list []) = bs.isEmpty := by
    cases bs with
    | nil => rfl
    | cons b bs => simp [PyData.eqv, PyData.eqvAll]
  rw [this]
theorem letters_ok : ∀ c ∈ letters.cps.toList, c < 0x110000 := by decide +kernel
theorem sOk_name {x : Str} (h : nameOk x) : sOk x := by
  unfold sOk
  rw [PyData.canLay0]
  unfold PyData.strOk
  rw [Array.all_eq_true']
  intro c hc
  simpa using letters_ok c (h.2.2 c (by simpa using hc))
theorem bOk.well {b : Bk} (h : bOk b) : bWell b := ⟨sOk_name h.1, h.2.1⟩
abbrev Kp (ws : WS) (n m : Nat) (fs : FS) : Prop := ∀ (args : List Ent) (Qp : R → List Ent → Prop) (Ep : Ex → List Ent → Prop), fs args Qp Ep → args.length = n ∧ ws { nx := fun ρ => Qp (.val .non) (outA args ρ), rt := fun r ρ => Qp r (outA args ρ), ex := fun x ρ => Ep x (outA args ρ) } (envOf args m)
end PL
/-! PQ1: the law's draws: what each helper promises. -/
namespace PL
open PySem PySem.Spec PyProof.Rows L2
variable [HasT]
def fs__law_begin : FS := fun args Q _ => ∃ ns : List Int, args = vals [.kst (ns.map .int)] ∧ ns.length ≤ 63 ∧ Q (.tmp .draw) args
def fs__law_take : FS := fun args Q _ => ∃ n : Int, args = [.own true .draw, .val (.int n)] ∧ 0 < n ∧ n < 1073741824 ∧ ∀ m : Int, 0 ≤ m → m < n → Q (.val (.int m)) args
def fs__law_pick : FS := fun args Q _ => ∃ (xs : List D), args = [.own true .draw, .val (.lst xs)] ∧ xs ≠ [] ∧ xs.length < 1073741824 ∧ ∀ x ∈ xs, Q (.val x) args
def intsL (l : List Int) : D := .lst (l.map .int)
/-- the marks of addresses and of ports, and single ones -/
structure Home where
  marks : List Int
  alone : List Int
  ports : List Int
  lone : List Int
def homeMenu1 : List (List Int × List Int) := [([0, 10, 11, 200], [10]), ([0, 1, 2, 3], [0, 1, 2]), ([0, 100, 254, 255], [254, 255]), ([0, 128], [])]
def homeMenu2 : List (List Int × List Int) := [([0, 5, 6], [5]), ([0, 1, 255], [0, 255]), ([0], [])]
def Home.ok (h : Home) : Prop := (h.marks, h.alone) ∈ homeMenu1 ∧ (h.ports, h.lone) ∈ homeMenu2
def homeKs : List Key := [.inr "marks", .inr "alone", .inr "ports", .inr "lone"]
def homeDs (h : Home) : List D := [intsL h.marks, intsL h.alone, intsL h.ports, intsL h.lone]
def fs__law_marks : FS := fun args Q _ => args = [.own true .draw] ∧ ∀ h : Home, h.ok → Q (.tmp (.dic homeKs (homeDs h))) args
/-- marks: ascending numbers -/
def mkOk (ms : List Int) : Prop := ms ≠ [] ∧ ms.length ≤ 8 ∧ ms.Pairwise (· < ·) ∧ ∀ m ∈ ms, numOk m
def fs__law_range : FS := fun args Q _ => ∃ ms : List Int, args = [.own true .draw, .val (intsL ms)] ∧ mkOk ms ∧ ∀ r : Rg, rgOk r → r.1 ∈ ms → r.2 + 1 ∈ ms ++ [256] → Q (.val (rgD r)) args
end PL
/-! PQ2: the dict of draws at the heap. -/
namespace PL
open PySem PySem.Spec PyProof.Rows L2
variable [HasT]
def drK (l c : Addr) (rest turn mix : Int) : List (Key × V) := [(.inr "large", .ref l), (.inr "cells", .ref c), (.inr "rest", .int rest), (.inr "turn", .int turn), (.inr "mix", .int mix)]
/-- the dict of draws, as it stands in the heap, since H0 -/
structure DA (F H0 H : Hp) (a l c : Addr) (rest turn mix : Int) (ls cs : List Int) : Prop where
  nal : a ≠ l
  nac : a ≠ c
  nlc : l ≠ c
  ha : H a = some (.dK (drK l c rest turn mix))
  hl : H l = some (.lst (lits ls))
  hc : H c = some (.lst (lits cs))
  keep : ∀ b, H0 b ≠ none → b ≠ a → b ≠ l → H b = H0 b
section
variable {F H0 H : Hp} {a l c : Addr} {rest turn mix : Int} {ls cs : List Int}
theorem DA.gRest (h : DA F H0 H a l c rest turn mix ls cs) : DGet H a (.str "rest") (some (.int rest)) := DGet.k (k := .inr "rest") h.ha
theorem DA.gTurn (h : DA F H0 H a l c rest turn mix ls cs) : DGet H a (.str "turn") (some (.int turn)) := DGet.k (k := .inr "turn") h.ha
theorem DA.gMix (h : DA F H0 H a l c rest turn mix ls cs) : DGet H a (.str "mix") (some (.int mix)) := DGet.k (k := .inr "mix") h.ha
theorem DA.gLarge (h : DA F H0 H a l c rest turn mix ls cs) : DGet H a (.str "large") (some (.ref l)) := DGet.k (k := .inr "large") h.ha
theorem DA.gCells (h : DA F H0 H a l c rest turn mix ls cs) : DGet H a (.str "cells") (some (.ref c)) := DGet.k (k := .inr "cells") h.ha
theorem five_lt : (5 : Nat) < sizeLine := by rw [sizeLine_eq]; decide
theorem DA.put {k : Key} {v : V} {r' t' m' : Int} (h : DA F H0 H a l c rest turn mix ls cs) (e : putK (drK l c rest turn mix) k v = drK l c r' t' m') : DPut H a (L2.kV k) v (upd H a (.dK (drK l c r' t' m'))) ∧ DA F H0 (upd H a (.dK (drK l c r' t' m'))) a l c r' t' m' ls cs := by
  refine ⟨by rw [← e]; exact DPut.k h.ha five_lt, h.nal, h.nac, h.nlc, upd_same, by rw [upd_ne h.nal.symm]; exact h.hl, by rw [upd_ne h.nac.symm]; exact h.hc, fun b hb h1 h2 => by rw [upd_ne h1]; exact h.keep b hb h1 h2⟩
theorem DA.putR (h : DA F H0 H a l c rest turn mix ls cs) (n : Int) : DPut H a (.str "rest") (.int n) (upd H a (.dK (drK l c n turn mix))) ∧ DA F H0 (upd H a (.dK (drK l c n turn mix))) a l c n turn mix ls cs := h.put (k := .inr "rest") rfl
theorem DA.putT (h : DA F H0 H a l c rest turn mix ls cs) (n : Int) : DPut H a (.str "turn") (.int n) (upd H a (.dK (drK l c rest n mix))) ∧ DA F H0 (upd H a (.dK (drK l c rest n mix))) a l c rest n mix ls cs := h.put (k := .inr "turn") rfl
theorem DA.putM (h : DA F H0 H a l c rest turn mix ls cs) (n : Int) : DPut H a (.str "mix") (.int n) (upd H a (.dK (drK l c rest turn n))) ∧ DA F H0 (upd H a (.dK (drK l c rest turn n))) a l c rest turn n ls cs := h.put (k := .inr "mix") rfl
theorem DA.new (h : DA F H0 H a l c rest turn mix ls cs) {p : Addr} {o : HO} (hp : H p = none) (h0 : H0 p = none) : DA F H0 (upd H p o) a l c rest turn mix ls cs := by
  have n1 : a ≠ p := fun z => by subst z; rw [h.ha] at hp; cases hp
  have n2 : l ≠ p := fun z => by subst z; rw [h.hl] at hp; cases hp
  have n3 : c ≠ p := fun z => by subst z; rw [h.hc] at hp; cases hp
  refine ⟨h.nal, h.nac, h.nlc, by rw [upd_ne n1]; exact h.ha, by rw [upd_ne n2]; exact h.hl, by rw [upd_ne n3]; exact h.hc, fun b hb h1 h2 => ?_⟩
  have : b ≠ p := fun z => by subst z; exact hb h0
  rw [upd_ne this]; exact h.keep b hb h1 h2
theorem DA.pop (h : DA F H0 H a l c rest turn mix ls cs) (ls' : List Int) : DA F H0 (upd H l (.lst (lits ls'))) a l c rest turn mix ls' cs := by
  refine ⟨h.nal, h.nac, h.nlc, by rw [upd_ne h.nal]; exact h.ha, upd_same, by rw [upd_ne h.nlc.symm]; exact h.hc, fun b hb h1 h2 => by rw [upd_ne h2]; exact h.keep b hb h1 h2⟩
theorem DA.free (h : DA F H0 H a l c rest turn mix ls cs) (h1 : H0 a ≠ none) (h2 : H0 l ≠ none) {p : Addr} (hp : H p = none) : H0 p = none := by
  cases q : H0 p with
  | none => rfl
  | some o =>
    exfalso
    have n1 : p ≠ a := fun z => by subst z; rw [h.ha] at hp; cases hp
    have n2 : p ≠ l := fun z => by subst z; rw [h.hl] at hp; cases hp
    rw [h.keep p (by rw [q]; simp) n1 n2, q] at hp
    cases hp
end
theorem dp_lits {K : PySem.W.Frag} {H : Hp} {l : Addr} {ls : List Int} (h : H l = some (.lst (lits ls))) : Dp K H (.ref l) (.list (ls.map .int)) := by
  have r : RepL K (fun _ => none) H (ls.map D.int) (lits ls) := RepL.map K _ D.int V.int (fun _ => rfl) ls
  exact dp_of (K := K) (mg := fun _ => none) (Mono.refl H) (.lst (ls.map .int)) (.ref l) _ ⟨l, _, rfl, h, r⟩ (by show (toPs (ls.map D.int)).map PyData.list = _; rw [toPs_map (f := D.int) (g := PyData.int) (fun _ => rfl)]; rfl)
theorem shaped_ints (ls : List Int) : SeqAt.shaped (.list (ls.map .int)) = true := by
  have h1 : PyData.canLayAll0 (ls.map PyData.int) = true := canAll (g := PyData.int) fun _ _ => rfl
  have h2 : PyData.depthAll (ls.map PyData.int) ≤ 1 := depAll (g := PyData.int) fun _ _ => by simp [PyData.depth]
  unfold SeqAt.shaped
  have c : PyData.canLay0 (.list (ls.map .int)) = true := by rw [PyData.canLay0]; exact h1
  have d : PyData.depth (.list (ls.map .int)) ≤ 64 := by rw [PyData.depth]; omega
  rw [c, decide_eq_true d]
  rfl
theorem eqv_nil (ls : List Int) : PyData.eqv (.list (ls.map .int)) (.list []) = ls.isEmpty := by
  cases ls <;> rfl
/-! ### _law_take -/
def tg (x : Str) : TE := tDGet (tVar 0) (tC (.str x))
def rDM : List V → Hp → VK → Prop := fun xs H Q => ∃ i j, xs = [V.int i, V.int j] ∧ CDiv i j ∧ ∀ p, H p = none → Q (.ref p) (upd H p (.tup [.int (i / j), .int (i % j)]))
def rInt1 : List V → Hp → VK → Prop := fun xs H Q => (∃ i, xs = [V.int i] ∧ Q (V.int i) H) ∨ ∃ k, xs = [V.bl k] ∧ Q (V.int (if k = true then 1 else 0)) H
def rPl : R2 := rI0 fun i j => .int (i + j)
def rMl : R2 := rI CMul fun i j => .int (i * j)
def rMd : R2 := rI (fun _ j => 0 < j) fun i j => .int (i % j)
def rPw : R2 := rI CPow fun i j => .int (i ^ j.toNat)
def t_takeEnd (K : PySem.W.Frag) : TS := tSeq (tAsg (tCB rDM (tCons (tg "rest") (tCons (tVar 1) tNil))) (gTup K 2 (gCons (gSub (tVar 0) (tC (.str "rest")) rSetD) (gCons (gName 3) gNil)))) (tRet (tVar 3))
def t_mix : TS := sDPut (tVar 0) (tC (.str "mix")) (tOp rMd (tCB rInt1 (tCons (tOp rPl (tOp rPl (tOp rMl (tg "mix") (tC (.int 69621))) (tOp rMl (tVar 2) (tC (.int 48271)))) (tC (.int 12345))) tNil)) (tC (.int 2147483629)))
def t_more (K : PySem.W.Frag) : TS := tSeq (sDPut (tVar 0) (tC (.str "turn")) (tOp rPl (tg "turn") (tC (.int 1)))) (tSeq (tFor (iList K (tOp rCat (tLst (tCons (tg "turn") tNil)) (tg "cells"))) (gName 2) t_mix)
  (sDPut (tVar 0) (tC (.str "rest")) (tOp rMd (tCB rInt1 (tCons (tOp rPw (tg "mix") (tC (.int 5))) tNil)) (tC (.int 2305843009213693951)))))
def t_take (K : PySem.W.Frag) : TS := tSeq (tIfS (tAnd (tTest (tOp rEq (tg "rest") (tC (.int 0)))) (tTest (tOp (rNeD K) (tg "large") (tLst tNil))))
  (sDPut (tVar 0) (tC (.str "rest")) (tBM K "list" rPopAt (tg "large") (tCons (tC (.int 0)) tNil)))
  (tIfS (tTest (tOp rEq (tg "rest") (tC (.int 0)))) (t_more K) tNext)) (t_takeEnd K)
section
variable {K : PySem.W.Frag} {F H0 H : Hp} {a l c : Addr} {rest turn mix : Int} {ls cs : List Int}
/-- the state's numbers are as they must be -/
structure DN (rest turn mix : Int) (ls cs : List Int) : Prop where
  r0 : 0 ≤ rest
  t0 : 0 ≤ turn
  m0 : 0 ≤ mix
  m1 : mix < 2147483629
  l0 : ls.length ≤ 63
  l1 : ∀ x ∈ ls, 0 ≤ x
  c0 : cs.length ≤ 63
theorem read_end (D : DA F H0 H a l c rest turn mix ls cs) (N : DN rest turn mix ls cs) (za : H0 a ≠ none) (zl : H0 l ≠ none) {n : Int} (hn : 0 < n) (hn2 : n < 1073741824) {E : Ends} (hq : ∀ m H' r, 0 ≤ m → m < n → DA F H0 H' a l c r turn mix ls cs → DN r turn mix ls cs → (∀ b, H0 b ≠ none → H' b ≠ none) → E.rt (.int m) H') {x2 x3 : Option V} :
    t_takeEnd K E [some (.ref a), some (.int n), x2, x3] H := by
  refine ⟨_, rfl, a, _, rfl, D.gRest, _, rfl, _, _, rfl, ⟨hn, hn2⟩, fun p hp => ?_⟩
  have hp0 := D.free za zl hp
  have D1 := D.new (o := .tup [.int (rest / n), .int (rest % n)]) hp hp0
  obtain ⟨u1, D2⟩ := D1.putR (rest / n)
  refine ⟨p, [.int (rest / n), .int (rest % n)], rfl, .inl (.inl upd_same), rfl, ?_⟩
  refine ⟨_, _, rfl, _, rfl, a, _, rfl, u1, _, _, rfl, rfl, _, rfl, ?_⟩
  refine hq _ _ _ (Int.emod_nonneg _ (by omega)) (Int.emod_lt_of_pos _ hn) D2 ⟨Int.ediv_nonneg N.r0 (by omega), N.t0, N.m0, N.m1, N.l0, N.l1, N.c0⟩ fun b hb => ?_
  by_cases e1 : b = a
  · subst e1; rw [D2.ha]; simp
  · by_cases e2 : b = l
    · subst e2; rw [D2.hl]; simp
    · rw [D2.keep b hb e1 e2]; exact hb
theorem read_more (D : DA F H0 H a l c rest turn mix ls cs) (N : DN rest turn mix ls cs) (za : H0 a ≠ none) (zl : H0 l ≠ none) {E : Ends} {x1 x2 x3 : Option V} (hq : ∀ H' r t m y2, DA F H0 H' a l c r t m ls cs → DN r t m ls cs → E.nx [some (.ref a), x1, y2, x3] H') :
    t_more K E [some (.ref a), x1, x2, x3] H := by
  obtain ⟨u1, D1⟩ := D.putT (turn + 1)
  refine ⟨_, rfl, a, _, rfl, D.gTurn, _, _, rfl, rfl, _, rfl, a, _, rfl, u1, ?_⟩
  have hs : (1 : Nat) ≤ sizeLine := by rw [sizeLine_eq]; decide
  refine ⟨_, rfl, a, _, rfl, D1.gTurn, hs, fun p hp => ?_⟩
  have D2 := D1.new (o := .lst [.int (turn + 1)]) hp (D1.free za zl hp)
  refine ⟨_, rfl, a, _, rfl, D2.gCells, p, c, [.int (turn + 1)], lits cs, rfl, rfl, upd_same, D2.hc, by have := N.c0; simp [lits, sizeLine_eq]; omega, fun q hq' => ?_⟩
  have D3 := D2.new (o := .lst ([.int (turn + 1)] ++ lits cs)) hq' (D2.free za zl hq')
  have n1 : q ≠ a := fun z => by subst z; rw [D2.ha] at hq'; cases hq'
  refine ⟨q, rfl, ⟨_, .inl (.inl upd_same)⟩, for_list (K := K) (a := q) (xs := lits ((turn + 1) :: cs)) (fun i σ H' => ∃ m y2, σ = [some (.ref a), x1, y2, x3] ∧ DA F H0 H' a l c rest (turn + 1) m ls cs ∧ 0 ≤ m ∧ m < 2147483629 ∧ H' q = some (.lst (lits ((turn + 1) :: cs)))) ⟨mix, x2, rfl, D3, N.m0, N.m1, upd_same⟩ (fun i σ H' _ ⟨_, _, _, _, _, _, h⟩ => .inl (.inl h)) ?_ ?_⟩
  · rintro i y σ H' hi ⟨m, y2, rfl, Di, m0, m1, hq2⟩
    obtain ⟨z, rfl⟩ : ∃ z, y = V.int z := by
      unfold lits at hi
      rw [List.getElem?_map] at hi
      cases e : ((turn + 1) :: cs)[i]? with
      | none => rw [e] at hi; cases hi
      | some z => rw [e] at hi; exact ⟨z, (Option.some.inj hi).symm⟩
    obtain ⟨u2, Dj⟩ := Di.putM ((m * 69621 + z * 48271 + 12345) % 2147483629)
    refine ⟨_, rfl, a, _, rfl, Di.gMix, _, _, rfl, rfl, .inr ⟨by decide, by decide⟩, _, rfl, _, _, rfl, rfl, .inr ⟨by decide, by decide⟩, _, _, rfl, rfl, _, _, rfl, rfl, .inl ⟨_, rfl, _, _, rfl, rfl, (by show (0 : Int) < _; decide), _, rfl, a, _, rfl, u2, ?_⟩⟩
    exact ⟨_, some (.int z), rfl, Dj, Int.emod_nonneg _ (by decide), Int.emod_lt_of_pos _ (by decide), by rw [upd_ne n1]; exact hq2⟩
  · rintro σ H' ⟨m, y2, rfl, Di, m0, m1, hq2⟩
    obtain ⟨u2, Dj⟩ := Di.putR ((m ^ (5 : Int).toNat) % 2305843009213693951)
    refine ⟨_, rfl, a, _, rfl, Di.gMix, _, _, rfl, rfl, ⟨by decide, by decide, by omega⟩, .inl ⟨_, rfl, _, _, rfl, rfl, (by show (0 : Int) < _; decide), _, rfl, a, _, rfl, u2, ?_⟩⟩
    exact hq _ _ _ _ _ Dj ⟨Int.emod_nonneg _ (by decide), by have := N.t0; omega, m0, m1, N.l0, N.l1, N.c0⟩
theorem read_take (D : DA F H0 H a l c rest turn mix ls cs) (N : DN rest turn mix ls cs) (za : H0 a ≠ none) (zl : H0 l ≠ none) {n : Int} (hn : 0 < n) (hn2 : n < 1073741824) {E : Ends} (hq : ∀ m H' r t mx ls', 0 ≤ m → m < n → DA F H0 H' a l c r t mx ls' cs → DN r t mx ls' cs → (∀ b, H0 b ≠ none → H' b ≠ none) → E.rt (.int m) H') :
    t_take K E [some (.ref a), some (.int n), none, none] H := by
  have fin : ∀ {H' : Hp} {r t mx : Int} {ls' : List Int} {x2 x3 : Option V}, DA F H0 H' a l c r t mx ls' cs → DN r t mx ls' cs → t_takeEnd K E [some (.ref a), some (.int n), x2, x3] H' := fun D' N' => read_end D' N' za zl hn hn2 fun m H' r h1 h2 h3 h4 h5 => hq m H' r _ _ _ h1 h2 h3 h4 h5
  -- the lower test, from a state whose rest is told
  have low : ∀ {H' : Hp} {r : Int}, DA F H0 H' a l c r turn mix ls cs → DN r turn mix ls cs → tIfS (tTest (tOp rEq (tg "rest") (tC (.int 0)))) (t_more K) tNext { E with nx := t_takeEnd K E } [some (.ref a), some (.int n), none, none] H' := by
    intro H' r D' N'
    refine ⟨_, rfl, a, _, rfl, D'.gRest, rfl, _, rfl, ite2 (fun _ => ?_) fun _ => ?_⟩
    · exact read_more D' N' za zl fun H2 r t m y2 D2 N2 => fin D2 N2
    · exact fin D' N'
  refine ⟨_, rfl, a, _, rfl, D.gRest, rfl, _, rfl, ite2 (fun hr => ?_) fun hr => iteF (low D N)⟩
  refine ⟨_, rfl, a, _, rfl, D.gLarge, (by rw [sizeLine_eq]; decide : (0 : Nat) ≤ sizeLine), fun p hp => ?_⟩
  have D1 := D.new (o := .lst []) hp (D.free za zl hp)
  have d2 : Dp K (upd H p (.lst [])) (.ref p) (.list []) := by
    have := dp_lits (K := K) (H := upd H p (.lst [])) (l := p) (ls := []) upd_same
    exact this
  refine ⟨_, _, dp_lits D1.hl, d2, shaped_ints ls, shaped_ints [], _, rfl, ?_⟩
  rw [eqv_nil]
  cases ls with
  | nil => exact iteF (low D1 N)
  | cons x ls =>
    refine iteT ?_
    have l2 : (lits (x :: ls)).length = ls.length + 1 := by simp [lits]
    refine ⟨_, rfl, a, _, rfl, D1.gLarge, .inl ⟨rfl, _, .inl (.inl D1.hl)⟩, l, lits (x :: ls), 0, 0, .int x, rfl, rfl, D1.hl, by decide, by decide, ?_, rfl, ?_⟩
    · unfold seqIndex?
      rw [l2]
      simp
    · have D3 := D1.pop ls
      obtain ⟨u4, D4⟩ := D3.putR x
      exact ⟨_, rfl, a, _, rfl, u4, fin D4 ⟨N.l1 x List.mem_cons_self, N.t0, N.m0, N.m1, by have := N.l0; simp at this; omega, fun y hy => N.l1 y (List.mem_cons_of_mem _ hy), N.c0⟩⟩
end
section
variable {K : PySem.W.Frag} {mg : Str → Option Value}
theorem sp_len {fs : FS} {n : Nat} {vs : List V} {H : Hp} {Q : VK} {E : XK} (h : spOf K mg fs n vs H Q E) : vs.length = n := by
  obtain ⟨c, args, Qp, Ep, ok, rfl, h1, h2, h3, _⟩ := h
  have := ok.len
  rw [h1, h2] at this
  simp at this
  omega
theorem take_sp {N : List Str} (hN : N.length = 4) {vs : List V} {H : Hp} {Q : VK} {E : XK} (h : spOf K mg fs__law_take 2 vs H Q E) : t_take K { nx := fun _ H' => Q .non H', rt := Q } (L2.start N vs) H := by
  have hl := sp_len h
  obtain ⟨c0, args, Qp, Ep, ok, rfl, h1, h2, h3, h4, ⟨n, rfl, hn, hn2, q⟩, h6, h7⟩ := h
  obtain ⟨v0, hv0, a, l, rfl, hft, dr⟩ := ok.own (i := 0) (b := true) (d := .draw) (by rw [h2]; rfl)
  obtain ⟨v1, hv1, rv1, _⟩ := ok.val (i := 1) (d := .int n) (by rw [h2]; rfl)
  have rv1' : v1 = .int n := rv1
  subst rv1'
  have ev : vs = [.ref a, .int n] := by
    match vs, hl, h1 with
    | [x, y], _, h1 =>
      rw [h1] at hv0 hv1
      simp at hv0 hv1
      rw [hv0, hv1]
  subst ev
  have hst : L2.start N [V.ref a, V.int n] = [some (V.ref a), some (V.int n), none, none] := by
    unfold L2.start
    rw [hN]
    rfl
  rw [hst]
  obtain ⟨nal, ⟨c, rest, turn, mix, ha, k1, k2, k3, k4, cs, hc, hcs⟩, ls, hl, hls, hlp⟩ := dr
  obtain ⟨fa, za⟩ := ok.out 0 a (by rw [hft]; simp)
  obtain ⟨fl, zl⟩ := ok.out 0 l (by rw [hft]; simp)
  have na : a ≠ c := fun z => by subst z; rw [hc] at fa; cases fa
  have nl : l ≠ c := fun z => by subst z; rw [hc] at fl; cases fl
  have D : DA c0.F c0.H c0.H a l c rest turn mix ls cs := ⟨nal, na, nl, ha, hl, ok.sub.lst hc, fun _ _ _ _ => rfl⟩
  refine read_take D ⟨k1, k2, k3, k4, hls, hlp, hcs⟩ za zl hn hn2 fun m H' r t mx ls' m0 m1 D' N' gr => ?_
  have own' : DrawAt c0.F H' a l := ⟨nal, ⟨c, r, t, mx, D'.ha, N'.r0, N'.t0, N'.m0, N'.m1, cs, hc, N'.c0⟩, ls', D'.hl, N'.l0, N'.l1⟩
  have sub' : Mono c0.F H' := fun b o e => by
    have e2 := ok.sub b o e
    have e3 := ok.sub.ne e
    have n1 : b ≠ a := fun z => by subst z; rw [e] at fa; cases fa
    have n2 : b ≠ l := fun z => by subst z; rw [e] at fl; cases fl
    rw [D'.keep b e3 n1 n2]; exact e2
  have tb' : LamX.Tabs HasT.T H' := tabs_keep ok.tabs fun b o e n => by
    rw [D'.keep b (by rw [e]; simp) (fun z => by subst z; rw [ha] at e; cases e; exact n True.intro) (fun z => by subst z; rw [hl] at e; cases e; exact n True.intro)]
    exact e
  have kp' : ∀ b, c0.F b = none → c0.H b ≠ none → tupCl c0.F H' b = none ∨ b = a ∨ b = l := fun b h1 h2 => by
    by_cases n1 : b = a
    · exact .inr (.inl n1)
    · by_cases n2 : b = l
      · exact .inr (.inr n2)
      · refine .inl ?_
        rcases tupCl_cases c0.F H' b with ⟨xs, e1, _⟩ | ⟨_, e2⟩
        · rw [D'.keep b h2 n1 n2] at e1
          rw [ok.tf b xs e1] at h1; cases h1
        · rw [e2]; exact h1
  have mm := tupCl_mono sub'
  have own'' : DrawAt (tupCl c0.F H') H' a l := by
    obtain ⟨z1, ⟨z2, z3, z4, z5, z6, z7, z8, z9, z10, z11, z12, z13⟩, z14⟩ := own'
    exact ⟨z1, ⟨z2, z3, z4, z5, z6, z7, z8, z9, z10, z11, mm.lst z12, z13⟩, z14⟩
  have n0 : ∀ b, (b = a ∨ b = l) → tupCl c0.F H' b = none := fun b hb => by
    obtain ⟨_, ⟨_, _, _, _, e1, _⟩, _, e2, _⟩ := own'
    rcases hb with rfl | rfl
    · rw [tupCl_not (by rw [e1]; intro xs z; cases z)]; exact fa
    · rw [tupCl_not (by rw [e2]; intro xs z; cases z)]; exact fl
  refine h7 (.int m) (tupCl c0.F H') H' (.val (.int m)) [.own true .draw, .val (.int n)] c0.fp ⟨mm, fun b hb1 hb2 hb3 _ => ⟨by
    rcases kp' b hb1 hb2 with q | q | q
    · exact q
    · exact absurd (by rw [hft, q]; simp) (hb3 0)
    · exact absurd (by rw [hft, q]; simp) (hb3 0), D'.keep b hb2 (fun z => hb3 0 (by rw [hft, z]; simp)) (fun z => hb3 0 (by rw [hft, z]; simp))⟩, gr⟩ (tupCl_sub sub') (tupCl_tf _ _) tb' ⟨rfl, fun i d hd => ?_, ok.disj⟩ rfl (q m m0 m1)
  match i, hd with
  | 0, hd =>
    cases hd
    refine ⟨.draw, .ref a, rfl, hv0, ⟨a, l, rfl, hft, own''⟩, fun b hb => ?_, Grw.refl _ _⟩
    rw [hft] at hb
    simp at hb
    rcases hb with rfl | rfl
    · exact ⟨n0 _ (.inl rfl), gr _ za⟩
    · exact ⟨n0 _ (.inr rfl), gr _ zl⟩
  | 1, hd => cases hd
  | i + 2, hd => simp at hd
end
/-! ### _law_begin -/
def rAb : List V → Hp → VK → Prop := fun xs H Q => ∃ i, xs = [V.int i] ∧ Q (.int (if i < 0 then -i else i)) H
def rGe : R2 := rI0 fun i j => .bl (decide (i ≥ j))
def rLs (K : PySem.W.Frag) : List V → Hp → VK → Prop := fun xs H Q => ∃ p ys, xs = [.ref p] ∧ (SqL K H p ys ∨ SqT K H p ys) ∧ ∀ l, H l = none → Q (.ref l) (upd H l (.lst ys))
def t_begin (K : PySem.W.Frag) : TS := tSeq (tAsg (tLc (iList K (tVar 0)) (gName 2) (tTest (tOp rGe (tCB rAb (tCons (tVar 2) tNil)) (tOp rPw (tC (.int 10)) (tC (.int 18))))) (tCB rAb (tCons (tVar 2) tNil)) [2]) (gName 1))
  (tRet (tDisp [(tC (.str "large"), tVar 1), (tC (.str "cells"), tCB (rLs K) (tCons (tVar 0) tNil)), (tC (.str "rest"), tC (.int 0)), (tC (.str "turn"), tC (.int 0)), (tC (.str "mix"), tC (.int 7))]))
theorem lits_len (l : List Int) : (lits l).length = l.length := by simp [lits]
theorem lits_get {l : List Int} {i : Nat} {x : V} (h : (lits l)[i]? = some x) : ∃ z, x = .int z ∧ l[i]? = some z := by
  unfold lits at h
  rw [List.getElem?_map] at h
  cases e : l[i]? with
  | none => rw [e] at h; cases h
  | some z => rw [e] at h; exact ⟨z, (Option.some.inj h).symm, rfl⟩
section
variable {K : PySem.W.Frag}
theorem read_begin {H0 : Hp} {a : Addr} {ns : List Int} (ha : SqL K H0 a (lits ns)) (hn : ns.length ≤ 63) {E : Ends}
    (hq : ∀ A D q H' ls, A ≠ D → H0 A = none → H0 D = none → H0 q = none → q ≠ A → q ≠ D → H' A = some (.dK (drK D q 0 0 7)) → H' D = some (.lst (lits ls)) → H' q = some (.lst (lits ns)) → ls.length ≤ 63 → (∀ x ∈ ls, 0 ≤ x) → (∀ b, H0 b ≠ none → H' b = H0 b) → E.rt (.ref A) H') :
    t_begin K E [some (.ref a), none, none] H0 := by
  have hz : (63 : Nat) < sizeLine := by rw [sizeLine_eq]; decide
  refine ⟨_, rfl, a, rfl, ⟨_, ha⟩, fun D hD => ?_⟩
  refine lc_list (K := K) (a := a) (xs := lits ns) (fun i H' => ∃ acc : List Int, H' D = some (.lst (lits acc)) ∧ acc.length ≤ i ∧ (∀ x ∈ acc, 0 ≤ x) ∧ ∀ b, H0 b ≠ none → H' b = H0 b) ⟨[], upd_same, Nat.le_refl _, (fun x hx => absurd hx (by simp)), fun b hb => upd_ne (fun z => by subst z; exact hb hD)⟩ (fun i H' _ ⟨_, _, _, _, k⟩ => Mono.sqL K (.of fun b o e => by rw [k b (by rw [e]; simp)]; exact e) ha) ?_ ?_
  · rintro i x H' hi ⟨acc, h1, h2, h3, h4⟩
    obtain ⟨z, rfl, hz1⟩ := lits_get hi
    have hil : i < ns.length := (List.getElem?_eq_some_iff.mp hz1).1
    refine ⟨rfl, _, rfl, _, rfl, _, _, rfl, rfl, ⟨by decide, by decide, by decide⟩, _, _, rfl, rfl, _, rfl, ite2 (fun _ => ?_) fun _ => ⟨acc, h1, by omega, h3, h4⟩⟩
    refine ⟨_, rfl, _, rfl, lits acc, h1, by rw [lits_len]; omega, acc ++ [if z < 0 then -z else z], ?_, by simp; omega, fun y hy => ?_, fun b hb => ?_⟩
    · rw [upd_same]; simp [lits]
    · rcases List.mem_append.mp hy with hy | hy
      · exact h3 y hy
      · rw [List.mem_singleton.mp hy]; split <;> omega
    · rw [upd_ne (fun w => by subst w; exact hb hD)]; exact h4 b hb
  · rintro H' ⟨ls, h1, h2, h3, h4⟩
    rw [lits_len] at h2
    intro A hA
    have eDA : D ≠ A := fun z => by subst z; rw [h1] at hA; cases hA
    have k0 : ∀ {b}, H' b = none → H0 b = none := fun {b} hb => by
      cases q : H0 b with
      | none => rfl
      | some o => rw [h4 b (by rw [q]; simp), q] at hb; cases hb
    have hs : SqL K (upd H' A (.dK [])) a (lits ns) := Mono.sqL K (.of fun b o e => by
      have hb : H0 b ≠ none := by rw [e]; simp
      rw [upd_ne (fun z => by subst z; exact hb (k0 hA)), h4 b hb]; exact e) ha
    refine ⟨_, rfl, _, rfl, a, lits ns, rfl, .inl hs, fun q hq' => ?_⟩
    have eqA : q ≠ A := fun z => by subst z; rw [upd_same] at hq'; cases hq'
    have hq2 : H' q = none := by rw [upd_ne eqA] at hq'; exact hq'
    have eqD : q ≠ D := fun z => by subst z; rw [h1] at hq2; cases hq2
    refine ⟨by rw [upd_ne eqA.symm, upd_same], [(.inr "large", .ref D), (.inr "cells", .ref q), (.inr "rest", .int 0), (.inr "turn", .int 0), (.inr "mix", .int 7)], rfl, ?_, ?_⟩
    · show (5 : Nat) ≤ _
      decide
    · refine hq A D q _ ls eDA.symm (k0 hA) hD (k0 hq2) eqA eqD upd_same ?_ ?_ (by omega) h3 fun b hb => ?_
      · rw [upd_ne eDA, upd_ne eqD.symm, upd_ne eDA]; exact h1
      · rw [upd_ne eqA, upd_same]
      · have n1 : b ≠ A := fun z => by subst z; exact hb (k0 hA)
        have n2 : b ≠ q := fun z => by subst z; exact hb (k0 hq2)
        rw [upd_ne n1, upd_ne n2, upd_ne n1]; exact h4 b hb
end
section
variable {K : PySem.W.Frag} {mg : Str → Option Value}
theorem lits_of {F : Hp} : ∀ {ns : List Int} {xs : List V}, RepL K mg F (ns.map .int) xs → xs = lits ns
  | [], xs, h => h
  | n :: ns, xs, h => by
    obtain ⟨x, r, rfl, h1, h2⟩ := h
    have h1' : x = .int n := h1
    rw [lits_of h2, h1']
    rfl
theorem begin_sp {N : List Str} (hN : N.length = 3) {vs : List V} {H : Hp} {Q : VK} {E : XK} (h : spOf K mg fs__law_begin 1 vs H Q E) : t_begin K { nx := fun _ H' => Q .non H', rt := Q } (L2.start N vs) H := by
  have hl := sp_len h
  obtain ⟨c0, args, Qp, Ep, ok, rfl, h1, h2, h3, h4, ⟨ns, rfl, hn, q⟩, h6, h7⟩ := h
  obtain ⟨v0, hv0, ⟨a, xs, rfl, hs, hr⟩, _⟩ := ok.val (i := 0) (d := .kst (ns.map .int)) (by rw [h2]; rfl)
  have exs := lits_of hr
  subst exs
  have ev : vs = [.ref a] := by
    match vs, hl, h1 with
    | [x], _, h1 =>
      rw [h1] at hv0
      simp at hv0
      rw [hv0]
  subst ev
  have hst : L2.start N [V.ref a] = [some (V.ref a), none, none] := by
    unfold L2.start
    rw [hN]
    rfl
  rw [hst]
  refine read_begin (Mono.sqL K ok.sub hs) hn fun A D p H' ls nAD zA zD zp npA npD hA hD hp l0 l1 kp => ?_
  have fA := fresh_F ok.sub zA
  have fD := fresh_F ok.sub zD
  have fp := fresh_F ok.sub zp
  have m := mono_upd (o := .lst (lits ns)) fp
  have own' : DrawAt (upd c0.F p (.lst (lits ns))) H' A D := ⟨nAD, ⟨p, 0, 0, 7, hA, by decide, by decide, by decide, by decide, ns, upd_same, hn⟩, ls, hD, l0, l1⟩
  have s1 : Mono (upd c0.F p (.lst (lits ns))) H' := fun b o e => by
    by_cases hb : b = p
    · subst hb; rw [upd_same] at e; cases e; exact ⟨_, hp, .refl _⟩
    · rw [upd_ne hb] at e
      rw [kp b (ok.sub.ne e)]; exact ok.sub b o e
  have mm := tupCl_mono s1
  have own'' : DrawAt (tupCl (upd c0.F p (.lst (lits ns))) H') H' A D := by
    obtain ⟨z1, ⟨z2, z3, z4, z5, z6, z7, z8, z9, z10, z11, z12, z13⟩, z14⟩ := own'
    exact ⟨z1, ⟨z2, z3, z4, z5, z6, z7, z8, z9, z10, z11, mm.lst z12, z13⟩, z14⟩
  refine h7 (.ref A) (tupCl (upd c0.F p (.lst (lits ns))) H') H' (.tmp .draw) (vals [.kst (ns.map .int)]) (fun _ => []) ⟨m.trans mm, fun b hb1 hb2 _ _ => ⟨?_, kp b hb2⟩, fun b hb => by rw [kp b hb]; exact hb⟩ (tupCl_sub s1) (tupCl_tf _ _) (ok.tabs.ext fun b o e => by rw [kp b (by rw [e]; simp)]; exact e) ⟨rfl, fun i d hd => ?_, fun i j b hb => by cases hb⟩ ⟨[A, D], ⟨A, D, rfl, rfl, own''⟩, fun b hb => ?_⟩ q
  · have n1 : b ≠ p := fun z => by subst z; exact hb2 zp
    rcases tupCl_cases (upd c0.F p (.lst (lits ns))) H' b with ⟨xs, e1, _⟩ | ⟨_, e2⟩
    · rw [kp b hb2] at e1
      rw [ok.tf b xs e1] at hb1; cases hb1
    · rw [e2, upd_ne n1]; exact hb1
  · match i, hd with
    | 0, hd => cases hd
    | i + 1, hd => simp at hd
  · simp at hb
    rcases hb with rfl | rfl
    · exact ⟨by rw [tupCl_not (by rw [hA]; intro xs z; cases z), upd_ne npA.symm]; exact fA, by rw [hA]; simp, zA, fun _ z => by cases z⟩
    · exact ⟨by rw [tupCl_not (by rw [hD]; intro xs z; cases z), upd_ne npD.symm]; exact fD, by rw [hD]; simp, zD, fun _ z => by cases z⟩
end
end PL
/-! LK1a: errors by class: the words of the law's own defs, what they promise. -/
namespace PL
open PySem PySem.Spec PyProof.Rows L2
variable [HasT]
def exAll : List Str := ["NoBlocks", "NoMove", "NoRules", "NoOperation", "NoZone", "NoGate", "NoNet", "TooMany", "InvalidText", "NoPackets", "NothingLeft"]
def tb_NoBlocks : Str → Option Bool := tbOf exAll ["NoBlocks"]
def tb_NoMove : Str → Option Bool := tbOf exAll ["NoMove"]
def tb_NoRules : Str → Option Bool := tbOf exAll ["NoRules"]
def tb_NoOperation : Str → Option Bool := tbOf exAll ["NoOperation"]
def tb_NoZone : Str → Option Bool := tbOf exAll ["NoZone"]
def tb_NoGate : Str → Option Bool := tbOf exAll ["NoGate"]
def tb_NoNet : Str → Option Bool := tbOf exAll ["NoNet"]
def tb_TooMany : Str → Option Bool := tbOf exAll ["TooMany"]
def tb_InvalidText : Str → Option Bool := tbOf exAll ["InvalidText"]
def tb_NoPackets : Str → Option Bool := tbOf exAll ["NoPackets"]
def tb_NothingLeft : Str → Option Bool := tbOf exAll ["NothingLeft"]
def tb_ValueError : Str → Option Bool := tbOf exAll exAll
def cat_GateError : Str → Bool := fun c => exAll.contains c
def okx_index : Str → Bool := fun c => (["NoBlocks", "NoMove", "NoRules", "NoOperation"] : List Str).contains c
def okx_line : Str → Bool := fun c => (["InvalidText"] : List Str).contains c
def okx_most : Str → Bool := fun c => (["TooMany"] : List Str).contains c
def okx_name : Str → Bool := fun c => (["NoZone", "NoGate"] : List Str).contains c
def okx_part : Str → Bool := fun c => (["NoNet"] : List Str).contains c
/-- word, class, field -/
structure XRow where
  w : Str
  c : Str
  f : Option Str
def xTab : List XRow := [⟨"blocks", "NoBlocks", some "index"⟩, ⟨"move", "NoMove", some "index"⟩, ⟨"rules", "NoRules", some "index"⟩, ⟨"operation", "NoOperation", some "index"⟩, ⟨"zone", "NoZone", some "name"⟩, ⟨"gate", "NoGate", some "name"⟩, ⟨"net", "NoNet", some "part"⟩, ⟨"many", "TooMany", some "most"⟩, ⟨"text", "InvalidText", some "line"⟩, ⟨"packets", "NoPackets", none⟩, ⟨"left", "NothingLeft", none⟩]
/-- the exception that a row raises with the value d -/
def XRow.fs (r : XRow) : List Str := match r.f with
  | some f => [f]
  | none => []
def XRow.xs (r : XRow) (d : D) : List D := match r.f with
  | some _ => [d]
  | none => []
/-- what it shows again -/
def XRow.back (r : XRow) (d : D) : D := match r.f with
  | some _ => d
  | none => .non
/-- the values that are drawn -/
def worths : List PyData := [.none, .str "a", .tuple [.int 1, .str "b"], .bool true, .int (-1), .list [.int 2]] ++ (List.range 99).map fun n : Nat => .int n
def shD (d : D) : Prop := ∃ p, toP d = some p ∧ p ∈ worths
def fs__law_raised : FS := fun args _ Ep => ∃ (r : XRow) (d : D), args = vals [.str r.w, d] ∧ r ∈ xTab ∧ shD d ∧ Ep ⟨r.c, r.fs, r.xs d⟩ args
def fs__law_field : FS := fun args Q _ => ∃ (i : Nat) (r : XRow) (d : D), args = vals [.exc r.c r.fs (r.xs d)] ∧ xTab[i]? = some r ∧ Q (.val (.tup [.int i, r.back d])) args
def fs_law : FS := fun args Q _ => ∃ ns : List Int, args = vals [.kst (ns.map .int)] ∧ ns.length ≤ 63 ∧ Q (.val (.bl true)) args
def w__law_pick : WS :=
  wRet (wOp2 gIx (wVar 1) (wCallF fs__law_take [] (wVc (wVar 0) (wVk (wCall gLen (wVc (wVar 1) (wVn))) (wVn)))))
def w__law_raised : WS :=
  wSeq (wIf (wB (wOp2 (gEq id) (wVar 0) (wC (.str "blocks")))) (wRaiseF "NoBlocks" "index" (wVar 1)) (wNext))
    (wSeq (wIf (wB (wOp2 (gEq id) (wVar 0) (wC (.str "move")))) (wRaiseF "NoMove" "index" (wVar 1)) (wNext))
    (wSeq (wIf (wB (wOp2 (gEq id) (wVar 0) (wC (.str "rules")))) (wRaiseF "NoRules" "index" (wVar 1)) (wNext))
    (wSeq (wIf (wB (wOp2 (gEq id) (wVar 0) (wC (.str "operation")))) (wRaiseF "NoOperation" "index" (wVar 1)) (wNext))
    (wSeq (wIf (wB (wOp2 (gEq id) (wVar 0) (wC (.str "zone")))) (wRaiseF "NoZone" "name" (wVar 1)) (wNext))
    (wSeq (wIf (wB (wOp2 (gEq id) (wVar 0) (wC (.str "gate")))) (wRaiseF "NoGate" "name" (wVar 1)) (wNext))
    (wSeq (wIf (wB (wOp2 (gEq id) (wVar 0) (wC (.str "net")))) (wRaiseF "NoNet" "part" (wVar 1)) (wNext))
    (wSeq (wIf (wB (wOp2 (gEq id) (wVar 0) (wC (.str "many")))) (wRaiseF "TooMany" "most" (wVar 1)) (wNext))
    (wSeq (wIf (wB (wOp2 (gEq id) (wVar 0) (wC (.str "text")))) (wRaiseF "InvalidText" "line" (wVar 1)) (wNext))
    (wSeq (wIf (wB (wOp2 (gEq id) (wVar 0) (wC (.str "packets")))) (wRaise0 "NoPackets" (wCall gStr (wVc (wVar 1) (wVn)))) (wNext))
    (wRaise0 "NothingLeft" (wCall gStr (wVc (wVar 1) (wVn)))))))))))))
def w__law_field : WS :=
  wSeq (wSet 1 (wLst (wKc (wIsi (fE tb_NoBlocks) (wVar 0)) (wKc (wIsi (fE tb_NoMove) (wVar 0)) (wKc (wIsi (fE tb_NoRules) (wVar 0)) (wKn))))))
    (wSeq (wSet 1 (wOp2 gAdd (wVar 1) (wLst (wKc (wIsi (fE tb_NoOperation) (wVar 0)) (wKc (wIsi (fE tb_NoZone) (wVar 0)) (wKc (wIsi (fE tb_NoGate) (wVar 0)) (wKn)))))))
    (wSeq (wSet 1 (wOp2 gAdd (wVar 1) (wLst (wKc (wIsi (fE tb_NoNet) (wVar 0)) (wKc (wIsi (fE tb_TooMany) (wVar 0)) (wKc (wIsi (fE tb_InvalidText) (wVar 0)) (wKn)))))))
    (wSeq (wSet 1 (wOp2 gAdd (wVar 1) (wLst (wKc (wIsi (fE tb_NoPackets) (wVar 0)) (wKc (wIsi (fE tb_NothingLeft) (wVar 0)) (wKn))))))
    (wSeq (wIf (wOrT (wB (wOp2 (gEq not) (wLm kCnt (wVar 1) (wC (.bl true))) (wC (.int 1)))) (wNotT (wB (wIsi (fE tb_ValueError) (wVar 0))))) (wRet (wC .non)) (wNext))
    (wSeq (wSet 2 (wLm kIdx (wVar 1) (wC (.bl true))))
    (wSeq (wIf (wB (wOp2 (gI fun i j => .bl (decide (i < j))) (wVar 2) (wC (.int 4)))) (wRet (wTup (wKc (wVar 2) (wKc (wXf okx_index "index" (wVar 0)) (wKn))))) (wNext))
    (wSeq (wIf (wB (wOp2 (gIn id) (wVar 2) (wTup (wKc (wC (.int 4)) (wKc (wC (.int 5)) (wKn)))))) (wRet (wTup (wKc (wVar 2) (wKc (wXf okx_name "name" (wVar 0)) (wKn))))) (wNext))
    (wSeq (wIf (wB (wOp2 (gEq id) (wVar 2) (wC (.int 6)))) (wRet (wTup (wKc (wVar 2) (wKc (wXf okx_part "part" (wVar 0)) (wKn))))) (wNext))
    (wSeq (wIf (wB (wOp2 (gEq id) (wVar 2) (wC (.int 7)))) (wRet (wTup (wKc (wVar 2) (wKc (wXf okx_most "most" (wVar 0)) (wKn))))) (wNext))
    (wRet (wIfE (wB (wOp2 (gEq id) (wVar 2) (wC (.int 8)))) (wTup (wKc (wVar 2) (wKc (wXf okx_line "line" (wVar 0)) (wKn)))) (wTup (wKc (wVar 2) (wKc (wC .non) (wKn)))))))))))))))
def wr__law_caught : WS := wRet (wVar 1)
def w_law : WS :=
  wSeq (wSet 1 (wCallF fs__law_begin [] (wVk (wVar 0) (wVn))))
    (wSeq (wSet 2 (wLst (wKc (wC (.str "blocks")) (wKc (wC (.str "move")) (wKc (wC (.str "rules")) (wKc (wC (.str "operation")) (wKc (wC (.str "zone")) (wKc (wC (.str "gate")) (wKc (wC (.str "net")) (wKc (wC (.str "many")) (wKc (wC (.str "text")) (wKc (wC (.str "packets")) (wKc (wC (.str "left")) (wKn))))))))))))))
    (wSeq (wFor (wRng1 (wOp2 gAdd (wC (.int 2)) (wCall gMin2 (wVc (wCall gLen (wVc (wVar 0) (wVn))) (wVc (wC (.int 5)) (wVn)))))) (wName 3) (wFor (wEnum (wVar 2)) (wUnp 2 (wGc (wName 4) (wGc (wName 5) (wGn)))) (wSeq (wSet 6 (wCallF fs__law_pick [] (wVc (wVar 1) (wVk (wLst (wKc (wC .non) (wKc (wC (.int 0)) (wKc (wCallF fs__law_take [] (wVc (wVar 1) (wVk (wC (.int 99)) (wVn)))) (wKc (wC (.str "a")) (wKc (wTup (wKc (wC (.int 1)) (wKc (wC (.str "b")) (wKn)))) (wKc (wC (.bl true)) (wKc (wOp1 gNeg (wC (.int 1))) (wKc (wLst (wKc (wC (.int 2)) (wKn))) (wKn)))))))))) (wVn)))))
    (wSeq (wSet 7 (wErr 3 1 cat_GateError wr__law_caught (wCallF fs__law_raised [] (wVk (wVar 5) (wVk (wVar 6) (wVn))))))
    (wIf (wB (wOp2 (gEq not) (wCall gRepr (wVc (wCallF fs__law_field [] (wVk (wVar 7) (wVn))) (wVn))) (wCall gRepr (wVc (wTup (wKc (wVar 4) (wKc (wIfE (wB (wOp2 (gI fun i j => .bl (decide (i < j))) (wVar 4) (wC (.int 9)))) (wVar 6) (wC .non)) (wKn)))) (wVn))))) (wRet (wC (.bl false))) (wNext))))))
    (wRet (wC (.bl true)))))
end PL
local macro_rules
  | `(tactic| simp only [$xs,*] $[$loc:location]?) => do
    let mut out := #[]
    let mut hit := false
    for x in xs.getElems do
      if x.raw.isOfKind ``Lean.Parser.Tactic.simpLemma && x.raw[2].getId.eraseMacroScopes == `PDS then
        hit := true
        for y in #[`(Lean.Parser.Tactic.simpLemma| PL.isBx_box), `(Lean.Parser.Tactic.simpLemma| PL.unB_box), `(Lean.Parser.Tactic.simpLemma| PL.fQ_box), `(Lean.Parser.Tactic.simpLemma| PL.frzO_v), `(Lean.Parser.Tactic.simpLemma| PL.frzO_o), `(Lean.Parser.Tactic.simpLemma| PL.frzR_v), `(Lean.Parser.Tactic.simpLemma| PL.frzR_s), `(Lean.Parser.Tactic.simpLemma| PL.isBx_non), `(Lean.Parser.Tactic.simpLemma| PL.isBx_bl), `(Lean.Parser.Tactic.simpLemma| PL.isBx_int), `(Lean.Parser.Tactic.simpLemma| PL.isBx_str), `(Lean.Parser.Tactic.simpLemma| PL.isBx_tup), `(Lean.Parser.Tactic.simpLemma| PL.isBx_lst), `(Lean.Parser.Tactic.simpLemma| PL.isBx_dic), `(Lean.Parser.Tactic.simpLemma| PL.isBx_dit), `(Lean.Parser.Tactic.simpLemma| PL.isBx_obj), `(Lean.Parser.Tactic.simpLemma| PL.isBx_kst), `(Lean.Parser.Tactic.simpLemma| PL.isBx_exc), `(Lean.Parser.Tactic.simpLemma| PL.fQ_non), `(Lean.Parser.Tactic.simpLemma| PL.fQ_bl), `(Lean.Parser.Tactic.simpLemma| PL.fQ_int), `(Lean.Parser.Tactic.simpLemma| PL.fQ_str), `(Lean.Parser.Tactic.simpLemma| PL.fQ_tup), `(Lean.Parser.Tactic.simpLemma| PL.fQ_lst), `(Lean.Parser.Tactic.simpLemma| PL.fQ_dic), `(Lean.Parser.Tactic.simpLemma| PL.fQ_dit), `(Lean.Parser.Tactic.simpLemma| PL.fQ_obj), `(Lean.Parser.Tactic.simpLemma| PL.fQ_kst), `(Lean.Parser.Tactic.simpLemma| PL.fQ_exc), `(Lean.Parser.Tactic.simpLemma| PL.x_Vk), `(Lean.Parser.Tactic.simpLemma| PL.backA_dr), `(Lean.Parser.Tactic.simpLemma| PL.noS_nil), `(Lean.Parser.Tactic.simpLemma| PL.noS_v), `(Lean.Parser.Tactic.simpLemma| PL.isDr_s), `(Lean.Parser.Tactic.simpLemma| PL.anySlot_v), `(Lean.Parser.Tactic.simpLemma| PL.isSlot_v), `(Lean.Parser.Tactic.simpLemma| PL.isSlot_s), `(Lean.Parser.Tactic.simpLemma| PL.ndS_slot), `(Lean.Parser.Tactic.simpLemma| PL.kIf_t), `(Lean.Parser.Tactic.simpLemma| PL.kIf_f), `(Lean.Parser.Tactic.simpLemma| PL.oK_s), `(Lean.Parser.Tactic.simpLemma| PL.kV_val), `(Lean.Parser.Tactic.simpLemma| PL.kV_tmp), `(Lean.Parser.Tactic.simpLemma| PL.kV_slot), `(Lean.Parser.Tactic.simpLemma| PL.frz_lst), `(Lean.Parser.Tactic.simpLemma| PL.frz_dic), `(Lean.Parser.Tactic.simpLemma| PL.frz_obj), `(Lean.Parser.Tactic.simpLemma| PL.kK_val), `(Lean.Parser.Tactic.simpLemma| PL.kK_tmp), `(Lean.Parser.Tactic.simpLemma| PL.kKo_v), `(Lean.Parser.Tactic.simpLemma| PL.kKo_o), `(Lean.Parser.Tactic.simpLemma| PL.kK_slot), `(Lean.Parser.Tactic.simpLemma| PL.kB_bl), `(Lean.Parser.Tactic.simpLemma| PL.kSo_int), `(Lean.Parser.Tactic.simpLemma| PL.x_seq), `(Lean.Parser.Tactic.simpLemma| PL.x_next), `(Lean.Parser.Tactic.simpLemma| PL.x_break), `(Lean.Parser.Tactic.simpLemma| PL.x_expr), `(Lean.Parser.Tactic.simpLemma| PL.kRet_val), `(Lean.Parser.Tactic.simpLemma| PL.kRet_tmp), `(Lean.Parser.Tactic.simpLemma| PL.kRo_v), `(Lean.Parser.Tactic.simpLemma| PL.kRo_o), `(Lean.Parser.Tactic.simpLemma| PL.kRet_slot), `(Lean.Parser.Tactic.simpLemma| PL.x_ret), `(Lean.Parser.Tactic.simpLemma| PL.x_retN), `(Lean.Parser.Tactic.simpLemma| PL.x_if), `(Lean.Parser.Tactic.simpLemma| PL.x_asg), `(Lean.Parser.Tactic.simpLemma| PL.frO_n), `(Lean.Parser.Tactic.simpLemma| PL.frO_v), `(Lean.Parser.Tactic.simpLemma| PL.frO_o), `(Lean.Parser.Tactic.simpLemma| PL.x_frS), `(Lean.Parser.Tactic.simpLemma| PL.kSet_val), `(Lean.Parser.Tactic.simpLemma| PL.kSet_tmp), `(Lean.Parser.Tactic.simpLemma| PL.kSl_v), `(Lean.Parser.Tactic.simpLemma| PL.kSl_o), `(Lean.Parser.Tactic.simpLemma| PL.kSet_slot), `(Lean.Parser.Tactic.simpLemma| PL.x_set), `(Lean.Parser.Tactic.simpLemma| PL.x_for), `(Lean.Parser.Tactic.simpLemma| PL.x_name), `(Lean.Parser.Tactic.simpLemma| PL.x_gn), `(Lean.Parser.Tactic.simpLemma| PL.x_gc), `(Lean.Parser.Tactic.simpLemma| PL.x_unpT), `(Lean.Parser.Tactic.simpLemma| PL.x_unpL), `(Lean.Parser.Tactic.simpLemma| PL.vlO_n), `(Lean.Parser.Tactic.simpLemma| PL.vlO_v), `(Lean.Parser.Tactic.simpLemma| PL.x_vlS), `(Lean.Parser.Tactic.simpLemma| PL.kAug_int), `(Lean.Parser.Tactic.simpLemma| PL.kAu_i), `(Lean.Parser.Tactic.simpLemma| PL.x_aug), `(Lean.Parser.Tactic.simpLemma| PL.kSF_ok), `(Lean.Parser.Tactic.simpLemma| PL.kSetF_s), `(Lean.Parser.Tactic.simpLemma| PL.x_setF), `(Lean.Parser.Tactic.simpLemma| PL.entOf_val), `(Lean.Parser.Tactic.simpLemma| PL.entOf_tmp), `(Lean.Parser.Tactic.simpLemma| PL.freeE_ok), `(Lean.Parser.Tactic.simpLemma| PL.x_par), `(Lean.Parser.Tactic.simpLemma| PL.kVar_v), `(Lean.Parser.Tactic.simpLemma| PL.kVar_o), `(Lean.Parser.Tactic.simpLemma| PL.x_var), `(Lean.Parser.Tactic.simpLemma| PL.x_C), `(Lean.Parser.Tactic.simpLemma| PL.pk1_val), `(Lean.Parser.Tactic.simpLemma| PL.pk1_tmp), `(Lean.Parser.Tactic.simpLemma| PL.kPk_s), `(Lean.Parser.Tactic.simpLemma| PL.pk1_slot), `(Lean.Parser.Tactic.simpLemma| PL.x_V), `(Lean.Parser.Tactic.simpLemma| PL.x_K), `(Lean.Parser.Tactic.simpLemma| PL.x_op1), `(Lean.Parser.Tactic.simpLemma| PL.x_op2), `(Lean.Parser.Tactic.simpLemma| PL.x_B), `(Lean.Parser.Tactic.simpLemma| PL.x_notT), `(Lean.Parser.Tactic.simpLemma| PL.x_andT), `(Lean.Parser.Tactic.simpLemma| PL.x_orT), `(Lean.Parser.Tactic.simpLemma| PL.x_and), `(Lean.Parser.Tactic.simpLemma| PL.x_or), `(Lean.Parser.Tactic.simpLemma| PL.x_not), `(Lean.Parser.Tactic.simpLemma| PL.x_ife), `(Lean.Parser.Tactic.simpLemma| PL.kCh_t), `(Lean.Parser.Tactic.simpLemma| PL.kCh_f), `(Lean.Parser.Tactic.simpLemma| PL.x_chain), `(Lean.Parser.Tactic.simpLemma| PL.x_Kn), `(Lean.Parser.Tactic.simpLemma| PL.x_Kc), `(Lean.Parser.Tactic.simpLemma| PL.x_Vn), `(Lean.Parser.Tactic.simpLemma| PL.x_Vc), `(Lean.Parser.Tactic.simpLemma| PL.x_tup), `(Lean.Parser.Tactic.simpLemma| PL.x_lst), `(Lean.Parser.Tactic.simpLemma| PL.x_dic), `(Lean.Parser.Tactic.simpLemma| PL.x_None), `(Lean.Parser.Tactic.simpLemma| PL.x_Some), `(Lean.Parser.Tactic.simpLemma| PL.x_Sl), `(Lean.Parser.Tactic.simpLemma| PL.gSl_lst), `(Lean.Parser.Tactic.simpLemma| PL.gSl_tup), `(Lean.Parser.Tactic.simpLemma| PL.x_call), `(Lean.Parser.Tactic.simpLemma| PL.pkL_nil), `(Lean.Parser.Tactic.simpLemma| PL.pkL_cons), `(Lean.Parser.Tactic.simpLemma| PL.kIs_s), `(Lean.Parser.Tactic.simpLemma| PL.x_isi), `(Lean.Parser.Tactic.simpLemma| PL.kFld_o), `(Lean.Parser.Tactic.simpLemma| PL.x_fld), `(Lean.Parser.Tactic.simpLemma| PL.toArgs_nil), `(Lean.Parser.Tactic.simpLemma| PL.toArgs_val), `(Lean.Parser.Tactic.simpLemma| PL.kTa_v), `(Lean.Parser.Tactic.simpLemma| PL.kTa_o), `(Lean.Parser.Tactic.simpLemma| PL.toArgs_slot), `(Lean.Parser.Tactic.simpLemma| PL.x_callF), `(Lean.Parser.Tactic.simpLemma| PL.backA_nil), `(Lean.Parser.Tactic.simpLemma| PL.backA_v1), `(Lean.Parser.Tactic.simpLemma| PL.backA_v2), `(Lean.Parser.Tactic.simpLemma| PL.backA_v3), `(Lean.Parser.Tactic.simpLemma| PL.kObj_ok), `(Lean.Parser.Tactic.simpLemma| PL.x_meth), `(Lean.Parser.Tactic.simpLemma| PL.kMk_ok), `(Lean.Parser.Tactic.simpLemma| PL.x_make), `(Lean.Parser.Tactic.simpLemma| PL.isObj_val), `(Lean.Parser.Tactic.simpLemma| PL.x_own), `(Lean.Parser.Tactic.simpLemma| PL.x_ownB), `(Lean.Parser.Tactic.simpLemma| PL.x_ownIn), `(Lean.Parser.Tactic.simpLemma| PL.toB_bl), `(Lean.Parser.Tactic.simpLemma| PL.ndS_nil), `(Lean.Parser.Tactic.simpLemma| PL.ndS_val), `(Lean.Parser.Tactic.simpLemma| PL.kSrc_lst), `(Lean.Parser.Tactic.simpLemma| PL.kSrc_tup), `(Lean.Parser.Tactic.simpLemma| PL.kSrc_str), `(Lean.Parser.Tactic.simpLemma| PL.x_src), `(Lean.Parser.Tactic.simpLemma| PL.kEn_lst), `(Lean.Parser.Tactic.simpLemma| PL.kEn_tup), `(Lean.Parser.Tactic.simpLemma| PL.x_enum), `(Lean.Parser.Tactic.simpLemma| PL.kR1_int), `(Lean.Parser.Tactic.simpLemma| PL.x_rng1), `(Lean.Parser.Tactic.simpLemma| PL.kR2_int), `(Lean.Parser.Tactic.simpLemma| PL.x_rng2), `(Lean.Parser.Tactic.simpLemma| PL.kZp_lst), `(Lean.Parser.Tactic.simpLemma| PL.kZp_tup), `(Lean.Parser.Tactic.simpLemma| PL.x_zip), `(Lean.Parser.Tactic.simpLemma| PL.x_lc), `(Lean.Parser.Tactic.simpLemma| PL.kAp1_o), `(Lean.Parser.Tactic.simpLemma| PL.kApp_s), `(Lean.Parser.Tactic.simpLemma| PL.isOwnL_o), `(Lean.Parser.Tactic.simpLemma| PL.x_append), `(Lean.Parser.Tactic.simpLemma| PL.kEx1_o), `(Lean.Parser.Tactic.simpLemma| PL.kExt_s), `(Lean.Parser.Tactic.simpLemma| PL.x_extend), `(Lean.Parser.Tactic.simpLemma| PL.gI_ii), `(Lean.Parser.Tactic.simpLemma| PL.gAdd_ii), `(Lean.Parser.Tactic.simpLemma| PL.gAdd_ll), `(Lean.Parser.Tactic.simpLemma| PL.gAdd_tt), `(Lean.Parser.Tactic.simpLemma| PL.gMul_ii), `(Lean.Parser.Tactic.simpLemma| PL.gIx_t), `(Lean.Parser.Tactic.simpLemma| PL.gIx_l), `(Lean.Parser.Tactic.simpLemma| PL.gIs_non), `(Lean.Parser.Tactic.simpLemma| PL.gLen_l), `(Lean.Parser.Tactic.simpLemma| PL.gLen_t), `(Lean.Parser.Tactic.simpLemma| PL.gLen_k), `(Lean.Parser.Tactic.simpLemma| PL.gLen_s), `(Lean.Parser.Tactic.simpLemma| PL.gII_ii), `(Lean.Parser.Tactic.simpLemma| PL.gTuple_l), `(Lean.Parser.Tactic.simpLemma| PL.gTuple_t), `(Lean.Parser.Tactic.simpLemma| PL.gList_l), `(Lean.Parser.Tactic.simpLemma| PL.gList_t), `(Lean.Parser.Tactic.simpLemma| PL.gAll_l), `(Lean.Parser.Tactic.simpLemma| PL.gAny_l), `(Lean.Parser.Tactic.simpLemma| PL.gSum_l), `(Lean.Parser.Tactic.simpLemma| PL.gInS_1), `(Lean.Parser.Tactic.simpLemma| PL.gDGet_o), `(Lean.Parser.Tactic.simpLemma| PL.env_of), `(Lean.Parser.Tactic.simpLemma| PL.fT), `(Lean.Parser.Tactic.simpLemma| PL.fT2), `(Lean.Parser.Tactic.simpLemma| PL.tyD), `(Lean.Parser.Tactic.simpLemma| PL.isT), `(Lean.Parser.Tactic.simpLemma| PL.fObj), `(Lean.Parser.Tactic.simpLemma| PL.isNon), `(Lean.Parser.Tactic.simpLemma| PL.fldD), `(Lean.Parser.Tactic.simpLemma| PL.putN), `(Lean.Parser.Tactic.simpLemma| PL.putD), `(Lean.Parser.Tactic.simpLemma| PL.lookD), `(Lean.Parser.Tactic.simpLemma| PL.keyD), `(Lean.Parser.Tactic.simpLemma| PL.vals), `(Lean.Parser.Tactic.simpLemma| PL.outA), `(Lean.Parser.Tactic.simpLemma| PL.Ent.d), `(Lean.Parser.Tactic.simpLemma| ne_eq), `(Lean.Parser.Tactic.simpLemma| not_false_eq_true), `(Lean.Parser.Tactic.simpLemma| not_true_eq_false), `(Lean.Parser.Tactic.simpLemma| PL.ndS_val), `(Lean.Parser.Tactic.simpLemma| PL.ndS_nil)] do
          out := out.push (← y).raw
      else if x.raw.isOfKind ``Lean.Parser.Tactic.simpLemma && x.raw[2].getId.eraseMacroScopes == `STD then
        hit := true
        for y in #[`(Lean.Parser.Tactic.simpLemma| List.map_cons), `(Lean.Parser.Tactic.simpLemma| List.map_nil), `(Lean.Parser.Tactic.simpLemma| List.length_cons), `(Lean.Parser.Tactic.simpLemma| List.length_nil), `(Lean.Parser.Tactic.simpLemma| List.cons_append), `(Lean.Parser.Tactic.simpLemma| List.nil_append), `(Lean.Parser.Tactic.simpLemma| List.append_nil), `(Lean.Parser.Tactic.simpLemma| List.replicate), `(Lean.Parser.Tactic.simpLemma| List.getElem?_cons_zero), `(Lean.Parser.Tactic.simpLemma| List.getElem?_cons_succ), `(Lean.Parser.Tactic.simpLemma| List.getElem?_nil), `(Lean.Parser.Tactic.simpLemma| List.set_cons_zero), `(Lean.Parser.Tactic.simpLemma| List.set_cons_succ), `(Lean.Parser.Tactic.simpLemma| Option.map_some), `(Lean.Parser.Tactic.simpLemma| Option.map_none), `(Lean.Parser.Tactic.simpLemma| Option.getD_some), `(Lean.Parser.Tactic.simpLemma| Option.getD_none), `(Lean.Parser.Tactic.simpLemma| if_true), `(Lean.Parser.Tactic.simpLemma| Bool.not_true), `(Lean.Parser.Tactic.simpLemma| Bool.not_false), `(Lean.Parser.Tactic.simpLemma| Bool.false_eq_true), `(Lean.Parser.Tactic.simpLemma| if_false), `(Lean.Parser.Tactic.simpLemma| and_true), `(Lean.Parser.Tactic.simpLemma| true_and), `(Lean.Parser.Tactic.simpLemma| reduceIte), `(Lean.Parser.Tactic.simpLemma| List.all_cons), `(Lean.Parser.Tactic.simpLemma| List.all_nil), `(Lean.Parser.Tactic.simpLemma| List.any_cons), `(Lean.Parser.Tactic.simpLemma| List.any_nil), `(Lean.Parser.Tactic.simpLemma| Bool.and_true), `(Lean.Parser.Tactic.simpLemma| Bool.true_and), `(Lean.Parser.Tactic.simpLemma| Nat.reduceSub), `(Lean.Parser.Tactic.simpLemma| Nat.reduceAdd), `(Lean.Parser.Tactic.simpLemma| List.tail_cons), `(Lean.Parser.Tactic.simpLemma| PL.atI_0), `(Lean.Parser.Tactic.simpLemma| PL.atI_1), `(Lean.Parser.Tactic.simpLemma| PL.atI_2), `(Lean.Parser.Tactic.simpLemma| PL.atI_3), `(Lean.Parser.Tactic.simpLemma| PL.atI_4), `(Lean.Parser.Tactic.simpLemma| PL.cut_1), `(Lean.Parser.Tactic.simpLemma| Bool.or_false), `(Lean.Parser.Tactic.simpLemma| Bool.false_or), `(Lean.Parser.Tactic.simpLemma| Int.cast_ofNat_Int), `(Lean.Parser.Tactic.simpLemma| Int.reduceEq), `(Lean.Parser.Tactic.simpLemma| Int.reduceLE), `(Lean.Parser.Tactic.simpLemma| decide_true), `(Lean.Parser.Tactic.simpLemma| decide_false), `(Lean.Parser.Tactic.simpLemma| id), `(Lean.Parser.Tactic.simpLemma| eq_self), `(Lean.Parser.Tactic.simpLemma| List.length_map), `(Lean.Parser.Tactic.simpLemma| Bool.and_false), `(Lean.Parser.Tactic.simpLemma| Bool.false_and)] do
          out := out.push (← y).raw
      else if x.raw.isOfKind ``Lean.Parser.Tactic.simpLemma && x.raw[2].getId.eraseMacroScopes == `PDN then
        hit := true
        for y in #[`(Lean.Parser.Tactic.simpLemma| PL.kCls_ok), `(Lean.Parser.Tactic.simpLemma| PL.x_prop), `(Lean.Parser.Tactic.simpLemma| PL.x_unpS), `(Lean.Parser.Tactic.simpLemma| PL.x_tupS), `(Lean.Parser.Tactic.simpLemma| PL.x_lstS), `(Lean.Parser.Tactic.simpLemma| PL.kSc_l), `(Lean.Parser.Tactic.simpLemma| PL.kSc_t), `(Lean.Parser.Tactic.simpLemma| PL.x_sc), `(Lean.Parser.Tactic.simpLemma| PL.kKeys_d), `(Lean.Parser.Tactic.simpLemma| PL.x_keys), `(Lean.Parser.Tactic.simpLemma| PL.kVals_d), `(Lean.Parser.Tactic.simpLemma| PL.x_vals), `(Lean.Parser.Tactic.simpLemma| PL.gNeg_i), `(Lean.Parser.Tactic.simpLemma| PL.gLenD_d), `(Lean.Parser.Tactic.simpLemma| PL.gLenD_t), `(Lean.Parser.Tactic.simpLemma| PL.gDict_d), `(Lean.Parser.Tactic.simpLemma| PL.gListA_d), `(Lean.Parser.Tactic.simpLemma| PL.x_dic0), `(Lean.Parser.Tactic.simpLemma| PL.x_dit0), `(Lean.Parser.Tactic.simpLemma| PL.x_dc), `(Lean.Parser.Tactic.simpLemma| PL.x_lc2), `(Lean.Parser.Tactic.simpLemma| PL.x_callK), `(Lean.Parser.Tactic.simpLemma| PL.dIn_str)] do
          out := out.push (← y).raw
      else out := out.push x.raw
    if !hit then Lean.Macro.throwUnsupported
    let sep : Lean.Syntax.TSepArray [`Lean.Parser.Tactic.simpStar, `Lean.Parser.Tactic.simpErase, `Lean.Parser.Tactic.simpLemma] "," := ⟨(Lean.Syntax.mkSep (out.map id) (Lean.mkAtom ",")).getArgs⟩
    `(tactic| simp only [$sep,*] $[$loc]?)
/-! LK1b: errors by class: the law's own defs keep their promises. -/
namespace PL
open PySem PySem.Spec PyProof.Rows L2
variable [HasT]
theorem atI_mem {α : Type} {l : List α} {m : Int} (h0 : 0 ≤ m) (h1 : m < l.length) : ∃ x, atI l m = some x ∧ x ∈ l ∧ l[m.toNat]? = some x := by
  obtain ⟨n, rfl⟩ := Int.eq_ofNat_of_zero_le h0
  have hn : n < l.length := by omega
  exact ⟨l[n], by rw [atI_nat]; simp [hn], List.getElem_mem _, by simp [hn]⟩
theorem sp__law_pick : Kp w__law_pick 2 2 fs__law_pick := by
  rintro args Qp Ep ⟨xs, rfl, h0, h1, q⟩
  refine ⟨rfl, ?_⟩
  have hp : 0 < xs.length := List.length_pos_iff.mpr h0
  simp only [w__law_pick, PDS, STD]
  refine ⟨_, rfl, by omega, by omega, fun m m0 m1 => ?_⟩
  obtain ⟨x, hx, hm, _⟩ := atI_mem m0 m1
  simp only [PDS, STD, hx]
  exact q x hm
def okPb (p : PyData) : Bool := p.showable && !p.hasDict && decide (p.depth ≤ 8) && decide (p.shown.length ≤ 1000) && PyData.canLay0 (.str p.shown)
theorem okP_b {p : PyData} (h : okPb p = true) : okP p ∧ sOk p.shown := by
  have hz := sizeLine_eq
  unfold okPb at h
  simp only [Bool.and_eq_true, Bool.not_eq_true', decide_eq_true_eq] at h
  obtain ⟨⟨⟨⟨h1, h2⟩, h3⟩, h4⟩, h5⟩ := h
  exact ⟨⟨h1, h2, h3, by omega⟩, h5⟩
theorem worths_b : (worths.all fun p => okPb p && (List.range 11).all fun i : Nat => okPb (.tuple [.int i, p])) = true := by decide +kernel
theorem worth_ok {p : PyData} (h : p ∈ worths) : okP p := by
  have := List.all_eq_true.mp worths_b p h
  exact (okP_b (Bool.and_eq_true_iff.mp this).1).1
theorem worth_okT {p : PyData} {i : Nat} (h : p ∈ worths) (hi : i < 11) : okP (.tuple [.int i, p]) ∧ sOk (PyData.shown (.tuple [.int i, p])) := by
  have := List.all_eq_true.mp worths_b p h
  exact okP_b (List.all_eq_true.mp (Bool.and_eq_true_iff.mp this).2 i (List.mem_range.mpr hi))
theorem st_ne {wd lit : Str} {wa wb : WS} {P : PEnds} {x : Option Ent} (h : sOk wd ∧ sOk lit ∧ decide (wd = lit) = false) : wSeq (wIf (wB (wOp2 (gEq id) (wVar 0) (wC (.str lit)))) wa wNext) wb P [some (.val (.str wd)), x] = wb P [some (.val (.str wd)), x] := by
  cases P
  simp only [PDS, STD, gEq_str h.1 h.2.1, h.2.2]
theorem st_eq {wd : Str} {wa wb : WS} {n : Env → Prop} {rt : R → Env → Prop} {bk ct : Env → Prop} {ex : Ex → Env → Prop} {x : Option Ent} (h : sOk wd) : wSeq (wIf (wB (wOp2 (gEq id) (wVar 0) (wC (.str wd)))) wa wNext) wb ⟨n, rt, bk, ct, ex⟩ [some (.val (.str wd)), x] = wa ⟨fun ρ => wb ⟨n, rt, bk, ct, ex⟩ ρ, rt, bk, ct, ex⟩ [some (.val (.str wd)), x] := by
  simp only [PDS, STD, gEq_str h h]
theorem sp__law_raised : Kp w__law_raised 2 2 fs__law_raised := by
  rintro args Qp Ep ⟨r, d, rfl, hr, ⟨p, hp, hw⟩, q⟩
  refine ⟨rfl, ?_⟩
  have e : envOf (vals [.str r.w, d]) 2 = [some (.val (.str r.w)), some (.val d)] := rfl
  rw [e]
  have ok := worth_ok hw
  unfold xTab at hr
  simp only [List.mem_cons, List.not_mem_nil, or_false] at hr
  rcases hr with rfl | rfl | rfl | rfl | rfl | rfl | rfl | rfl | rfl | rfl | rfl
  · unfold w__law_raised
    rw [st_eq (by unfold sOk; decide +kernel)]
    simp only [x_raiseF, PDS, STD]
    exact q
  · unfold w__law_raised
    rw [st_ne (by unfold sOk; decide +kernel), st_eq (by unfold sOk; decide +kernel)]
    simp only [x_raiseF, PDS, STD]
    exact q
  · unfold w__law_raised
    rw [st_ne (by unfold sOk; decide +kernel), st_ne (by unfold sOk; decide +kernel), st_eq (by unfold sOk; decide +kernel)]
    simp only [x_raiseF, PDS, STD]
    exact q
  · unfold w__law_raised
    rw [st_ne (by unfold sOk; decide +kernel), st_ne (by unfold sOk; decide +kernel), st_ne (by unfold sOk; decide +kernel), st_eq (by unfold sOk; decide +kernel)]
    simp only [x_raiseF, PDS, STD]
    exact q
  · unfold w__law_raised
    rw [st_ne (by unfold sOk; decide +kernel), st_ne (by unfold sOk; decide +kernel), st_ne (by unfold sOk; decide +kernel), st_ne (by unfold sOk; decide +kernel), st_eq (by unfold sOk; decide +kernel)]
    simp only [x_raiseF, PDS, STD]
    exact q
  · unfold w__law_raised
    rw [st_ne (by unfold sOk; decide +kernel), st_ne (by unfold sOk; decide +kernel), st_ne (by unfold sOk; decide +kernel), st_ne (by unfold sOk; decide +kernel), st_ne (by unfold sOk; decide +kernel), st_eq (by unfold sOk; decide +kernel)]
    simp only [x_raiseF, PDS, STD]
    exact q
  · unfold w__law_raised
    rw [st_ne (by unfold sOk; decide +kernel), st_ne (by unfold sOk; decide +kernel), st_ne (by unfold sOk; decide +kernel), st_ne (by unfold sOk; decide +kernel), st_ne (by unfold sOk; decide +kernel), st_ne (by unfold sOk; decide +kernel), st_eq (by unfold sOk; decide +kernel)]
    simp only [x_raiseF, PDS, STD]
    exact q
  · unfold w__law_raised
    rw [st_ne (by unfold sOk; decide +kernel), st_ne (by unfold sOk; decide +kernel), st_ne (by unfold sOk; decide +kernel), st_ne (by unfold sOk; decide +kernel), st_ne (by unfold sOk; decide +kernel), st_ne (by unfold sOk; decide +kernel), st_ne (by unfold sOk; decide +kernel), st_eq (by unfold sOk; decide +kernel)]
    simp only [x_raiseF, PDS, STD]
    exact q
  · unfold w__law_raised
    rw [st_ne (by unfold sOk; decide +kernel), st_ne (by unfold sOk; decide +kernel), st_ne (by unfold sOk; decide +kernel), st_ne (by unfold sOk; decide +kernel), st_ne (by unfold sOk; decide +kernel), st_ne (by unfold sOk; decide +kernel), st_ne (by unfold sOk; decide +kernel), st_ne (by unfold sOk; decide +kernel), st_eq (by unfold sOk; decide +kernel)]
    simp only [x_raiseF, PDS, STD]
    exact q
  · unfold w__law_raised
    rw [st_ne (by unfold sOk; decide +kernel), st_ne (by unfold sOk; decide +kernel), st_ne (by unfold sOk; decide +kernel), st_ne (by unfold sOk; decide +kernel), st_ne (by unfold sOk; decide +kernel), st_ne (by unfold sOk; decide +kernel), st_ne (by unfold sOk; decide +kernel), st_ne (by unfold sOk; decide +kernel), st_ne (by unfold sOk; decide +kernel), st_eq (by unfold sOk; decide +kernel)]
    simp only [x_raise0, PDS, STD, gStr_of hp]
    exact ⟨ok, q⟩
  · unfold w__law_raised
    rw [st_ne (by unfold sOk; decide +kernel), st_ne (by unfold sOk; decide +kernel), st_ne (by unfold sOk; decide +kernel), st_ne (by unfold sOk; decide +kernel), st_ne (by unfold sOk; decide +kernel), st_ne (by unfold sOk; decide +kernel), st_ne (by unfold sOk; decide +kernel), st_ne (by unfold sOk; decide +kernel), st_ne (by unfold sOk; decide +kernel), st_ne (by unfold sOk; decide +kernel)]
    simp only [x_raise0, PDS, STD, gStr_of hp]
    exact ⟨ok, q⟩
theorem sp__law_field : Kp w__law_field 1 3 fs__law_field := by
  rintro args Qp Ep ⟨i, r, d, rfl, hi, q⟩
  refine ⟨rfl, ?_⟩
  have b3 : ∀ a b c : Bool, ([.bl a, .bl b, .bl c] : List D) = [a, b, c].map D.bl := fun _ _ _ => rfl
  rcases i with _ | _ | _ | _ | _ | _ | _ | _ | _ | _ | _ | i
  · cases hi
    have t_NoBlocks : tb_NoBlocks "NoBlocks" = some true := by decide +kernel
    have t_NoMove : tb_NoMove "NoBlocks" = some false := by decide +kernel
    have t_NoRules : tb_NoRules "NoBlocks" = some false := by decide +kernel
    have t_NoOperation : tb_NoOperation "NoBlocks" = some false := by decide +kernel
    have t_NoZone : tb_NoZone "NoBlocks" = some false := by decide +kernel
    have t_NoGate : tb_NoGate "NoBlocks" = some false := by decide +kernel
    have t_NoNet : tb_NoNet "NoBlocks" = some false := by decide +kernel
    have t_TooMany : tb_TooMany "NoBlocks" = some false := by decide +kernel
    have t_InvalidText : tb_InvalidText "NoBlocks" = some false := by decide +kernel
    have t_NoPackets : tb_NoPackets "NoBlocks" = some false := by decide +kernel
    have t_NothingLeft : tb_NothingLeft "NoBlocks" = some false := by decide +kernel
    have t_ValueError : tb_ValueError "NoBlocks" = some true := by decide +kernel
    have hc : List.count true ([true, false, false, false, false, false, false, false, false, false, false] : List Bool) = 1 := by decide
    have hx : List.idxOf true ([true, false, false, false, false, false, false, false, false, false, false] : List Bool) = 0 := by decide
    have hm : true ∈ ([true, false, false, false, false, false, false, false, false, false, false] : List Bool) := by decide
    have kc : ∀ {Q : R → Env → Prop} {ρ : Env}, kCnt Q ρ (.lst [.bl true, .bl false, .bl false, .bl false, .bl false, .bl false, .bl false, .bl false, .bl false, .bl false, .bl false]) (.bl true) = Q (.val (.int 1)) ρ := fun {Q ρ} => (kCnt_l (bs := [true, false, false, false, false, false, false, false, false, false, false])).trans (by rw [hc]; rfl)
    have kx : ∀ {Q : R → Env → Prop} {ρ : Env}, kIdx Q ρ (.lst [.bl true, .bl false, .bl false, .bl false, .bl false, .bl false, .bl false, .bl false, .bl false, .bl false, .bl false]) (.bl true) = Q (.val (.int 0)) ρ := fun {Q ρ} => (kIdx_l (bs := [true, false, false, false, false, false, false, false, false, false, false])).trans (by rw [hx]; simp only [hm, true_and]; rfl)
    simp only [w__law_field, XRow.fs, XRow.xs, XRow.back, PDS, STD, fE_e, fE_n, t_NoBlocks, t_NoMove, t_NoRules, t_NoOperation, t_NoZone, t_NoGate, t_NoNet, t_TooMany, t_InvalidText, t_NoPackets, t_NothingLeft, t_ValueError, x_lm, isLst_l, kc, kx, gEq_int, x_xf, isX_e, kXf_1]
    have hz := sizeLine_eq
    have g45 : ∀ {Q : R → Prop}, gIn id (.int 0) (.tup [.int 4, .int 5]) Q = Q (.val (.bl false)) := fun {Q} => gIn_of (by decide +kernel)
    refine ⟨by omega, by omega, by omega, ?_⟩
    simp only [PDS, STD, Int.reduceLT, g45, x_xf, isX_e, kXf_1, gEq_int, x_lm]
    exact ⟨by decide +kernel, q⟩
  · cases hi
    have t_NoBlocks : tb_NoBlocks "NoMove" = some false := by decide +kernel
    have t_NoMove : tb_NoMove "NoMove" = some true := by decide +kernel
    have t_NoRules : tb_NoRules "NoMove" = some false := by decide +kernel
    have t_NoOperation : tb_NoOperation "NoMove" = some false := by decide +kernel
    have t_NoZone : tb_NoZone "NoMove" = some false := by decide +kernel
    have t_NoGate : tb_NoGate "NoMove" = some false := by decide +kernel
    have t_NoNet : tb_NoNet "NoMove" = some false := by decide +kernel
    have t_TooMany : tb_TooMany "NoMove" = some false := by decide +kernel
    have t_InvalidText : tb_InvalidText "NoMove" = some false := by decide +kernel
    have t_NoPackets : tb_NoPackets "NoMove" = some false := by decide +kernel
    have t_NothingLeft : tb_NothingLeft "NoMove" = some false := by decide +kernel
    have t_ValueError : tb_ValueError "NoMove" = some true := by decide +kernel
    have hc : List.count true ([false, true, false, false, false, false, false, false, false, false, false] : List Bool) = 1 := by decide
    have hx : List.idxOf true ([false, true, false, false, false, false, false, false, false, false, false] : List Bool) = 1 := by decide
    have hm : true ∈ ([false, true, false, false, false, false, false, false, false, false, false] : List Bool) := by decide
    have kc : ∀ {Q : R → Env → Prop} {ρ : Env}, kCnt Q ρ (.lst [.bl false, .bl true, .bl false, .bl false, .bl false, .bl false, .bl false, .bl false, .bl false, .bl false, .bl false]) (.bl true) = Q (.val (.int 1)) ρ := fun {Q ρ} => (kCnt_l (bs := [false, true, false, false, false, false, false, false, false, false, false])).trans (by rw [hc]; rfl)
    have kx : ∀ {Q : R → Env → Prop} {ρ : Env}, kIdx Q ρ (.lst [.bl false, .bl true, .bl false, .bl false, .bl false, .bl false, .bl false, .bl false, .bl false, .bl false, .bl false]) (.bl true) = Q (.val (.int 1)) ρ := fun {Q ρ} => (kIdx_l (bs := [false, true, false, false, false, false, false, false, false, false, false])).trans (by rw [hx]; simp only [hm, true_and]; rfl)
    simp only [w__law_field, XRow.fs, XRow.xs, XRow.back, PDS, STD, fE_e, fE_n, t_NoBlocks, t_NoMove, t_NoRules, t_NoOperation, t_NoZone, t_NoGate, t_NoNet, t_TooMany, t_InvalidText, t_NoPackets, t_NothingLeft, t_ValueError, x_lm, isLst_l, kc, kx, gEq_int, x_xf, isX_e, kXf_1]
    have hz := sizeLine_eq
    have g45 : ∀ {Q : R → Prop}, gIn id (.int 1) (.tup [.int 4, .int 5]) Q = Q (.val (.bl false)) := fun {Q} => gIn_of (by decide +kernel)
    refine ⟨by omega, by omega, by omega, ?_⟩
    simp only [PDS, STD, Int.reduceLT, g45, x_xf, isX_e, kXf_1, gEq_int, x_lm]
    exact ⟨by decide +kernel, q⟩
  · cases hi
    have t_NoBlocks : tb_NoBlocks "NoRules" = some false := by decide +kernel
    have t_NoMove : tb_NoMove "NoRules" = some false := by decide +kernel
    have t_NoRules : tb_NoRules "NoRules" = some true := by decide +kernel
    have t_NoOperation : tb_NoOperation "NoRules" = some false := by decide +kernel
    have t_NoZone : tb_NoZone "NoRules" = some false := by decide +kernel
    have t_NoGate : tb_NoGate "NoRules" = some false := by decide +kernel
    have t_NoNet : tb_NoNet "NoRules" = some false := by decide +kernel
    have t_TooMany : tb_TooMany "NoRules" = some false := by decide +kernel
    have t_InvalidText : tb_InvalidText "NoRules" = some false := by decide +kernel
    have t_NoPackets : tb_NoPackets "NoRules" = some false := by decide +kernel
    have t_NothingLeft : tb_NothingLeft "NoRules" = some false := by decide +kernel
    have t_ValueError : tb_ValueError "NoRules" = some true := by decide +kernel
    have hc : List.count true ([false, false, true, false, false, false, false, false, false, false, false] : List Bool) = 1 := by decide
    have hx : List.idxOf true ([false, false, true, false, false, false, false, false, false, false, false] : List Bool) = 2 := by decide
    have hm : true ∈ ([false, false, true, false, false, false, false, false, false, false, false] : List Bool) := by decide
    have kc : ∀ {Q : R → Env → Prop} {ρ : Env}, kCnt Q ρ (.lst [.bl false, .bl false, .bl true, .bl false, .bl false, .bl false, .bl false, .bl false, .bl false, .bl false, .bl false]) (.bl true) = Q (.val (.int 1)) ρ := fun {Q ρ} => (kCnt_l (bs := [false, false, true, false, false, false, false, false, false, false, false])).trans (by rw [hc]; rfl)
    have kx : ∀ {Q : R → Env → Prop} {ρ : Env}, kIdx Q ρ (.lst [.bl false, .bl false, .bl true, .bl false, .bl false, .bl false, .bl false, .bl false, .bl false, .bl false, .bl false]) (.bl true) = Q (.val (.int 2)) ρ := fun {Q ρ} => (kIdx_l (bs := [false, false, true, false, false, false, false, false, false, false, false])).trans (by rw [hx]; simp only [hm, true_and]; rfl)
    simp only [w__law_field, XRow.fs, XRow.xs, XRow.back, PDS, STD, fE_e, fE_n, t_NoBlocks, t_NoMove, t_NoRules, t_NoOperation, t_NoZone, t_NoGate, t_NoNet, t_TooMany, t_InvalidText, t_NoPackets, t_NothingLeft, t_ValueError, x_lm, isLst_l, kc, kx, gEq_int, x_xf, isX_e, kXf_1]
    have hz := sizeLine_eq
    have g45 : ∀ {Q : R → Prop}, gIn id (.int 2) (.tup [.int 4, .int 5]) Q = Q (.val (.bl false)) := fun {Q} => gIn_of (by decide +kernel)
    refine ⟨by omega, by omega, by omega, ?_⟩
    simp only [PDS, STD, Int.reduceLT, g45, x_xf, isX_e, kXf_1, gEq_int, x_lm]
    exact ⟨by decide +kernel, q⟩
  · cases hi
    have t_NoBlocks : tb_NoBlocks "NoOperation" = some false := by decide +kernel
    have t_NoMove : tb_NoMove "NoOperation" = some false := by decide +kernel
    have t_NoRules : tb_NoRules "NoOperation" = some false := by decide +kernel
    have t_NoOperation : tb_NoOperation "NoOperation" = some true := by decide +kernel
    have t_NoZone : tb_NoZone "NoOperation" = some false := by decide +kernel
    have t_NoGate : tb_NoGate "NoOperation" = some false := by decide +kernel
    have t_NoNet : tb_NoNet "NoOperation" = some false := by decide +kernel
    have t_TooMany : tb_TooMany "NoOperation" = some false := by decide +kernel
    have t_InvalidText : tb_InvalidText "NoOperation" = some false := by decide +kernel
    have t_NoPackets : tb_NoPackets "NoOperation" = some false := by decide +kernel
    have t_NothingLeft : tb_NothingLeft "NoOperation" = some false := by decide +kernel
    have t_ValueError : tb_ValueError "NoOperation" = some true := by decide +kernel
    have hc : List.count true ([false, false, false, true, false, false, false, false, false, false, false] : List Bool) = 1 := by decide
    have hx : List.idxOf true ([false, false, false, true, false, false, false, false, false, false, false] : List Bool) = 3 := by decide
    have hm : true ∈ ([false, false, false, true, false, false, false, false, false, false, false] : List Bool) := by decide
    have kc : ∀ {Q : R → Env → Prop} {ρ : Env}, kCnt Q ρ (.lst [.bl false, .bl false, .bl false, .bl true, .bl false, .bl false, .bl false, .bl false, .bl false, .bl false, .bl false]) (.bl true) = Q (.val (.int 1)) ρ := fun {Q ρ} => (kCnt_l (bs := [false, false, false, true, false, false, false, false, false, false, false])).trans (by rw [hc]; rfl)
    have kx : ∀ {Q : R → Env → Prop} {ρ : Env}, kIdx Q ρ (.lst [.bl false, .bl false, .bl false, .bl true, .bl false, .bl false, .bl false, .bl false, .bl false, .bl false, .bl false]) (.bl true) = Q (.val (.int 3)) ρ := fun {Q ρ} => (kIdx_l (bs := [false, false, false, true, false, false, false, false, false, false, false])).trans (by rw [hx]; simp only [hm, true_and]; rfl)
    simp only [w__law_field, XRow.fs, XRow.xs, XRow.back, PDS, STD, fE_e, fE_n, t_NoBlocks, t_NoMove, t_NoRules, t_NoOperation, t_NoZone, t_NoGate, t_NoNet, t_TooMany, t_InvalidText, t_NoPackets, t_NothingLeft, t_ValueError, x_lm, isLst_l, kc, kx, gEq_int, x_xf, isX_e, kXf_1]
    have hz := sizeLine_eq
    have g45 : ∀ {Q : R → Prop}, gIn id (.int 3) (.tup [.int 4, .int 5]) Q = Q (.val (.bl false)) := fun {Q} => gIn_of (by decide +kernel)
    refine ⟨by omega, by omega, by omega, ?_⟩
    simp only [PDS, STD, Int.reduceLT, g45, x_xf, isX_e, kXf_1, gEq_int, x_lm]
    exact ⟨by decide +kernel, q⟩
  · cases hi
    have t_NoBlocks : tb_NoBlocks "NoZone" = some false := by decide +kernel
    have t_NoMove : tb_NoMove "NoZone" = some false := by decide +kernel
    have t_NoRules : tb_NoRules "NoZone" = some false := by decide +kernel
    have t_NoOperation : tb_NoOperation "NoZone" = some false := by decide +kernel
    have t_NoZone : tb_NoZone "NoZone" = some true := by decide +kernel
    have t_NoGate : tb_NoGate "NoZone" = some false := by decide +kernel
    have t_NoNet : tb_NoNet "NoZone" = some false := by decide +kernel
    have t_TooMany : tb_TooMany "NoZone" = some false := by decide +kernel
    have t_InvalidText : tb_InvalidText "NoZone" = some false := by decide +kernel
    have t_NoPackets : tb_NoPackets "NoZone" = some false := by decide +kernel
    have t_NothingLeft : tb_NothingLeft "NoZone" = some false := by decide +kernel
    have t_ValueError : tb_ValueError "NoZone" = some true := by decide +kernel
    have hc : List.count true ([false, false, false, false, true, false, false, false, false, false, false] : List Bool) = 1 := by decide
    have hx : List.idxOf true ([false, false, false, false, true, false, false, false, false, false, false] : List Bool) = 4 := by decide
    have hm : true ∈ ([false, false, false, false, true, false, false, false, false, false, false] : List Bool) := by decide
    have kc : ∀ {Q : R → Env → Prop} {ρ : Env}, kCnt Q ρ (.lst [.bl false, .bl false, .bl false, .bl false, .bl true, .bl false, .bl false, .bl false, .bl false, .bl false, .bl false]) (.bl true) = Q (.val (.int 1)) ρ := fun {Q ρ} => (kCnt_l (bs := [false, false, false, false, true, false, false, false, false, false, false])).trans (by rw [hc]; rfl)
    have kx : ∀ {Q : R → Env → Prop} {ρ : Env}, kIdx Q ρ (.lst [.bl false, .bl false, .bl false, .bl false, .bl true, .bl false, .bl false, .bl false, .bl false, .bl false, .bl false]) (.bl true) = Q (.val (.int 4)) ρ := fun {Q ρ} => (kIdx_l (bs := [false, false, false, false, true, false, false, false, false, false, false])).trans (by rw [hx]; simp only [hm, true_and]; rfl)
    simp only [w__law_field, XRow.fs, XRow.xs, XRow.back, PDS, STD, fE_e, fE_n, t_NoBlocks, t_NoMove, t_NoRules, t_NoOperation, t_NoZone, t_NoGate, t_NoNet, t_TooMany, t_InvalidText, t_NoPackets, t_NothingLeft, t_ValueError, x_lm, isLst_l, kc, kx, gEq_int, x_xf, isX_e, kXf_1]
    have hz := sizeLine_eq
    have g45 : ∀ {Q : R → Prop}, gIn id (.int 4) (.tup [.int 4, .int 5]) Q = Q (.val (.bl true)) := fun {Q} => gIn_of (by decide +kernel)
    refine ⟨by omega, by omega, by omega, ?_⟩
    simp only [PDS, STD, Int.reduceLT, g45, x_xf, isX_e, kXf_1, gEq_int, x_lm]
    exact ⟨by decide +kernel, q⟩
  · cases hi
    have t_NoBlocks : tb_NoBlocks "NoGate" = some false := by decide +kernel
    have t_NoMove : tb_NoMove "NoGate" = some false := by decide +kernel
    have t_NoRules : tb_NoRules "NoGate" = some false := by decide +kernel
    have t_NoOperation : tb_NoOperation "NoGate" = some false := by decide +kernel
    have t_NoZone : tb_NoZone "NoGate" = some false := by decide +kernel
    have t_NoGate : tb_NoGate "NoGate" = some true := by decide +kernel
    have t_NoNet : tb_NoNet "NoGate" = some false := by decide +kernel
    have t_TooMany : tb_TooMany "NoGate" = some false := by decide +kernel
    have t_InvalidText : tb_InvalidText "NoGate" = some false := by decide +kernel
    have t_NoPackets : tb_NoPackets "NoGate" = some false := by decide +kernel
    have t_NothingLeft : tb_NothingLeft "NoGate" = some false := by decide +kernel
    have t_ValueError : tb_ValueError "NoGate" = some true := by decide +kernel
    have hc : List.count true ([false, false, false, false, false, true, false, false, false, false, false] : List Bool) = 1 := by decide
    have hx : List.idxOf true ([false, false, false, false, false, true, false, false, false, false, false] : List Bool) = 5 := by decide
    have hm : true ∈ ([false, false, false, false, false, true, false, false, false, false, false] : List Bool) := by decide
    have kc : ∀ {Q : R → Env → Prop} {ρ : Env}, kCnt Q ρ (.lst [.bl false, .bl false, .bl false, .bl false, .bl false, .bl true, .bl false, .bl false, .bl false, .bl false, .bl false]) (.bl true) = Q (.val (.int 1)) ρ := fun {Q ρ} => (kCnt_l (bs := [false, false, false, false, false, true, false, false, false, false, false])).trans (by rw [hc]; rfl)
    have kx : ∀ {Q : R → Env → Prop} {ρ : Env}, kIdx Q ρ (.lst [.bl false, .bl false, .bl false, .bl false, .bl false, .bl true, .bl false, .bl false, .bl false, .bl false, .bl false]) (.bl true) = Q (.val (.int 5)) ρ := fun {Q ρ} => (kIdx_l (bs := [false, false, false, false, false, true, false, false, false, false, false])).trans (by rw [hx]; simp only [hm, true_and]; rfl)
    simp only [w__law_field, XRow.fs, XRow.xs, XRow.back, PDS, STD, fE_e, fE_n, t_NoBlocks, t_NoMove, t_NoRules, t_NoOperation, t_NoZone, t_NoGate, t_NoNet, t_TooMany, t_InvalidText, t_NoPackets, t_NothingLeft, t_ValueError, x_lm, isLst_l, kc, kx, gEq_int, x_xf, isX_e, kXf_1]
    have hz := sizeLine_eq
    have g45 : ∀ {Q : R → Prop}, gIn id (.int 5) (.tup [.int 4, .int 5]) Q = Q (.val (.bl true)) := fun {Q} => gIn_of (by decide +kernel)
    refine ⟨by omega, by omega, by omega, ?_⟩
    simp only [PDS, STD, Int.reduceLT, g45, x_xf, isX_e, kXf_1, gEq_int, x_lm]
    exact ⟨by decide +kernel, q⟩
  · cases hi
    have t_NoBlocks : tb_NoBlocks "NoNet" = some false := by decide +kernel
    have t_NoMove : tb_NoMove "NoNet" = some false := by decide +kernel
    have t_NoRules : tb_NoRules "NoNet" = some false := by decide +kernel
    have t_NoOperation : tb_NoOperation "NoNet" = some false := by decide +kernel
    have t_NoZone : tb_NoZone "NoNet" = some false := by decide +kernel
    have t_NoGate : tb_NoGate "NoNet" = some false := by decide +kernel
    have t_NoNet : tb_NoNet "NoNet" = some true := by decide +kernel
    have t_TooMany : tb_TooMany "NoNet" = some false := by decide +kernel
    have t_InvalidText : tb_InvalidText "NoNet" = some false := by decide +kernel
    have t_NoPackets : tb_NoPackets "NoNet" = some false := by decide +kernel
    have t_NothingLeft : tb_NothingLeft "NoNet" = some false := by decide +kernel
    have t_ValueError : tb_ValueError "NoNet" = some true := by decide +kernel
    have hc : List.count true ([false, false, false, false, false, false, true, false, false, false, false] : List Bool) = 1 := by decide
    have hx : List.idxOf true ([false, false, false, false, false, false, true, false, false, false, false] : List Bool) = 6 := by decide
    have hm : true ∈ ([false, false, false, false, false, false, true, false, false, false, false] : List Bool) := by decide
    have kc : ∀ {Q : R → Env → Prop} {ρ : Env}, kCnt Q ρ (.lst [.bl false, .bl false, .bl false, .bl false, .bl false, .bl false, .bl true, .bl false, .bl false, .bl false, .bl false]) (.bl true) = Q (.val (.int 1)) ρ := fun {Q ρ} => (kCnt_l (bs := [false, false, false, false, false, false, true, false, false, false, false])).trans (by rw [hc]; rfl)
    have kx : ∀ {Q : R → Env → Prop} {ρ : Env}, kIdx Q ρ (.lst [.bl false, .bl false, .bl false, .bl false, .bl false, .bl false, .bl true, .bl false, .bl false, .bl false, .bl false]) (.bl true) = Q (.val (.int 6)) ρ := fun {Q ρ} => (kIdx_l (bs := [false, false, false, false, false, false, true, false, false, false, false])).trans (by rw [hx]; simp only [hm, true_and]; rfl)
    simp only [w__law_field, XRow.fs, XRow.xs, XRow.back, PDS, STD, fE_e, fE_n, t_NoBlocks, t_NoMove, t_NoRules, t_NoOperation, t_NoZone, t_NoGate, t_NoNet, t_TooMany, t_InvalidText, t_NoPackets, t_NothingLeft, t_ValueError, x_lm, isLst_l, kc, kx, gEq_int, x_xf, isX_e, kXf_1]
    have hz := sizeLine_eq
    have g45 : ∀ {Q : R → Prop}, gIn id (.int 6) (.tup [.int 4, .int 5]) Q = Q (.val (.bl false)) := fun {Q} => gIn_of (by decide +kernel)
    refine ⟨by omega, by omega, by omega, ?_⟩
    simp only [PDS, STD, Int.reduceLT, g45, x_xf, isX_e, kXf_1, gEq_int, x_lm]
    exact ⟨by decide +kernel, q⟩
  · cases hi
    have t_NoBlocks : tb_NoBlocks "TooMany" = some false := by decide +kernel
    have t_NoMove : tb_NoMove "TooMany" = some false := by decide +kernel
    have t_NoRules : tb_NoRules "TooMany" = some false := by decide +kernel
    have t_NoOperation : tb_NoOperation "TooMany" = some false := by decide +kernel
    have t_NoZone : tb_NoZone "TooMany" = some false := by decide +kernel
    have t_NoGate : tb_NoGate "TooMany" = some false := by decide +kernel
    have t_NoNet : tb_NoNet "TooMany" = some false := by decide +kernel
    have t_TooMany : tb_TooMany "TooMany" = some true := by decide +kernel
    have t_InvalidText : tb_InvalidText "TooMany" = some false := by decide +kernel
    have t_NoPackets : tb_NoPackets "TooMany" = some false := by decide +kernel
    have t_NothingLeft : tb_NothingLeft "TooMany" = some false := by decide +kernel
    have t_ValueError : tb_ValueError "TooMany" = some true := by decide +kernel
    have hc : List.count true ([false, false, false, false, false, false, false, true, false, false, false] : List Bool) = 1 := by decide
    have hx : List.idxOf true ([false, false, false, false, false, false, false, true, false, false, false] : List Bool) = 7 := by decide
    have hm : true ∈ ([false, false, false, false, false, false, false, true, false, false, false] : List Bool) := by decide
    have kc : ∀ {Q : R → Env → Prop} {ρ : Env}, kCnt Q ρ (.lst [.bl false, .bl false, .bl false, .bl false, .bl false, .bl false, .bl false, .bl true, .bl false, .bl false, .bl false]) (.bl true) = Q (.val (.int 1)) ρ := fun {Q ρ} => (kCnt_l (bs := [false, false, false, false, false, false, false, true, false, false, false])).trans (by rw [hc]; rfl)
    have kx : ∀ {Q : R → Env → Prop} {ρ : Env}, kIdx Q ρ (.lst [.bl false, .bl false, .bl false, .bl false, .bl false, .bl false, .bl false, .bl true, .bl false, .bl false, .bl false]) (.bl true) = Q (.val (.int 7)) ρ := fun {Q ρ} => (kIdx_l (bs := [false, false, false, false, false, false, false, true, false, false, false])).trans (by rw [hx]; simp only [hm, true_and]; rfl)
    simp only [w__law_field, XRow.fs, XRow.xs, XRow.back, PDS, STD, fE_e, fE_n, t_NoBlocks, t_NoMove, t_NoRules, t_NoOperation, t_NoZone, t_NoGate, t_NoNet, t_TooMany, t_InvalidText, t_NoPackets, t_NothingLeft, t_ValueError, x_lm, isLst_l, kc, kx, gEq_int, x_xf, isX_e, kXf_1]
    have hz := sizeLine_eq
    have g45 : ∀ {Q : R → Prop}, gIn id (.int 7) (.tup [.int 4, .int 5]) Q = Q (.val (.bl false)) := fun {Q} => gIn_of (by decide +kernel)
    refine ⟨by omega, by omega, by omega, ?_⟩
    simp only [PDS, STD, Int.reduceLT, g45, x_xf, isX_e, kXf_1, gEq_int, x_lm]
    exact ⟨by decide +kernel, q⟩
  · cases hi
    have t_NoBlocks : tb_NoBlocks "InvalidText" = some false := by decide +kernel
    have t_NoMove : tb_NoMove "InvalidText" = some false := by decide +kernel
    have t_NoRules : tb_NoRules "InvalidText" = some false := by decide +kernel
    have t_NoOperation : tb_NoOperation "InvalidText" = some false := by decide +kernel
    have t_NoZone : tb_NoZone "InvalidText" = some false := by decide +kernel
    have t_NoGate : tb_NoGate "InvalidText" = some false := by decide +kernel
    have t_NoNet : tb_NoNet "InvalidText" = some false := by decide +kernel
    have t_TooMany : tb_TooMany "InvalidText" = some false := by decide +kernel
    have t_InvalidText : tb_InvalidText "InvalidText" = some true := by decide +kernel
    have t_NoPackets : tb_NoPackets "InvalidText" = some false := by decide +kernel
    have t_NothingLeft : tb_NothingLeft "InvalidText" = some false := by decide +kernel
    have t_ValueError : tb_ValueError "InvalidText" = some true := by decide +kernel
    have hc : List.count true ([false, false, false, false, false, false, false, false, true, false, false] : List Bool) = 1 := by decide
    have hx : List.idxOf true ([false, false, false, false, false, false, false, false, true, false, false] : List Bool) = 8 := by decide
    have hm : true ∈ ([false, false, false, false, false, false, false, false, true, false, false] : List Bool) := by decide
    have kc : ∀ {Q : R → Env → Prop} {ρ : Env}, kCnt Q ρ (.lst [.bl false, .bl false, .bl false, .bl false, .bl false, .bl false, .bl false, .bl false, .bl true, .bl false, .bl false]) (.bl true) = Q (.val (.int 1)) ρ := fun {Q ρ} => (kCnt_l (bs := [false, false, false, false, false, false, false, false, true, false, false])).trans (by rw [hc]; rfl)
    have kx : ∀ {Q : R → Env → Prop} {ρ : Env}, kIdx Q ρ (.lst [.bl false, .bl false, .bl false, .bl false, .bl false, .bl false, .bl false, .bl false, .bl true, .bl false, .bl false]) (.bl true) = Q (.val (.int 8)) ρ := fun {Q ρ} => (kIdx_l (bs := [false, false, false, false, false, false, false, false, true, false, false])).trans (by rw [hx]; simp only [hm, true_and]; rfl)
    simp only [w__law_field, XRow.fs, XRow.xs, XRow.back, PDS, STD, fE_e, fE_n, t_NoBlocks, t_NoMove, t_NoRules, t_NoOperation, t_NoZone, t_NoGate, t_NoNet, t_TooMany, t_InvalidText, t_NoPackets, t_NothingLeft, t_ValueError, x_lm, isLst_l, kc, kx, gEq_int, x_xf, isX_e, kXf_1]
    have hz := sizeLine_eq
    have g45 : ∀ {Q : R → Prop}, gIn id (.int 8) (.tup [.int 4, .int 5]) Q = Q (.val (.bl false)) := fun {Q} => gIn_of (by decide +kernel)
    refine ⟨by omega, by omega, by omega, ?_⟩
    simp only [PDS, STD, Int.reduceLT, g45, x_xf, isX_e, kXf_1, gEq_int, x_lm]
    exact ⟨by decide +kernel, q⟩
  · cases hi
    have t_NoBlocks : tb_NoBlocks "NoPackets" = some false := by decide +kernel
    have t_NoMove : tb_NoMove "NoPackets" = some false := by decide +kernel
    have t_NoRules : tb_NoRules "NoPackets" = some false := by decide +kernel
    have t_NoOperation : tb_NoOperation "NoPackets" = some false := by decide +kernel
    have t_NoZone : tb_NoZone "NoPackets" = some false := by decide +kernel
    have t_NoGate : tb_NoGate "NoPackets" = some false := by decide +kernel
    have t_NoNet : tb_NoNet "NoPackets" = some false := by decide +kernel
    have t_TooMany : tb_TooMany "NoPackets" = some false := by decide +kernel
    have t_InvalidText : tb_InvalidText "NoPackets" = some false := by decide +kernel
    have t_NoPackets : tb_NoPackets "NoPackets" = some true := by decide +kernel
    have t_NothingLeft : tb_NothingLeft "NoPackets" = some false := by decide +kernel
    have t_ValueError : tb_ValueError "NoPackets" = some true := by decide +kernel
    have hc : List.count true ([false, false, false, false, false, false, false, false, false, true, false] : List Bool) = 1 := by decide
    have hx : List.idxOf true ([false, false, false, false, false, false, false, false, false, true, false] : List Bool) = 9 := by decide
    have hm : true ∈ ([false, false, false, false, false, false, false, false, false, true, false] : List Bool) := by decide
    have kc : ∀ {Q : R → Env → Prop} {ρ : Env}, kCnt Q ρ (.lst [.bl false, .bl false, .bl false, .bl false, .bl false, .bl false, .bl false, .bl false, .bl false, .bl true, .bl false]) (.bl true) = Q (.val (.int 1)) ρ := fun {Q ρ} => (kCnt_l (bs := [false, false, false, false, false, false, false, false, false, true, false])).trans (by rw [hc]; rfl)
    have kx : ∀ {Q : R → Env → Prop} {ρ : Env}, kIdx Q ρ (.lst [.bl false, .bl false, .bl false, .bl false, .bl false, .bl false, .bl false, .bl false, .bl false, .bl true, .bl false]) (.bl true) = Q (.val (.int 9)) ρ := fun {Q ρ} => (kIdx_l (bs := [false, false, false, false, false, false, false, false, false, true, false])).trans (by rw [hx]; simp only [hm, true_and]; rfl)
    simp only [w__law_field, XRow.fs, XRow.xs, XRow.back, PDS, STD, fE_e, fE_n, t_NoBlocks, t_NoMove, t_NoRules, t_NoOperation, t_NoZone, t_NoGate, t_NoNet, t_TooMany, t_InvalidText, t_NoPackets, t_NothingLeft, t_ValueError, x_lm, isLst_l, kc, kx, gEq_int, x_xf, isX_e, kXf_1]
    have hz := sizeLine_eq
    have g45 : ∀ {Q : R → Prop}, gIn id (.int 9) (.tup [.int 4, .int 5]) Q = Q (.val (.bl false)) := fun {Q} => gIn_of (by decide +kernel)
    refine ⟨by omega, by omega, by omega, ?_⟩
    simp only [PDS, STD, Int.reduceLT, g45, x_xf, isX_e, kXf_1, gEq_int, x_lm]
    exact q
  · cases hi
    have t_NoBlocks : tb_NoBlocks "NothingLeft" = some false := by decide +kernel
    have t_NoMove : tb_NoMove "NothingLeft" = some false := by decide +kernel
    have t_NoRules : tb_NoRules "NothingLeft" = some false := by decide +kernel
    have t_NoOperation : tb_NoOperation "NothingLeft" = some false := by decide +kernel
    have t_NoZone : tb_NoZone "NothingLeft" = some false := by decide +kernel
    have t_NoGate : tb_NoGate "NothingLeft" = some false := by decide +kernel
    have t_NoNet : tb_NoNet "NothingLeft" = some false := by decide +kernel
    have t_TooMany : tb_TooMany "NothingLeft" = some false := by decide +kernel
    have t_InvalidText : tb_InvalidText "NothingLeft" = some false := by decide +kernel
    have t_NoPackets : tb_NoPackets "NothingLeft" = some false := by decide +kernel
    have t_NothingLeft : tb_NothingLeft "NothingLeft" = some true := by decide +kernel
    have t_ValueError : tb_ValueError "NothingLeft" = some true := by decide +kernel
    have hc : List.count true ([false, false, false, false, false, false, false, false, false, false, true] : List Bool) = 1 := by decide
    have hx : List.idxOf true ([false, false, false, false, false, false, false, false, false, false, true] : List Bool) = 10 := by decide
    have hm : true ∈ ([false, false, false, false, false, false, false, false, false, false, true] : List Bool) := by decide
    have kc : ∀ {Q : R → Env → Prop} {ρ : Env}, kCnt Q ρ (.lst [.bl false, .bl false, .bl false, .bl false, .bl false, .bl false, .bl false, .bl false, .bl false, .bl false, .bl true]) (.bl true) = Q (.val (.int 1)) ρ := fun {Q ρ} => (kCnt_l (bs := [false, false, false, false, false, false, false, false, false, false, true])).trans (by rw [hc]; rfl)
    have kx : ∀ {Q : R → Env → Prop} {ρ : Env}, kIdx Q ρ (.lst [.bl false, .bl false, .bl false, .bl false, .bl false, .bl false, .bl false, .bl false, .bl false, .bl false, .bl true]) (.bl true) = Q (.val (.int 10)) ρ := fun {Q ρ} => (kIdx_l (bs := [false, false, false, false, false, false, false, false, false, false, true])).trans (by rw [hx]; simp only [hm, true_and]; rfl)
    simp only [w__law_field, XRow.fs, XRow.xs, XRow.back, PDS, STD, fE_e, fE_n, t_NoBlocks, t_NoMove, t_NoRules, t_NoOperation, t_NoZone, t_NoGate, t_NoNet, t_TooMany, t_InvalidText, t_NoPackets, t_NothingLeft, t_ValueError, x_lm, isLst_l, kc, kx, gEq_int, x_xf, isX_e, kXf_1]
    have hz := sizeLine_eq
    have g45 : ∀ {Q : R → Prop}, gIn id (.int 10) (.tup [.int 4, .int 5]) Q = Q (.val (.bl false)) := fun {Q} => gIn_of (by decide +kernel)
    refine ⟨by omega, by omega, by omega, ?_⟩
    simp only [PDS, STD, Int.reduceLT, g45, x_xf, isX_e, kXf_1, gEq_int, x_lm]
    exact q
  · simp [xTab] at hi
end PL
/-! LK1c: the law of errors by class keeps its promise. -/
namespace PL
open PySem PySem.Spec PyProof.Rows L2
variable [HasT]
def wShow : WS := wIf (wB (wOp2 (gEq not) (wCall gRepr (wVc (wCallF fs__law_field [] (wVk (wVar 7) (wVn))) (wVn))) (wCall gRepr (wVc (wTup (wKc (wVar 4) (wKc (wIfE (wB (wOp2 (gI fun i j => .bl (decide (i < j))) (wVar 4) (wC (.int 9)))) (wVar 6) (wC .non)) (wKn)))) (wVn))))) (wRet (wC (.bl false))) (wNext)
def wTry : WS := wSeq (wSet 7 (wErr 3 1 cat_GateError wr__law_caught (wCallF fs__law_raised [] (wVk (wVar 5) (wVk (wVar 6) (wVn)))))) wShow
def wPick : WS := wSeq (wSet 6 (wCallF fs__law_pick [] (wVc (wVar 1) (wVk (wLst (wKc (wC .non) (wKc (wC (.int 0)) (wKc (wCallF fs__law_take [] (wVc (wVar 1) (wVk (wC (.int 99)) (wVn)))) (wKc (wC (.str "a")) (wKc (wTup (wKc (wC (.int 1)) (wKc (wC (.str "b")) (wKn)))) (wKc (wC (.bl true)) (wKc (wOp1 gNeg (wC (.int 1))) (wKc (wLst (wKc (wC (.int 2)) (wKn))) (wKn)))))))))) (wVn))))) wTry
section
variable {e0 e2 e3 x4 x5 x6 x7 : Option Ent} {N : Env → Prop} {rt : R → Env → Prop} {bk : Env → Prop} {ex : Ex → Env → Prop}
theorem show_ok {i : Nat} {r : XRow} {d : D} (hr : xTab[i]? = some r) (hd : shD d) (hN : N [e0, some (.own false .draw), e2, e3, some (.val (.int i)), some (.val (.str r.w)), some (.val d), some (.val (.exc r.c r.fs (r.xs d)))]) :
    wShow ⟨N, rt, bk, N, ex⟩ [e0, some (.own false .draw), e2, e3, some (.val (.int i)), some (.val (.str r.w)), some (.val d), some (.val (.exc r.c r.fs (r.xs d)))] := by
  obtain ⟨p, hp, hw⟩ := hd
  have hi : i < 11 := (List.getElem?_eq_some_iff.mp hr).1
  have hz := sizeLine_eq
  simp only [wShow, PDN, PDS, STD]
  refine ⟨i, r, d, rfl, hr, ?_⟩
  have back : (i < 9 → r.back d = d) ∧ (¬ i < 9 → r.back d = .non) := by
    rcases i with _ | _ | _ | _ | _ | _ | _ | _ | _ | _ | _ | i
    all_goals first | (cases hr; exact ⟨fun _ => rfl, fun h => absurd (by decide) h⟩) | (cases hr; exact ⟨fun h => absurd h (by decide), fun _ => rfl⟩) | omega
  have en : PyData.none ∈ worths := List.mem_append_left _ List.mem_cons_self
  by_cases h9 : i < 9
  · have c9 : ((i : Int) < 9) = True := eq_true (by omega)
    obtain ⟨o1, o2⟩ := worth_okT hw hi
    have t1 : toP (.tup [.int i, d]) = some (.tuple [.int i, p]) := by simp [toP, toPs, hp]
    rw [back.1 h9]
    simp only [PDN, PDS, STD, gRepr_of t1, c9, gEq_str o2 o2]
    exact ⟨o1, o1, hN⟩
  · have c9 : ((i : Int) < 9) = False := eq_false (by omega)
    obtain ⟨o1, o2⟩ := worth_okT en hi
    have t1 : toP (.tup [.int i, .non]) = some (.tuple [.int i, .none]) := by simp [toP, toPs]
    rw [back.2 h9]
    simp only [PDN, PDS, STD, gRepr_of t1, c9, gEq_str o2 o2]
    exact ⟨o1, o1, hN⟩
theorem try_ok {i : Nat} {r : XRow} {d : D} (hr : xTab[i]? = some r) (hd : shD d) (f7 : frO (some x7) = true) (hN : ∀ x7, N [e0, some (.own false .draw), e2, e3, some (.val (.int i)), some (.val (.str r.w)), some (.val d), some (.val x7)]) :
    wTry ⟨N, rt, bk, N, ex⟩ [e0, some (.own false .draw), e2, e3, some (.val (.int i)), some (.val (.str r.w)), some (.val d), x7] := by
  have sh := @show_ok _ e0 e2 e3 N rt bk ex i r d hr hd (hN _)
  unfold wTry
  generalize wShow = T at sh ⊢
  simp only [PDN, PDS, STD, x_err]
  refine ⟨r, d, rfl, List.mem_of_getElem? hr, hd, ?_⟩
  have hc : cat_GateError r.c = true := by
    rcases i with _ | _ | _ | _ | _ | _ | _ | _ | _ | _ | _ | i
    all_goals first | (cases hr; decide +kernel) | (simp [xTab] at hr)
  simp only [wr__law_caught, slotAt, valQ_v, PDN, PDS, STD, hc, f7]
  exact sh
theorem pick_ok {i : Nat} {r : XRow} (hr : xTab[i]? = some r) (f6 : frO (some x6) = true) (f7 : frO (some x7) = true) (hN : ∀ x6 x7, N [e0, some (.own false .draw), e2, e3, some (.val (.int i)), some (.val (.str r.w)), some (.val x6), some (.val x7)]) :
    wPick ⟨N, rt, bk, N, ex⟩ [e0, some (.own false .draw), e2, e3, some (.val (.int i)), some (.val (.str r.w)), x6, x7] := by
  have hz := sizeLine_eq
  have sh := @try_ok _ e0 e2 e3 x7 N rt bk ex i r
  unfold wPick
  generalize wTry = T at sh ⊢
  simp only [PDN, PDS, STD]
  refine ⟨99, rfl, by decide, by decide, fun m m0 m1 => ?_⟩
  simp only [PDN, PDS, STD]
  refine ⟨_, rfl, by simp, by simp, fun x hx => ?_⟩
  have hs : shD x := by
    simp only [List.mem_cons, List.not_mem_nil, or_false] at hx
    have small : ∀ {p : PyData}, p ∈ ([.none, .str "a", .tuple [.int 1, .str "b"], .bool true, .int (-1), .list [.int 2]] : List PyData) → p ∈ worths := fun h => List.mem_append_left _ h
    have nums : ∀ z : Int, 0 ≤ z → z < 99 → PyData.int z ∈ worths := fun z h0 h1 => List.mem_append_right _ (List.mem_map.mpr ⟨z.toNat, List.mem_range.mpr (by omega), by rw [Int.toNat_of_nonneg h0]⟩)
    rcases hx with rfl | rfl | rfl | rfl | rfl | rfl | rfl | rfl
    · exact ⟨_, rfl, small (by simp)⟩
    · exact ⟨_, rfl, nums 0 (by decide) (by decide)⟩
    · exact ⟨_, rfl, nums m m0 m1⟩
    · exact ⟨_, rfl, small (by simp)⟩
    · exact ⟨_, rfl, small (by simp)⟩
    · exact ⟨_, rfl, small (by simp)⟩
    · exact ⟨_, rfl, small (by simp)⟩
    · exact ⟨_, rfl, small (by simp)⟩
  simp only [PDN, PDS, STD, f6]
  exact sh hr hs f7 (hN x)
def wTurns : WS := wFor (wRng1 (wOp2 gAdd (wC (.int 2)) (wCall gMin2 (wVc (wCall gLen (wVc (wVar 0) (wVn))) (wVc (wC (.int 5)) (wVn)))))) (wName 3) (wFor (wEnum (wVar 2)) (wUnp 2 (wGc (wName 4) (wGc (wName 5) (wGn)))) wPick)
def wWords : WS := wSet 2 (wLst (wKc (wC (.str "blocks")) (wKc (wC (.str "move")) (wKc (wC (.str "rules")) (wKc (wC (.str "operation")) (wKc (wC (.str "zone")) (wKc (wC (.str "gate")) (wKc (wC (.str "net")) (wKc (wC (.str "many")) (wKc (wC (.str "text")) (wKc (wC (.str "packets")) (wKc (wC (.str "left")) (wKn)))))))))))))
def wordsD : D := .lst (xTab.map fun r => .str r.w)
theorem words_ok (hN : N [e0, some (.own false .draw), some (.own false wordsD), none, none, none, none, none]) : wWords ⟨N, rt, bk, fun _ => False, ex⟩ [e0, some (.own false .draw), none, none, none, none, none, none] := by
  simp only [wWords, PDN, PDS, STD]
  exact hN
theorem enum_words : enumD (xTab.map fun r => D.str r.w) = xTab.zipIdx.map fun p => D.tup [.int p.2, .str p.1.w] := by rfl
theorem nameTo {i : Nat} {d : D} {ρ : Env} {Q : Env → Prop} {x : Option Ent} (h : ρ[i]? = some x) (hf : frO (some x) = true) (q : Q (ρ.set i (some (.val d)))) : wName i d ρ Q := by
  rw [x_name (by rw [x_frS, h]; exact hf)]
  exact q
theorem inner_ok {x2 x4 x5 : Option Ent} (h2 : x2 = some (.own false wordsD) ∨ x2 = some (.val wordsD)) (f4 : frO (some x4) = true) (f5 : frO (some x5) = true) (f6 : frO (some x6) = true) (f7 : frO (some x7) = true)
    (hN : ∀ x4 x5 x6 x7, frO (some x4) = true → frO (some x5) = true → frO (some x6) = true → frO (some x7) = true → N [e0, some (.own false .draw), some (.val wordsD), e3, x4, x5, x6, x7]) :
    wFor (wEnum (wVar 2)) (wUnp 2 (wGc (wName 4) (wGc (wName 5) (wGn)))) wPick ⟨N, rt, bk, N, ex⟩ [e0, some (.own false .draw), x2, e3, x4, x5, x6, x7] := by
  have hz := sizeLine_eq
  have turn := @pick_ok _
  generalize wPick = T at turn ⊢
  have core : wForL (wUnp 2 (wGc (wName 4) (wGc (wName 5) (wGn)))) T (enumD (xTab.map fun r => D.str r.w)) ⟨N, rt, bk, N, ex⟩ [e0, some (.own false .draw), some (.val wordsD), e3, x4, x5, x6, x7] := by
    rw [enum_words]
    refine for_all (fun p : XRow × Nat => D.tup [.int p.2, .str p.1.w]) (fun pre ρ => ∃ x4 x5 x6 x7, frO (some x4) = true ∧ frO (some x5) = true ∧ frO (some x6) = true ∧ frO (some x7) = true ∧ ρ = [e0, some (.own false .draw), some (.val wordsD), e3, x4, x5, x6, x7]) ⟨x4, x5, x6, x7, f4, f5, f6, f7, rfl⟩ ?_ ?_
    · rintro pre ⟨r, i⟩ post ρ hall ⟨x4, x5, x6, x7, f4, f5, f6, f7, rfl⟩ N2 hN2
      have hr : xTab[i]? = some r := List.mk_mem_zipIdx_iff_getElem?.mp (by rw [hall]; simp)
      simp only [PDN, PDS, STD, f4, f5]
      exact turn hr f6 f7 fun x6 x7 => hN2 _ ⟨_, _, _, _, rfl, rfl, rfl, rfl, rfl⟩
    · rintro ρ ⟨x4, x5, x6, x7, f4, f5, f6, f7, rfl⟩
      exact hN _ _ _ _ f4 f5 f6 f7
  generalize wUnp 2 (wGc (wName 4) (wGc (wName 5) (wGn))) = G at core ⊢
  rcases h2 with rfl | rfl
  · simp only [wordsD, PDN, PDS, STD] at core ⊢
    exact core
  · simp only [wordsD, PDN, PDS, STD] at core ⊢
    exact core
theorem turns_ok {ns : List Int} (hns : ns.length ≤ 63) (hN : ∀ x1 x2 x3 x4 x5 x6 x7, N [some (.val (.kst (ns.map .int))), x1, x2, x3, x4, x5, x6, x7]) : wTurns ⟨N, rt, bk, fun _ => False, ex⟩ [some (.val (.kst (ns.map .int))), some (.own false .draw), some (.own false wordsD), none, none, none, none, none] := by
  have hz := sizeLine_eq
  have turn := @inner_ok _
  unfold wTurns
  generalize wFor (wEnum (wVar 2)) (wUnp 2 (wGc (wName 4) (wGc (wName 5) (wGn)))) wPick = T at turn ⊢
  simp only [PDN, PDS, STD]
  have hm : (if (5 : Int) < (ns.length : Int) then (5 : Int) else (ns.length : Int)) ≤ 5 ∧ 0 ≤ (if (5 : Int) < (ns.length : Int) then (5 : Int) else (ns.length : Int)) := by split <;> omega
  generalize (if (5 : Int) < (ns.length : Int) then (5 : Int) else (ns.length : Int)) = m at hm ⊢
  refine ⟨⟨by omega, by omega, by omega⟩, ?_⟩
  refine for_all (fun i : Nat => D.int (0 + (i : Int))) (all := List.range (2 + m - 0).toNat) (fun pre ρ => ∃ x2 x3 x4 x5 x6 x7, (x2 = some (.own false wordsD) ∨ x2 = some (.val wordsD)) ∧ frO (some x3) = true ∧ frO (some x4) = true ∧ frO (some x5) = true ∧ frO (some x6) = true ∧ frO (some x7) = true ∧ ρ = [some (.val (.kst (ns.map .int))), some (.own false .draw), x2, x3, x4, x5, x6, x7]) ⟨_, none, none, none, none, none, .inl rfl, rfl, rfl, rfl, rfl, rfl, rfl⟩ ?_ ?_
  · rintro pre i post ρ hall ⟨x2, x3, x4, x5, x6, x7, h2, f3, f4, f5, f6, f7, rfl⟩ N2 hN2
    refine nameTo (i := 3) rfl f3 ?_
    exact turn h2 f4 f5 f6 f7 fun x4 x5 x6 x7 g4 g5 g6 g7 => hN2 _ ⟨_, _, x4, x5, x6, x7, .inr rfl, rfl, g4, g5, g6, g7, rfl⟩
  · rintro ρ ⟨x2, x3, x4, x5, x6, x7, h2, f3, f4, f5, f6, f7, rfl⟩
    exact hN _ _ _ _ _ _ _
end
theorem law_core {T W : WS} {ns : List Int} {Qp : R → List Ent → Prop} {Ep : Ex → List Ent → Prop} (hns : ns.length ≤ 63) (q : Qp (.val (.bl true)) (vals [.kst (ns.map .int)]))
    (words : ∀ {e0 : Option Ent} {N : Env → Prop} {rt : R → Env → Prop} {bk : Env → Prop} {ex : Ex → Env → Prop}, N [e0, some (.own false .draw), some (.own false wordsD), none, none, none, none, none] → W ⟨N, rt, bk, fun _ => False, ex⟩ [e0, some (.own false .draw), none, none, none, none, none, none])
    (turn : ∀ {N : Env → Prop} {rt : R → Env → Prop} {bk : Env → Prop} {ex : Ex → Env → Prop}, (∀ x1 x2 x3 x4 x5 x6 x7, N [some (.val (.kst (ns.map .int))), x1, x2, x3, x4, x5, x6, x7]) → T ⟨N, rt, bk, fun _ => False, ex⟩ [some (.val (.kst (ns.map .int))), some (.own false .draw), some (.own false wordsD), none, none, none, none, none]) :
    wSeq (wSet 1 (wCallF fs__law_begin [] (wVk (wVar 0) (wVn)))) (wSeq W (wSeq T (wRet (wC (.bl true))))) { nx := fun ρ => Qp (.val .non) (outA (vals [.kst (ns.map .int)]) ρ), rt := fun r ρ => Qp r (outA (vals [.kst (ns.map .int)]) ρ), ex := fun x ρ => Ep x (outA (vals [.kst (ns.map .int)]) ρ) } (envOf (vals [.kst (ns.map .int)]) 8) := by
  simp only [PDN, PDS, STD]
  refine ⟨ns, rfl, hns, ?_⟩
  simp only [PDN, PDS, STD]
  refine words (turn fun x1 x2 x3 x4 x5 x6 x7 => ?_)
  exact q
theorem sp_law : Kp w_law 1 8 fs_law := by
  rintro args Qp Ep ⟨ns, rfl, hns, q⟩
  exact ⟨rfl, law_core (W := wWords) (T := wTurns) hns q words_ok (turns_ok hns)⟩
end PL
/-! the end of the law (printed by gen_end.py). -/
namespace PL
open PySem PySem.Spec PyProof.Rows L2
variable [HasT]
structure Tx (K : PySem.W.Frag) (mg : Str → Option Value) : Prop where
  n_ValueError : mg "ValueError" = none
  n_enumerate : mg "enumerate" = none
  n_isinstance : mg "isinstance" = none
  n_len : mg "len" = none
  n_min : mg "min" = none
  n_range : mg "range" = none
  n_repr : mg "repr" = none
  n_str : mg "str" = none
section
variable {P : Program} {w : World} {K : PySem.W.Frag} {mg : Str → Option Value} {base : Heap}
abbrev N__law_take : List Str := ["_law_draw", "_law_size", "_law_cell", "_law_found"]
theorem sc__law_take : FnScope N__law_take ["_law_draw", "_law_size"] (defScope s__law_take) := ⟨rfl, rfl, rfl, by decide +kernel, rfl, by decide +kernel, by decide +kernel⟩
theorem ok__law_take {dvs0 : List V} {kws0 : List (Str × V)} {f : Addr} {fd : FuncData} (n_int : mg "int" = none) (n_divmod : mg "divmod" = none) (D0 : FunD K "_law_take" "_law_take" (defArgs s__law_take) (defBody s__law_take) (defScope s__law_take) dvs0 kws0 f fd) :
    FnOk P w K mg base (L2.CX P w) 1 f fd ["_law_draw", "_law_size"] (spOf K mg fs__law_take 2) := by
  refine FunD.ok (CX := L2.CX P w) D0 sc__law_take (fun vs H Q E h => sp_len h) (fun cdv A outer s H vs Q E hr h => ?_)
  have hu := hr.units
  have hu1 : (A.deeper (envOfC "_law_take" (defScope s__law_take) s.heap.objs.size f cdv)).units + 1 < cLine := Nat.lt_of_le_of_lt (by omega) hu
  refine ⟨t_take K, pss_cons (ps_if (PW.pt (pw_and (pt_cmpR op_eq (pe_dget hu1 (pv 0) pe_str (fun _ _ => rfl)) pe_int (nomark _)) (pw_and1 (pt_cmpR (op_neD hu) (pe_dget hu1 (pv 0) pe_str (fun _ _ => rfl)) (pe_lst pa_nil) (nomark _)))))
        (pss_one (ps_dput hu1 (pv 0) pe_str (pe_bm PySem.F.plainAttrs_list PySem.F.slot_list_pop PySem.F.type_list_pop mt_popAt (pe_dget hu1 (pv 0) pe_str (fun _ _ => rfl)) (pa_cons pe_int pa_nil)) rfl))
        (pss_one (ps_if (pt_cmpR op_eq (pe_dget hu1 (pv 0) pe_str (fun _ _ => rfl)) pe_int (nomark _))
          (pss_cons (ps_dput hu1 (pv 0) pe_str (pe_op op_add (pe_dget hu1 (pv 0) pe_str (fun _ _ => rfl)) pe_int) rfl)
            (pss_cons (ps_for (passes_of rfl) rfl (pi_list (pe_op op_cat (pe_lst (pa_cons (pe_dget hu1 (pv 0) pe_str (fun _ _ => rfl)) pa_nil)) (pe_dget hu1 (pv 0) pe_str (fun _ _ => rfl)))) (pg_name (i := 2) sc__law_take.nd rfl (.inl rfl))
              (pss_one (ps_dput hu1 (pv 0) pe_str (pe_op op_mod (pe_callTy call_int1 (by rfl) n_int boot_int (pa_cons (pe_op op_add (pe_op op_add (pe_op op_mul (pe_dget hu1 (pv 0) pe_str (fun _ _ => rfl)) pe_int) (pe_op op_mul (pv 2) pe_int)) pe_int) pa_nil)) pe_int) rfl)))
            (pss_one (ps_dput hu1 (pv 0) pe_str (pe_op op_mod (pe_callTy call_int1 (by rfl) n_int boot_int (pa_cons (pe_op op_pow (pe_dget hu1 (pv 0) pe_str (fun _ _ => rfl)) pe_int) pa_nil)) pe_int) rfl))))
          pss_nil)))
      (pss_cons (ps_asg (pe_callB call_divmod (by rfl) n_divmod boot_divmod (pa_cons (pe_dget hu1 (pv 0) pe_str (fun _ _ => rfl)) (pa_cons (pv 1) pa_nil))) (pg_tup rfl (pgs_cons (pg_sub (pv 0) pe_str (set_dict hu1)) (pgs_cons (pg_name (i := 3) sc__law_take.nd rfl (.inl rfl)) pgs_nil))))
        (pss_one (ps_ret (pv 3)))), take_sp rfl h⟩
abbrev N__law_begin : List Str := ["_law_script", "_law_large", "_law_cell"]
theorem sc__law_begin : FnScope N__law_begin ["_law_script"] (defScope s__law_begin) := ⟨rfl, rfl, rfl, by decide +kernel, rfl, by decide +kernel, by decide +kernel⟩
theorem ok__law_begin {dvs0 : List V} {kws0 : List (Str × V)} {f : Addr} {fd : FuncData} (n_abs : mg "abs" = none) (n_list : mg "list" = none) (D0 : FunD K "_law_begin" "_law_begin" (defArgs s__law_begin) (defBody s__law_begin) (defScope s__law_begin) dvs0 kws0 f fd) :
    FnOk P w K mg base (L2.CX P w) 1 f fd ["_law_script"] (spOf K mg fs__law_begin 1) := by
  refine FunD.ok (CX := L2.CX P w) D0 sc__law_begin (fun vs H Q E h => sp_len h) (fun cdv A outer s H vs Q E hr h => ?_)
  refine ⟨t_begin K, pss_cons (ps_setLc (i := 1) (own := [("_law_cell", 2)]) (g := gName 2) rfl sc__law_begin.nd rfl rfl (sw_true rfl rfl rfl (by decide +kernel)) (pi_list (pv 0)) (blkOk_by (N := N__law_begin) (sc := defScope s__law_begin) (own := [("_law_cell", 2)]) (by decide +kernel))
      (fun _ _ _ _ _ => pg_name (i := 2) sc__law_begin.nd rfl (.inl rfl))
      (fun _ _ _ _ _ => pts_one (pt_cmpR op_ge (pe_callB call_abs (by rfl) n_abs boot_abs (pa_cons (pv 2) pa_nil)) (pe_op op_pow pe_int pe_int) (nomark _)))
      (fun _ _ _ _ _ => pe_callB call_abs (by rfl) n_abs boot_abs (pa_cons (pv 2) pa_nil)))
    (pss_one (ps_ret (pe_disp (pps_cons pe_str (pv 1) (pps_cons pe_str (pe_callTy call_list_of (by rfl) n_list boot_list (pa_cons (pv 0) pa_nil)) (pps_cons pe_str pe_int (pps_cons pe_str pe_int (pps_cons pe_str pe_int pps_nil))))) rfl rfl (by simp) (by decide)))), begin_sp rfl h⟩
abbrev N__law_caught : List Str := ["_law_work", "_law_caught_here", "e"]
theorem sc__law_caught : FnScope N__law_caught ["_law_work"] (defScope s__law_caught) := ⟨rfl, rfl, rfl, by decide +kernel, rfl, by decide +kernel, by decide +kernel⟩
theorem iS_InvalidText : IniS "line" (defScope s_X_InvalidText) := ⟨rfl, rfl, rfl, by decide +kernel, rfl, rfl, rfl, rfl, by decide, by decide⟩
theorem iS_NoBlocks : IniS "index" (defScope s_X_NoBlocks) := ⟨rfl, rfl, rfl, by decide +kernel, rfl, rfl, rfl, rfl, by decide, by decide⟩
theorem iS_NoGate : IniS "name" (defScope s_X_NoGate) := ⟨rfl, rfl, rfl, by decide +kernel, rfl, rfl, rfl, rfl, by decide, by decide⟩
theorem iS_NoMove : IniS "index" (defScope s_X_NoMove) := ⟨rfl, rfl, rfl, by decide +kernel, rfl, rfl, rfl, rfl, by decide, by decide⟩
theorem iS_NoNet : IniS "part" (defScope s_X_NoNet) := ⟨rfl, rfl, rfl, by decide +kernel, rfl, rfl, rfl, rfl, by decide, by decide⟩
theorem iS_NoOperation : IniS "index" (defScope s_X_NoOperation) := ⟨rfl, rfl, rfl, by decide +kernel, rfl, rfl, rfl, rfl, by decide, by decide⟩
theorem iS_NoRules : IniS "index" (defScope s_X_NoRules) := ⟨rfl, rfl, rfl, by decide +kernel, rfl, rfl, rfl, rfl, by decide, by decide⟩
theorem iS_NoZone : IniS "name" (defScope s_X_NoZone) := ⟨rfl, rfl, rfl, by decide +kernel, rfl, rfl, rfl, rfl, by decide, by decide⟩
theorem iS_TooMany : IniS "most" (defScope s_X_TooMany) := ⟨rfl, rfl, rfl, by decide +kernel, rfl, rfl, rfl, rfl, by decide, by decide⟩
abbrev N__law_pick : List Str := ["_law_draw", "_law_some"]
theorem sc__law_pick : FnScope N__law_pick ["_law_draw", "_law_some"] (defScope s__law_pick) := ⟨rfl, rfl, rfl, by decide +kernel, rfl, by decide +kernel, by decide +kernel⟩
theorem ok__law_pick {dvs0 : List V} {kws0 : List (Str × V)} {f : Addr} {fd : FuncData} (T : Tx K mg) {f__law_take : Addr} {d__law_take : FuncData} (G__law_take : DfAt P w K mg base "_law_take" f__law_take d__law_take ["_law_draw", "_law_size"] 1 fs__law_take) (D0 : FunD K "_law_pick" "_law_pick" (defArgs s__law_pick) (defBody s__law_pick) (defScope s__law_pick) dvs0 kws0 f fd) :
    FnOk P w K mg base (L2.CX P w) 2 f fd ["_law_draw", "_law_some"] (spOf K mg fs__law_pick 2) := by
  exact fn_pd (k := 1) (ws := w__law_pick) (N := N__law_pick) D0 sc__law_pick (fun cdv A outer s H E C =>
    pss_1 (pst_ret (go_ix (pd_var (pv 1)) (pd_call C G__law_take.fn (by decide) G__law_take.mx G__law_take.kp G__law_take.bd .nil (fun _ => rfl) (pv_cons (pd_var (pv 0)) (pv_consK (go_len T.n_len (pv_cons (pd_var (pv 1)) (pv_nil))) (pv_nil))))))) sp__law_pick
abbrev N__law_raised : List Str := ["_law_word", "_law_worth"]
theorem sc__law_raised : FnScope N__law_raised ["_law_word", "_law_worth"] (defScope s__law_raised) := ⟨rfl, rfl, rfl, by decide +kernel, rfl, by decide +kernel, by decide +kernel⟩
theorem ok__law_raised {dvs0 : List V} {kws0 : List (Str × V)} {f : Addr} {fd : FuncData} (T : Tx K mg) {c_InvalidText : Addr} {c_NoBlocks : Addr} {c_NoGate : Addr} {c_NoMove : Addr} {c_NoNet : Addr} {c_NoOperation : Addr} {c_NoPackets : Addr} {c_NoRules : Addr} {c_NoZone : Addr} {c_NothingLeft : Addr} {c_TooMany : Addr} {i_InvalidText : Addr} {b_InvalidText : FuncData} (XC_InvalidText : XClF K mg P "InvalidText" "line" "line" c_InvalidText i_InvalidText b_InvalidText) (XK_InvalidText : KAt K b_InvalidText ["self", "line"] 1 ["line"] [0, 1]) {i_NoBlocks : Addr} {b_NoBlocks : FuncData} (XC_NoBlocks : XClF K mg P "NoBlocks" "index" "index" c_NoBlocks i_NoBlocks b_NoBlocks) (XK_NoBlocks : KAt K b_NoBlocks ["self", "index"] 1 ["index"] [0, 1]) {i_NoGate : Addr} {b_NoGate : FuncData} (XC_NoGate : XClF K mg P "NoGate" "name" "name" c_NoGate i_NoGate b_NoGate) (XK_NoGate : KAt K b_NoGate ["self", "name"] 1 ["name"] [0, 1]) {i_NoMove : Addr} {b_NoMove : FuncData} (XC_NoMove : XClF K mg P "NoMove" "index" "index" c_NoMove i_NoMove b_NoMove) (XK_NoMove : KAt K b_NoMove ["self", "index"] 1 ["index"] [0, 1]) {i_NoNet : Addr} {b_NoNet : FuncData} (XC_NoNet : XClF K mg P "NoNet" "part" "part" c_NoNet i_NoNet b_NoNet) (XK_NoNet : KAt K b_NoNet ["self", "part"] 1 ["part"] [0, 1]) {i_NoOperation : Addr} {b_NoOperation : FuncData} (XC_NoOperation : XClF K mg P "NoOperation" "index" "index" c_NoOperation i_NoOperation b_NoOperation) (XK_NoOperation : KAt K b_NoOperation ["self", "index"] 1 ["index"] [0, 1]) (XC_NoPackets : XCl0 K mg "NoPackets" c_NoPackets) {i_NoRules : Addr} {b_NoRules : FuncData} (XC_NoRules : XClF K mg P "NoRules" "index" "index" c_NoRules i_NoRules b_NoRules) (XK_NoRules : KAt K b_NoRules ["self", "index"] 1 ["index"] [0, 1]) {i_NoZone : Addr} {b_NoZone : FuncData} (XC_NoZone : XClF K mg P "NoZone" "name" "name" c_NoZone i_NoZone b_NoZone) (XK_NoZone : KAt K b_NoZone ["self", "name"] 1 ["name"] [0, 1]) (XC_NothingLeft : XCl0 K mg "NothingLeft" c_NothingLeft) {i_TooMany : Addr} {b_TooMany : FuncData} (XC_TooMany : XClF K mg P "TooMany" "most" "most" c_TooMany i_TooMany b_TooMany) (XK_TooMany : KAt K b_TooMany ["self", "most"] 1 ["most"] [0, 1]) (D0 : FunD K "_law_raised" "_law_raised" (defArgs s__law_raised) (defBody s__law_raised) (defScope s__law_raised) dvs0 kws0 f fd) :
    FnG P w K mg base 3 f fd ["_law_word", "_law_worth"] fs__law_raised := by
  exact fn_pdG (k := 2) (ws := w__law_raised) (N := N__law_raised) D0 sc__law_raised (fun A outer s H E hN C =>
    pss_c (pst_if (to_eq C (pd_var (pv 0)) (pd_str)) (pss_1 (pst_raiseFK C (by decide) XC_NoBlocks XK_NoBlocks (pd_var (pv 1)))) (pss_0))
    (pss_c (pst_if (to_eq C (pd_var (pv 0)) (pd_str)) (pss_1 (pst_raiseFK C (by decide) XC_NoMove XK_NoMove (pd_var (pv 1)))) (pss_0))
    (pss_c (pst_if (to_eq C (pd_var (pv 0)) (pd_str)) (pss_1 (pst_raiseFK C (by decide) XC_NoRules XK_NoRules (pd_var (pv 1)))) (pss_0))
    (pss_c (pst_if (to_eq C (pd_var (pv 0)) (pd_str)) (pss_1 (pst_raiseFK C (by decide) XC_NoOperation XK_NoOperation (pd_var (pv 1)))) (pss_0))
    (pss_c (pst_if (to_eq C (pd_var (pv 0)) (pd_str)) (pss_1 (pst_raiseFK C (by decide) XC_NoZone XK_NoZone (pd_var (pv 1)))) (pss_0))
    (pss_c (pst_if (to_eq C (pd_var (pv 0)) (pd_str)) (pss_1 (pst_raiseFK C (by decide) XC_NoGate XK_NoGate (pd_var (pv 1)))) (pss_0))
    (pss_c (pst_if (to_eq C (pd_var (pv 0)) (pd_str)) (pss_1 (pst_raiseFK C (by decide) XC_NoNet XK_NoNet (pd_var (pv 1)))) (pss_0))
    (pss_c (pst_if (to_eq C (pd_var (pv 0)) (pd_str)) (pss_1 (pst_raiseFK C (by decide) XC_TooMany XK_TooMany (pd_var (pv 1)))) (pss_0))
    (pss_c (pst_if (to_eq C (pd_var (pv 0)) (pd_str)) (pss_1 (pst_raiseFK C (by decide) XC_InvalidText XK_InvalidText (pd_var (pv 1)))) (pss_0))
    (pss_c (pst_if (to_eq C (pd_var (pv 0)) (pd_str)) (pss_1 (pst_raise0 C XC_NoPackets (pd_strD C hN T.n_str (pv_cons (pd_var (pv 1)) (pv_nil))))) (pss_0))
    (pss_1 (pst_raise0 C XC_NothingLeft (pd_strD C hN T.n_str (pv_cons (pd_var (pv 1)) (pv_nil))))))))))))))) sp__law_raised
abbrev N__law_field : List Str := ["_law_error", "_law_marks", "_law_at"]
theorem sc__law_field : FnScope N__law_field ["_law_error"] (defScope s__law_field) := ⟨rfl, rfl, rfl, by decide +kernel, rfl, by decide +kernel, by decide +kernel⟩
theorem ok__law_field {dvs0 : List V} {kws0 : List (Str × V)} {f : Addr} {fd : FuncData} (T : Tx K mg) {c_InvalidText : Addr} {c_NoBlocks : Addr} {c_NoGate : Addr} {c_NoMove : Addr} {c_NoNet : Addr} {c_NoOperation : Addr} {c_NoPackets : Addr} {c_NoRules : Addr} {c_NoZone : Addr} {c_NothingLeft : Addr} {c_TooMany : Addr} (XF_index : ∀ cn C, okx_index cn = true → mg cn = some (.ref C) → XfC K C ∧ PySem.W.findIn K (.ref C) "index" = some none) (XF_line : ∀ cn C, okx_line cn = true → mg cn = some (.ref C) → XfC K C ∧ PySem.W.findIn K (.ref C) "line" = some none) (XF_most : ∀ cn C, okx_most cn = true → mg cn = some (.ref C) → XfC K C ∧ PySem.W.findIn K (.ref C) "most" = some none) (XF_name : ∀ cn C, okx_name cn = true → mg cn = some (.ref C) → XfC K C ∧ PySem.W.findIn K (.ref C) "name" = some none) (XF_part : ∀ cn C, okx_part cn = true → mg cn = some (.ref C) → XfC K C ∧ PySem.W.findIn K (.ref C) "part" = some none) (XI_InvalidText : XIs K mg (.ref c_InvalidText) tb_InvalidText) (XM_InvalidText : mg "InvalidText" = some (.ref c_InvalidText)) (XI_NoBlocks : XIs K mg (.ref c_NoBlocks) tb_NoBlocks) (XM_NoBlocks : mg "NoBlocks" = some (.ref c_NoBlocks)) (XI_NoGate : XIs K mg (.ref c_NoGate) tb_NoGate) (XM_NoGate : mg "NoGate" = some (.ref c_NoGate)) (XI_NoMove : XIs K mg (.ref c_NoMove) tb_NoMove) (XM_NoMove : mg "NoMove" = some (.ref c_NoMove)) (XI_NoNet : XIs K mg (.ref c_NoNet) tb_NoNet) (XM_NoNet : mg "NoNet" = some (.ref c_NoNet)) (XI_NoOperation : XIs K mg (.ref c_NoOperation) tb_NoOperation) (XM_NoOperation : mg "NoOperation" = some (.ref c_NoOperation)) (XI_NoPackets : XIs K mg (.ref c_NoPackets) tb_NoPackets) (XM_NoPackets : mg "NoPackets" = some (.ref c_NoPackets)) (XI_NoRules : XIs K mg (.ref c_NoRules) tb_NoRules) (XM_NoRules : mg "NoRules" = some (.ref c_NoRules)) (XI_NoZone : XIs K mg (.ref c_NoZone) tb_NoZone) (XM_NoZone : mg "NoZone" = some (.ref c_NoZone)) (XI_NothingLeft : XIs K mg (.ref c_NothingLeft) tb_NothingLeft) (XM_NothingLeft : mg "NothingLeft" = some (.ref c_NothingLeft)) (XI_TooMany : XIs K mg (.ref c_TooMany) tb_TooMany) (XM_TooMany : mg "TooMany" = some (.ref c_TooMany)) (XI_ValueError : XIs K mg (.type "ValueError") tb_ValueError) (D0 : FunD K "_law_field" "_law_field" (defArgs s__law_field) (defBody s__law_field) (defScope s__law_field) dvs0 kws0 f fd) :
    FnOk P w K mg base (L2.CX P w) 1 f fd ["_law_error"] (spOf K mg fs__law_field 1) := by
  exact fn_pd (k := 0) (ws := w__law_field) (N := N__law_field) D0 sc__law_field (fun cdv A outer s H E C =>
    pss_c (pst_set (i := 1) sc__law_field.nd (pd_lst (pk_cons (pd_isX XI_NoBlocks XM_NoBlocks T.n_isinstance (pd_var (pv 0))) (pk_cons (pd_isX XI_NoMove XM_NoMove T.n_isinstance (pd_var (pv 0))) (pk_cons (pd_isX XI_NoRules XM_NoRules T.n_isinstance (pd_var (pv 0))) (pk_nil))))))
    (pss_c (pst_set (i := 1) sc__law_field.nd (go_add (pd_var (pv 1)) (pd_lst (pk_cons (pd_isX XI_NoOperation XM_NoOperation T.n_isinstance (pd_var (pv 0))) (pk_cons (pd_isX XI_NoZone XM_NoZone T.n_isinstance (pd_var (pv 0))) (pk_cons (pd_isX XI_NoGate XM_NoGate T.n_isinstance (pd_var (pv 0))) (pk_nil)))))))
    (pss_c (pst_set (i := 1) sc__law_field.nd (go_add (pd_var (pv 1)) (pd_lst (pk_cons (pd_isX XI_NoNet XM_NoNet T.n_isinstance (pd_var (pv 0))) (pk_cons (pd_isX XI_TooMany XM_TooMany T.n_isinstance (pd_var (pv 0))) (pk_cons (pd_isX XI_InvalidText XM_InvalidText T.n_isinstance (pd_var (pv 0))) (pk_nil)))))))
    (pss_c (pst_set (i := 1) sc__law_field.nd (go_add (pd_var (pv 1)) (pd_lst (pk_cons (pd_isX XI_NoPackets XM_NoPackets T.n_isinstance (pd_var (pv 0))) (pk_cons (pd_isX XI_NothingLeft XM_NothingLeft T.n_isinstance (pd_var (pv 0))) (pk_nil))))))
    (pss_c (pst_if (pt_w (pw_o (to_ne C (pd_cntB C (pd_var (pv 1)) (pd_bl)) (pd_int)) (pw_o1 (pt_n (pt_b (pd_isXT XI_ValueError (by decide +kernel) T.n_ValueError T.n_isinstance (pd_var (pv 0)))))))) (pss_1 (pst_ret (pd_non))) (pss_0))
    (pss_c (pst_set (i := 2) sc__law_field.nd (pd_idxB C (pd_var (pv 1)) (pd_bl)))
    (pss_c (pst_if (to_lt (pd_var (pv 2)) (pd_int)) (pss_1 (pst_ret (pd_tup (pk_cons (pd_var (pv 2)) (pk_cons (pd_xf XF_index (pd_var (pv 0))) (pk_nil)))))) (pss_0))
    (pss_c (pst_if (to_in C (pd_var (pv 2)) (pd_tup (pk_cons (pd_int) (pk_cons (pd_int) (pk_nil))))) (pss_1 (pst_ret (pd_tup (pk_cons (pd_var (pv 2)) (pk_cons (pd_xf XF_name (pd_var (pv 0))) (pk_nil)))))) (pss_0))
    (pss_c (pst_if (to_eq C (pd_var (pv 2)) (pd_int)) (pss_1 (pst_ret (pd_tup (pk_cons (pd_var (pv 2)) (pk_cons (pd_xf XF_part (pd_var (pv 0))) (pk_nil)))))) (pss_0))
    (pss_c (pst_if (to_eq C (pd_var (pv 2)) (pd_int)) (pss_1 (pst_ret (pd_tup (pk_cons (pd_var (pv 2)) (pk_cons (pd_xf XF_most (pd_var (pv 0))) (pk_nil)))))) (pss_0))
    (pss_1 (pst_ret (pd_ife (to_eq C (pd_var (pv 2)) (pd_int)) (pd_tup (pk_cons (pd_var (pv 2)) (pk_cons (pd_xf XF_line (pd_var (pv 0))) (pk_nil)))) (pd_tup (pk_cons (pd_var (pv 2)) (pk_cons (pd_non) (pk_nil))))))))))))))))) sp__law_field
abbrev N_law : List Str := ["_law_script", "_law_draw", "_law_words", "_law_turn", "_law_at", "_law_word", "_law_worth", "_law_error"]
theorem sc_law : FnScope N_law ["_law_script"] (defScope s_law) := ⟨rfl, rfl, rfl, by decide +kernel, rfl, by decide +kernel, by decide +kernel⟩
theorem ok_law {dvs0 : List V} {kws0 : List (Str × V)} {f : Addr} {fd : FuncData} (T : Tx K mg) {f__law_begin : Addr} {d__law_begin : FuncData} (G__law_begin : DfAt P w K mg base "_law_begin" f__law_begin d__law_begin ["_law_script"] 1 fs__law_begin) {f__law_field : Addr} {d__law_field : FuncData} (G__law_field : DfAt P w K mg base "_law_field" f__law_field d__law_field ["_law_error"] 1 fs__law_field) {f__law_pick : Addr} {d__law_pick : FuncData} (G__law_pick : DfAt P w K mg base "_law_pick" f__law_pick d__law_pick ["_law_draw", "_law_some"] 2 fs__law_pick) {f__law_raised : Addr} {d__law_raised : FuncData} (G__law_raised : DfG P w K mg base "_law_raised" f__law_raised d__law_raised ["_law_word", "_law_worth"] 3 fs__law_raised) {f__law_take : Addr} {d__law_take : FuncData} (G__law_take : DfAt P w K mg base "_law_take" f__law_take d__law_take ["_law_draw", "_law_size"] 1 fs__law_take) {f__law_caught : Addr} {d__law_caught : FuncData} (CT__law_caught : CatAt K mg "_law_caught" "_law_work" s__law_caught f__law_caught d__law_caught) {e_GateError : Addr} (GE_GateError : ExmAt K mg "GateError" e_GateError cat_GateError) {cL PL_ : Addr} (LDc : fd.code = .ref cL) (LDt : LamX.TabB base mg cL PL_) (LDm : (PL_, ("law" : Str) ++ ".<locals>." ++ "<lambda>") ∈ HasT.T) (LDo : ∀ p ∈ HasT.T, p.1 = PL_ → p.2 = ("law" : Str) ++ ".<locals>." ++ "<lambda>") (D0 : FunD K "law" "law" (defArgs s_law) (defBody s_law) (defScope s_law) dvs0 kws0 f fd) :
    FnG P w K mg base 6 f fd ["_law_script"] fs_law := by
  exact fn_pdG (k := 5) (ws := w_law) (N := N_law) D0 sc_law (fun A outer s H E hN C =>
    pss_c (pst_set (i := 1) sc_law.nd (pd_call C G__law_begin.fn (by decide) G__law_begin.mx G__law_begin.kp G__law_begin.bd .nil (fun _ => rfl) (pv_consK (pd_var (pv 0)) (pv_nil))))
    (pss_c (pst_set (i := 2) sc_law.nd (pd_lst (pk_cons (pd_str) (pk_cons (pd_str) (pk_cons (pd_str) (pk_cons (pd_str) (pk_cons (pd_str) (pk_cons (pd_str) (pk_cons (pd_str) (pk_cons (pd_str) (pk_cons (pd_str) (pk_cons (pd_str) (pk_cons (pd_str) (pk_nil))))))))))))))
    (pss_c (pst_for C (pi_rng1 (by rfl) T.n_range (go_add (pd_int) (go_min2 C T.n_min (pv_cons (go_len T.n_len (pv_cons (pd_var (pv 0)) (pv_nil))) (pv_cons (pd_int) (pv_nil)))))) (pg_n (i := 3) sc_law.nd) (pss_1 (pst_for C (pi_enu (by rfl) T.n_enumerate (pd_var (pv 2))) (pg_u (by rfl) (pgs_c (pg_n (i := 4) sc_law.nd) (pgs_c (pg_n (i := 5) sc_law.nd) (pgs_0)))) (pss_c (pst_set (i := 6) sc_law.nd (pd_call C G__law_pick.fn (by decide) G__law_pick.mx G__law_pick.kp G__law_pick.bd .nil (fun _ => rfl) (pv_cons (pd_var (pv 1)) (pv_consK (pd_lst (pk_cons (pd_non) (pk_cons (pd_int) (pk_cons (pd_call C G__law_take.fn (by decide) G__law_take.mx G__law_take.kp G__law_take.bd .nil (fun _ => rfl) (pv_cons (pd_var (pv 1)) (pv_consK (pd_int) (pv_nil)))) (pk_cons (pd_str) (pk_cons (pd_tup (pk_cons (pd_int) (pk_cons (pd_str) (pk_nil)))) (pk_cons (pd_bl) (pk_cons (go_neg (pd_int)) (pk_cons (pd_lst (pk_cons (pd_int) (pk_nil))) (pk_nil)))))))))) (pv_nil)))))
    (pss_c (pst_set (i := 7) sc_law.nd (pd_lamC (st := s__law_caught) (Ng := N__law_caught) (i := 2) (j := 1) (wr := wr__law_caught) C hN CT__law_caught GE_GateError rfl sc__law_caught ⟨⟨rfl, rfl, rfl⟩, by decide, by decide⟩ ⟨.inl rfl, rfl, rfl, rfl⟩ (fun s4 H4 C =>
      pss_1 (pst_ret (pd_var (pv 1))))
      ⟨LDt, LDc, LDm, LDo⟩ (LamX.lamS_by (sc := defScope s_law) (by decide +kernel)) rfl (fun _ _ _ _ _ => rfl) (fun A3 o3 s3 H3 E3 f3 c3 hN C => pd_callG C hN G__law_raised.fn (by decide) G__law_raised.mx G__law_raised.kp G__law_raised.bd .nil (fun _ => rfl) (pv_consK (pd_var (pv 5)) (pv_consK (pd_var (pv 6)) (pv_nil))))))
    (pss_1 (pst_if (to_ne C (pd_repr C hN T.n_repr (pv_cons (pd_call C G__law_field.fn (by decide) G__law_field.mx G__law_field.kp G__law_field.bd .nil (fun _ => rfl) (pv_consK (pd_var (pv 7)) (pv_nil))) (pv_nil))) (pd_repr C hN T.n_repr (pv_cons (pd_tup (pk_cons (pd_var (pv 4)) (pk_cons (pd_ife (to_lt (pd_var (pv 4)) (pd_int)) (pd_var (pv 6)) (pd_non)) (pk_nil)))) (pv_nil)))) (pss_1 (pst_ret (pd_bl))) (pss_0))))))))
    (pss_1 (pst_ret (pd_bl)))))) sp_law
end
end PL
namespace PL
open PySem PySem.Spec PyProof.Rows L2
theorem facts [HasT] {P : Program} {w : World} {K : PySem.W.Frag} {h : Heap} {mg : Str → Option Value} {f : Addr} (X : K.In h) (G : h.Ns mainGlobals mg) (hfa : mg ("law" : Str) = some (.ref f)) (c : SaysY faA fnA tfA h K) (hT : HasT.T = [((He.cT K ("law", none)).2, (("law" : Str) ++ ".<locals>." ++ "<lambda>"))]) (hfile : P.main.file = fileA) (htop : (P.main.scope.names.lookup ("super" : Str)).isSome = false) :
    ∃ fd : FuncData, (∀ (s : Shared) (v : Value), BindsTo s fd ⟨[v], []⟩ [("_law_script", v)]) ∧ ∀ base : Heap, K.In base → base.Ns mainGlobals mg → (∀ p ∈ tfA, LamX.TabB base mg (He.cT K p).1 (He.cT K p).2) → FnG P w K mg base 6 f fd ["_law_script"] fs_law := by
  obtain ⟨d__law_begin, F__law_begin⟩ := c.def_ 0 (d := dd__law_begin) rfl
  obtain ⟨d__law_take, F__law_take⟩ := c.def_ 1 (d := dd__law_take) rfl
  obtain ⟨d__law_caught, F__law_caught⟩ := c.def_ 2 (d := dd__law_caught) rfl
  obtain ⟨d__law_pick, F__law_pick⟩ := c.def_ 3 (d := dd__law_pick) rfl
  obtain ⟨d__law_raised, F__law_raised⟩ := c.def_ 4 (d := dd__law_raised) rfl
  obtain ⟨d__law_field, F__law_field⟩ := c.def_ 5 (d := dd__law_field) rfl
  obtain ⟨d_law, F_law⟩ := c.def_ 6 (d := dd_law) rfl
  have T : Tx K mg := ⟨He.free_ok X G (c.fact 0 (f := (fun K => (He.Fa.free "ValueError").ok K)) rfl), He.free_ok X G (c.fact 3 (f := (fun K => (He.Fa.free "enumerate").ok K)) rfl), He.free_ok X G (c.fact 5 (f := (fun K => (He.Fa.free "isinstance").ok K)) rfl), He.free_ok X G (c.fact 6 (f := (fun K => (He.Fa.free "len").ok K)) rfl), He.free_ok X G (c.fact 8 (f := (fun K => (He.Fa.free "min").ok K)) rfl), He.free_ok X G (c.fact 9 (f := (fun K => (He.Fa.free "range").ok K)) rfl), He.free_ok X G (c.fact 10 (f := (fun K => (He.Fa.free "repr").ok K)) rfl), He.free_ok X G (c.fact 11 (f := (fun K => (He.Fa.free "str").ok K)) rfl)⟩
  have GE_GateError := exmB_ok (e := "GateError") (cat := cat_GateError) (fun _ => rfl) X G (c.fact 20 (f := gloAll exA) rfl) (c.fact 22 (f := (fun K => (He.Fa.glo "GateError").ok K)) rfl) (c.fact 23 (f := (exmB exA "GateError")) rfl)
  obtain ⟨b_X_InvalidText, XC_InvalidText, XK_InvalidText⟩ := xclF_of (P := P) (cn := "InvalidText") (f := "line") (p := "line") X G c (c.fact 24 (f := (fun K => (He.Fa.glo "InvalidText").ok K)) rfl) (by rw [hfile]; exact (c.fact 25 (f := (xclFB "InvalidText" "line" fileA)) rfl)) (He.free_ok X G (c.fact 19 (f := (fun K => (He.Fa.free "super").ok K)) rfl)) 7 (d := dd_X_InvalidText) rfl rfl htop iS_InvalidText ⟨fun _ => rfl, fun _ => rfl, fun _ => rfl⟩ ⟨_, rfl, rfl⟩ (fun _ _ _ _ _ _ _ _ _ => rfl) (fun _ _ _ _ _ _ _ _ _ => rfl)
  obtain ⟨b_X_NoBlocks, XC_NoBlocks, XK_NoBlocks⟩ := xclF_of (P := P) (cn := "NoBlocks") (f := "index") (p := "index") X G c (c.fact 26 (f := (fun K => (He.Fa.glo "NoBlocks").ok K)) rfl) (by rw [hfile]; exact (c.fact 27 (f := (xclFB "NoBlocks" "index" fileA)) rfl)) (He.free_ok X G (c.fact 19 (f := (fun K => (He.Fa.free "super").ok K)) rfl)) 8 (d := dd_X_NoBlocks) rfl rfl htop iS_NoBlocks ⟨fun _ => rfl, fun _ => rfl, fun _ => rfl⟩ ⟨_, rfl, rfl⟩ (fun _ _ _ _ _ _ _ _ _ => rfl) (fun _ _ _ _ _ _ _ _ _ => rfl)
  obtain ⟨b_X_NoGate, XC_NoGate, XK_NoGate⟩ := xclF_of (P := P) (cn := "NoGate") (f := "name") (p := "name") X G c (c.fact 28 (f := (fun K => (He.Fa.glo "NoGate").ok K)) rfl) (by rw [hfile]; exact (c.fact 29 (f := (xclFB "NoGate" "name" fileA)) rfl)) (He.free_ok X G (c.fact 19 (f := (fun K => (He.Fa.free "super").ok K)) rfl)) 9 (d := dd_X_NoGate) rfl rfl htop iS_NoGate ⟨fun _ => rfl, fun _ => rfl, fun _ => rfl⟩ ⟨_, rfl, rfl⟩ (fun _ _ _ _ _ _ _ _ _ => rfl) (fun _ _ _ _ _ _ _ _ _ => rfl)
  obtain ⟨b_X_NoMove, XC_NoMove, XK_NoMove⟩ := xclF_of (P := P) (cn := "NoMove") (f := "index") (p := "index") X G c (c.fact 30 (f := (fun K => (He.Fa.glo "NoMove").ok K)) rfl) (by rw [hfile]; exact (c.fact 31 (f := (xclFB "NoMove" "index" fileA)) rfl)) (He.free_ok X G (c.fact 19 (f := (fun K => (He.Fa.free "super").ok K)) rfl)) 10 (d := dd_X_NoMove) rfl rfl htop iS_NoMove ⟨fun _ => rfl, fun _ => rfl, fun _ => rfl⟩ ⟨_, rfl, rfl⟩ (fun _ _ _ _ _ _ _ _ _ => rfl) (fun _ _ _ _ _ _ _ _ _ => rfl)
  obtain ⟨b_X_NoNet, XC_NoNet, XK_NoNet⟩ := xclF_of (P := P) (cn := "NoNet") (f := "part") (p := "part") X G c (c.fact 32 (f := (fun K => (He.Fa.glo "NoNet").ok K)) rfl) (by rw [hfile]; exact (c.fact 33 (f := (xclFB "NoNet" "part" fileA)) rfl)) (He.free_ok X G (c.fact 19 (f := (fun K => (He.Fa.free "super").ok K)) rfl)) 11 (d := dd_X_NoNet) rfl rfl htop iS_NoNet ⟨fun _ => rfl, fun _ => rfl, fun _ => rfl⟩ ⟨_, rfl, rfl⟩ (fun _ _ _ _ _ _ _ _ _ => rfl) (fun _ _ _ _ _ _ _ _ _ => rfl)
  obtain ⟨b_X_NoOperation, XC_NoOperation, XK_NoOperation⟩ := xclF_of (P := P) (cn := "NoOperation") (f := "index") (p := "index") X G c (c.fact 34 (f := (fun K => (He.Fa.glo "NoOperation").ok K)) rfl) (by rw [hfile]; exact (c.fact 35 (f := (xclFB "NoOperation" "index" fileA)) rfl)) (He.free_ok X G (c.fact 19 (f := (fun K => (He.Fa.free "super").ok K)) rfl)) 12 (d := dd_X_NoOperation) rfl rfl htop iS_NoOperation ⟨fun _ => rfl, fun _ => rfl, fun _ => rfl⟩ ⟨_, rfl, rfl⟩ (fun _ _ _ _ _ _ _ _ _ => rfl) (fun _ _ _ _ _ _ _ _ _ => rfl)
  have XC_NoPackets : XCl0 K mg "NoPackets" (He.ga K "NoPackets") := xcl0B_ok X G (c.fact 36 (f := (fun K => (He.Fa.glo "NoPackets").ok K)) rfl) (c.fact 37 (f := (xcl0B "NoPackets")) rfl)
  obtain ⟨b_X_NoRules, XC_NoRules, XK_NoRules⟩ := xclF_of (P := P) (cn := "NoRules") (f := "index") (p := "index") X G c (c.fact 38 (f := (fun K => (He.Fa.glo "NoRules").ok K)) rfl) (by rw [hfile]; exact (c.fact 39 (f := (xclFB "NoRules" "index" fileA)) rfl)) (He.free_ok X G (c.fact 19 (f := (fun K => (He.Fa.free "super").ok K)) rfl)) 13 (d := dd_X_NoRules) rfl rfl htop iS_NoRules ⟨fun _ => rfl, fun _ => rfl, fun _ => rfl⟩ ⟨_, rfl, rfl⟩ (fun _ _ _ _ _ _ _ _ _ => rfl) (fun _ _ _ _ _ _ _ _ _ => rfl)
  obtain ⟨b_X_NoZone, XC_NoZone, XK_NoZone⟩ := xclF_of (P := P) (cn := "NoZone") (f := "name") (p := "name") X G c (c.fact 40 (f := (fun K => (He.Fa.glo "NoZone").ok K)) rfl) (by rw [hfile]; exact (c.fact 41 (f := (xclFB "NoZone" "name" fileA)) rfl)) (He.free_ok X G (c.fact 19 (f := (fun K => (He.Fa.free "super").ok K)) rfl)) 14 (d := dd_X_NoZone) rfl rfl htop iS_NoZone ⟨fun _ => rfl, fun _ => rfl, fun _ => rfl⟩ ⟨_, rfl, rfl⟩ (fun _ _ _ _ _ _ _ _ _ => rfl) (fun _ _ _ _ _ _ _ _ _ => rfl)
  have XC_NothingLeft : XCl0 K mg "NothingLeft" (He.ga K "NothingLeft") := xcl0B_ok X G (c.fact 42 (f := (fun K => (He.Fa.glo "NothingLeft").ok K)) rfl) (c.fact 43 (f := (xcl0B "NothingLeft")) rfl)
  obtain ⟨b_X_TooMany, XC_TooMany, XK_TooMany⟩ := xclF_of (P := P) (cn := "TooMany") (f := "most") (p := "most") X G c (c.fact 44 (f := (fun K => (He.Fa.glo "TooMany").ok K)) rfl) (by rw [hfile]; exact (c.fact 45 (f := (xclFB "TooMany" "most" fileA)) rfl)) (He.free_ok X G (c.fact 19 (f := (fun K => (He.Fa.free "super").ok K)) rfl)) 15 (d := dd_X_TooMany) rfl rfl htop iS_TooMany ⟨fun _ => rfl, fun _ => rfl, fun _ => rfl⟩ ⟨_, rfl, rfl⟩ (fun _ _ _ _ _ _ _ _ _ => rfl) (fun _ _ _ _ _ _ _ _ _ => rfl)
  have XF_index := xfAll_ok (all := exA) (okc := okx_index) (fun _ => rfl) (fun c hc => by have hc := List.contains_iff_mem.mp hc; exact List.contains_iff_mem.mpr ((by decide +kernel : ∀ x ∈ (["NoBlocks", "NoMove", "NoRules", "NoOperation"] : List Str), x ∈ exA) c hc)) X G (c.fact 20 (f := gloAll exA) rfl) (c.fact 46 (f := (xfAll ["NoBlocks", "NoMove", "NoRules", "NoOperation"] "index")) rfl)
  have XF_line := xfAll_ok (all := exA) (okc := okx_line) (fun _ => rfl) (fun c hc => by have hc := List.contains_iff_mem.mp hc; exact List.contains_iff_mem.mpr ((by decide +kernel : ∀ x ∈ (["InvalidText"] : List Str), x ∈ exA) c hc)) X G (c.fact 20 (f := gloAll exA) rfl) (c.fact 47 (f := (xfAll ["InvalidText"] "line")) rfl)
  have XF_most := xfAll_ok (all := exA) (okc := okx_most) (fun _ => rfl) (fun c hc => by have hc := List.contains_iff_mem.mp hc; exact List.contains_iff_mem.mpr ((by decide +kernel : ∀ x ∈ (["TooMany"] : List Str), x ∈ exA) c hc)) X G (c.fact 20 (f := gloAll exA) rfl) (c.fact 48 (f := (xfAll ["TooMany"] "most")) rfl)
  have XF_name := xfAll_ok (all := exA) (okc := okx_name) (fun _ => rfl) (fun c hc => by have hc := List.contains_iff_mem.mp hc; exact List.contains_iff_mem.mpr ((by decide +kernel : ∀ x ∈ (["NoZone", "NoGate"] : List Str), x ∈ exA) c hc)) X G (c.fact 20 (f := gloAll exA) rfl) (c.fact 49 (f := (xfAll ["NoZone", "NoGate"] "name")) rfl)
  have XF_part := xfAll_ok (all := exA) (okc := okx_part) (fun _ => rfl) (fun c hc => by have hc := List.contains_iff_mem.mp hc; exact List.contains_iff_mem.mpr ((by decide +kernel : ∀ x ∈ (["NoNet"] : List Str), x ∈ exA) c hc)) X G (c.fact 20 (f := gloAll exA) rfl) (c.fact 50 (f := (xfAll ["NoNet"] "part")) rfl)
  have XI_InvalidText : XIs K mg (.ref (He.ga K "InvalidText")) tb_InvalidText := xisB_ok X G (c.fact 20 (f := gloAll exA) rfl) (c.fact 21 (f := excAll exA) rfl) (c.fact 51 (f := (xisB exA ["InvalidText"] (fun K => .ref (He.ga K "InvalidText")))) rfl)
  have XM_InvalidText : mg "InvalidText" = some (.ref (He.ga K "InvalidText")) := He.glo_ok X G (c.fact 24 (f := (fun K => (He.Fa.glo "InvalidText").ok K)) rfl)
  have XI_NoBlocks : XIs K mg (.ref (He.ga K "NoBlocks")) tb_NoBlocks := xisB_ok X G (c.fact 20 (f := gloAll exA) rfl) (c.fact 21 (f := excAll exA) rfl) (c.fact 52 (f := (xisB exA ["NoBlocks"] (fun K => .ref (He.ga K "NoBlocks")))) rfl)
  have XM_NoBlocks : mg "NoBlocks" = some (.ref (He.ga K "NoBlocks")) := He.glo_ok X G (c.fact 26 (f := (fun K => (He.Fa.glo "NoBlocks").ok K)) rfl)
  have XI_NoGate : XIs K mg (.ref (He.ga K "NoGate")) tb_NoGate := xisB_ok X G (c.fact 20 (f := gloAll exA) rfl) (c.fact 21 (f := excAll exA) rfl) (c.fact 53 (f := (xisB exA ["NoGate"] (fun K => .ref (He.ga K "NoGate")))) rfl)
  have XM_NoGate : mg "NoGate" = some (.ref (He.ga K "NoGate")) := He.glo_ok X G (c.fact 28 (f := (fun K => (He.Fa.glo "NoGate").ok K)) rfl)
  have XI_NoMove : XIs K mg (.ref (He.ga K "NoMove")) tb_NoMove := xisB_ok X G (c.fact 20 (f := gloAll exA) rfl) (c.fact 21 (f := excAll exA) rfl) (c.fact 54 (f := (xisB exA ["NoMove"] (fun K => .ref (He.ga K "NoMove")))) rfl)
  have XM_NoMove : mg "NoMove" = some (.ref (He.ga K "NoMove")) := He.glo_ok X G (c.fact 30 (f := (fun K => (He.Fa.glo "NoMove").ok K)) rfl)
  have XI_NoNet : XIs K mg (.ref (He.ga K "NoNet")) tb_NoNet := xisB_ok X G (c.fact 20 (f := gloAll exA) rfl) (c.fact 21 (f := excAll exA) rfl) (c.fact 55 (f := (xisB exA ["NoNet"] (fun K => .ref (He.ga K "NoNet")))) rfl)
  have XM_NoNet : mg "NoNet" = some (.ref (He.ga K "NoNet")) := He.glo_ok X G (c.fact 32 (f := (fun K => (He.Fa.glo "NoNet").ok K)) rfl)
  have XI_NoOperation : XIs K mg (.ref (He.ga K "NoOperation")) tb_NoOperation := xisB_ok X G (c.fact 20 (f := gloAll exA) rfl) (c.fact 21 (f := excAll exA) rfl) (c.fact 56 (f := (xisB exA ["NoOperation"] (fun K => .ref (He.ga K "NoOperation")))) rfl)
  have XM_NoOperation : mg "NoOperation" = some (.ref (He.ga K "NoOperation")) := He.glo_ok X G (c.fact 34 (f := (fun K => (He.Fa.glo "NoOperation").ok K)) rfl)
  have XI_NoPackets : XIs K mg (.ref (He.ga K "NoPackets")) tb_NoPackets := xisB_ok X G (c.fact 20 (f := gloAll exA) rfl) (c.fact 21 (f := excAll exA) rfl) (c.fact 57 (f := (xisB exA ["NoPackets"] (fun K => .ref (He.ga K "NoPackets")))) rfl)
  have XM_NoPackets : mg "NoPackets" = some (.ref (He.ga K "NoPackets")) := He.glo_ok X G (c.fact 36 (f := (fun K => (He.Fa.glo "NoPackets").ok K)) rfl)
  have XI_NoRules : XIs K mg (.ref (He.ga K "NoRules")) tb_NoRules := xisB_ok X G (c.fact 20 (f := gloAll exA) rfl) (c.fact 21 (f := excAll exA) rfl) (c.fact 58 (f := (xisB exA ["NoRules"] (fun K => .ref (He.ga K "NoRules")))) rfl)
  have XM_NoRules : mg "NoRules" = some (.ref (He.ga K "NoRules")) := He.glo_ok X G (c.fact 38 (f := (fun K => (He.Fa.glo "NoRules").ok K)) rfl)
  have XI_NoZone : XIs K mg (.ref (He.ga K "NoZone")) tb_NoZone := xisB_ok X G (c.fact 20 (f := gloAll exA) rfl) (c.fact 21 (f := excAll exA) rfl) (c.fact 59 (f := (xisB exA ["NoZone"] (fun K => .ref (He.ga K "NoZone")))) rfl)
  have XM_NoZone : mg "NoZone" = some (.ref (He.ga K "NoZone")) := He.glo_ok X G (c.fact 40 (f := (fun K => (He.Fa.glo "NoZone").ok K)) rfl)
  have XI_NothingLeft : XIs K mg (.ref (He.ga K "NothingLeft")) tb_NothingLeft := xisB_ok X G (c.fact 20 (f := gloAll exA) rfl) (c.fact 21 (f := excAll exA) rfl) (c.fact 60 (f := (xisB exA ["NothingLeft"] (fun K => .ref (He.ga K "NothingLeft")))) rfl)
  have XM_NothingLeft : mg "NothingLeft" = some (.ref (He.ga K "NothingLeft")) := He.glo_ok X G (c.fact 42 (f := (fun K => (He.Fa.glo "NothingLeft").ok K)) rfl)
  have XI_TooMany : XIs K mg (.ref (He.ga K "TooMany")) tb_TooMany := xisB_ok X G (c.fact 20 (f := gloAll exA) rfl) (c.fact 21 (f := excAll exA) rfl) (c.fact 61 (f := (xisB exA ["TooMany"] (fun K => .ref (He.ga K "TooMany")))) rfl)
  have XM_TooMany : mg "TooMany" = some (.ref (He.ga K "TooMany")) := He.glo_ok X G (c.fact 44 (f := (fun K => (He.Fa.glo "TooMany").ok K)) rfl)
  have XI_ValueError : XIs K mg (.type "ValueError") tb_ValueError := xisB_ok X G (c.fact 20 (f := gloAll exA) rfl) (c.fact 21 (f := excAll exA) rfl) (c.fact 62 (f := (xisB exA exA (fun _ => .type "ValueError"))) rfl)
  have b__law_begin : Binds K d__law_begin ["_law_script"] [] := FunD.bindsN F__law_begin fun _ _ _ _ _ _ us hl => match us, hl with | [_], _ => rfl
  have b__law_take : Binds K d__law_take ["_law_draw", "_law_size"] [] := FunD.bindsN F__law_take fun _ _ _ _ _ _ us hl => match us, hl with | [_, _], _ => rfl
  have b__law_caught : Binds K d__law_caught ["_law_work"] [] := FunD.bindsN F__law_caught fun _ _ _ _ _ _ us hl => match us, hl with | [_], _ => rfl
  have b__law_pick : Binds K d__law_pick ["_law_draw", "_law_some"] [] := FunD.bindsN F__law_pick fun _ _ _ _ _ _ us hl => match us, hl with | [_, _], _ => rfl
  have b__law_raised : Binds K d__law_raised ["_law_word", "_law_worth"] [] := FunD.bindsN F__law_raised fun _ _ _ _ _ _ us hl => match us, hl with | [_, _], _ => rfl
  have b__law_field : Binds K d__law_field ["_law_error"] [] := FunD.bindsN F__law_field fun _ _ _ _ _ _ us hl => match us, hl with | [_], _ => rfl
  have b_law := FunD.bindsA (ps := ["_law_script"]) F_law fun _ _ _ _ _ _ us hl => match us, hl with | [_], _ => rfl
  have e := hfa.symm.trans (He.glo_ok X G (c.fact 18 (f := (fun K => (He.Fa.glo "law").ok K)) rfl))
  cases e
  refine ⟨d_law, fun s v => b_law s [v] rfl, fun base _ _ hTB => ?_⟩
  have CT__law_caught : CatAt K mg "_law_caught" "_law_work" s__law_caught _ d__law_caught := ⟨⟨_, _, F__law_caught⟩, He.glo_ok X G (c.fact 14 (f := (fun K => (He.Fa.glo "_law_caught").ok K)) rfl), F__law_caught.kp, b__law_caught⟩
  have G__law_begin : DfAt P w K mg base "_law_begin" _ d__law_begin ["_law_script"] 1 fs__law_begin := dfAt X G (c.fact 12 (f := (fun K => (He.Fa.glo "_law_begin").ok K)) rfl) F__law_begin.kp b__law_begin (ok__law_begin (P := P) (w := w) (base := base) (He.free_ok X G (c.fact 1 (f := (fun K => (He.Fa.free "abs").ok K)) rfl)) (He.free_ok X G (c.fact 7 (f := (fun K => (He.Fa.free "list").ok K)) rfl)) F__law_begin)
  have G__law_take : DfAt P w K mg base "_law_take" _ d__law_take ["_law_draw", "_law_size"] 1 fs__law_take := dfAt X G (c.fact 13 (f := (fun K => (He.Fa.glo "_law_take").ok K)) rfl) F__law_take.kp b__law_take (ok__law_take (P := P) (w := w) (base := base) (He.free_ok X G (c.fact 4 (f := (fun K => (He.Fa.free "int").ok K)) rfl)) (He.free_ok X G (c.fact 2 (f := (fun K => (He.Fa.free "divmod").ok K)) rfl)) F__law_take)
  have G__law_field : DfAt P w K mg base "_law_field" _ d__law_field ["_law_error"] 1 fs__law_field := dfAt X G (c.fact 17 (f := (fun K => (He.Fa.glo "_law_field").ok K)) rfl) F__law_field.kp b__law_field (ok__law_field (P := P) (w := w) (base := base) T XF_index XF_line XF_most XF_name XF_part XI_InvalidText XM_InvalidText XI_NoBlocks XM_NoBlocks XI_NoGate XM_NoGate XI_NoMove XM_NoMove XI_NoNet XM_NoNet XI_NoOperation XM_NoOperation XI_NoPackets XM_NoPackets XI_NoRules XM_NoRules XI_NoZone XM_NoZone XI_NothingLeft XM_NothingLeft XI_TooMany XM_TooMany XI_ValueError F__law_field)
  have G__law_pick : DfAt P w K mg base "_law_pick" _ d__law_pick ["_law_draw", "_law_some"] 2 fs__law_pick := dfAt X G (c.fact 15 (f := (fun K => (He.Fa.glo "_law_pick").ok K)) rfl) F__law_pick.kp b__law_pick (ok__law_pick (P := P) (w := w) (base := base) T G__law_take F__law_pick)
  have G__law_raised : DfG P w K mg base "_law_raised" _ d__law_raised ["_law_word", "_law_worth"] 3 fs__law_raised := ⟨ok__law_raised (P := P) (w := w) (base := base) T XC_InvalidText XK_InvalidText XC_NoBlocks XK_NoBlocks XC_NoGate XK_NoGate XC_NoMove XK_NoMove XC_NoNet XK_NoNet XC_NoOperation XK_NoOperation XC_NoPackets XC_NoRules XK_NoRules XC_NoZone XK_NoZone XC_NothingLeft XC_TooMany XK_TooMany F__law_raised, He.glo_ok X G (c.fact 16 (f := (fun K => (He.Fa.glo "_law_raised").ok K)) rfl), F__law_raised.kp, b__law_raised⟩
  exact ok_law (P := P) (w := w) (base := base) T G__law_begin G__law_field G__law_pick G__law_raised G__law_take CT__law_caught GE_GateError (FunD.code_of (p := ("law", none)) F_law) (hTB _ (by simp [tfA])) (by rw [hT]; simp) (fun p hp e => by rw [hT] at hp; simp at hp; first | rw [hp] | (rcases hp with hp | hp <;> simp [hp])) F_law
end PL
open PySem PySem.W PySem.Calls PyProof.Rows
theorem PySem.Challenge.cw_wardgates_k01_errors_by_class_holds : PySem.Challenge.rw_wardgates_k01_errors_by_class.Holds := by
  w_on; o_law
  refine HandSHeadRun.head_any (r := OpenLaw.row PySem.Challenge.rw_wardgates_k01_errors_by_class) (q := view (OpenLaw.row PySem.Challenge.rw_wardgates_k01_errors_by_class).prog [20]) (H := PL.hk) (ob := PL.obA) (M := 20000) (loose := PL.namesA) (d := HandSHeadRun.topDef (OpenLaw.row PySem.Challenge.rw_wardgates_k01_errors_by_class).prog 20) (kwd := []) PL.obA_eq
    (by kernel_rfl) (fun s => by kernel_rfl) PL.run (by kernel_rfl) (by kernel_rfl) (by kernel_rfl) (by rfl) (by first | assumption | decide +kernel) (by decide +kernel) ⟨rfl, rfl, rfl, rfl, rfl, by decide +kernel⟩ ?hw ?hc
  case hw => w_witness2
  case hc =>
    refine PL.walk_ofG (l := PySem.Challenge.rw_wardgates_k01_errors_by_class) (n := 63) (k := 6) (x := "_law_script") rfl (by decide) (by kernel_rfl) ⟨rfl, by decide, by decide⟩ ?F
    intro w mg fa h Y G hmg0
    obtain ⟨K, KX, c⟩ := Y
    have hmg : mg ("law" : PySem.Str) = some (.ref fa) := by
      have e : (HandSHeadRun.topDef (OpenLaw.row PySem.Challenge.rw_wardgates_k01_errors_by_class).prog 20).name = ("law" : PySem.Str) := by kernel_rfl
      rw [← e]
      exact hmg0
    letI : PL.HasT := ⟨[((He.cT K ("law", none)).2, (("law" : Str) ++ ".<locals>." ++ "<lambda>"))]⟩
    obtain ⟨fd, hb, hF⟩ := PL.facts (P := (PySem.Challenge.rw_wardgates_k01_errors_by_class).prog) (w := w) KX G hmg c rfl (by kernel_rfl) (by kernel_rfl)
    exact ⟨inferInstance, K, KX, PL.lawAtGY KX c hb (fun H a ns hl hTb hS => PL.law_sp (fun p hp => by rw [List.mem_singleton.mp hp]; exact LamX.TabS.nil (hTb _ (List.mem_singleton.mpr rfl))) hl hS fun Q Ep h => ⟨ns, rfl, hl, h⟩) hF⟩
