import PyProof.Rows.All
import Wide.All
import OpenK.AllK
import Wide.FinOn
import KE.KStateDown
import Lean
import HandS.ForMost
import HandS.ForExc
import HandS.More
import HandS.Defaults
import HandS.IsInst
import HandS.ExcCtx
import HandS.HotCalls
import HandS.ExcIs
import HandS.CallLocal
import HandS.Zip
import HandS.Walk
import HandS.SetFor
import HandS.Sort
import HandS.SortInts
import HandS.Flow
import HandS.TupAny
import HandS.TupMul
import HandS.Conv
import HandS.StrMore
import HandS.Deep
import HandS.Style
import HandS.Head0
import HandS.Head1
import HandS.Head2
import HandS.HeadEnd
import HandS.HeadHook1
import HandS.HeadHook2
import HandS.HeadHook3
import HandS.HeadHook4
import HandS.HeadWalk
import KE.GoesEnum
import KE.DataMinMax
import KE.SortData
import KE.KeyNested
import KE.KDictDisplayH
import KE.KRevSl
import HandS.ExcInit
import PySem.Challenge.RW_standins_k18_whole_algebra
set_option Elab.async false
set_option linter.all false
set_option maxRecDepth 100000
set_option maxHeartbeats 4000000
/-! The pure layer: data without a heap, and what an expression or a statement tells of it. -/
namespace Pu
open PySem PySem.Spec PyProof.Rows L2
abbrev St := L2.St

/-- an exception: its class by name, its own word -/
structure Xc where
  cls : Str
  arg : Option PyData
inductive R (α : Type) where
  | ok (a : α)
  | ex (x : Xc)
  | no
def R.bind {α β : Type} : R α → (α → R β) → R β
  | .ok a, f => f a
  | .ex x, _ => .ex x
  | .no, _ => .no
@[simp] theorem R.bind_ok {α β : Type} (a : α) (f : α → R β) : R.bind (.ok a) f = f a := rfl
@[simp] theorem R.bind_ex {α β : Type} (x : Xc) (f : α → R β) : R.bind (.ex x) f = .ex x := rfl
@[simp] theorem R.bind_no {α β : Type} (f : α → R β) : R.bind .no f = .no := rfl

def keyD : Key → PyData
  | .inl i => .int i
  | .inr x => .str x
/-- a text that the machine can hold -/
def TxtOk (x : Str) : Prop := PyData.canLay0 (.str x) = true ∧ x.length ≤ 1000000
/-- a list, a tuple, read off O or in the written part -/
def WrT (K : PySem.W.Frag) (a : Addr) (xs : List V) : Prop := ∃ (o : Obj) (its : Array Value) (n : Nat), K.lookup a = some o ∧ o.cls = .type "tuple" ∧ o.data = .seq its n ∧ its.size ≤ sizeLine ∧ Vals xs its.toList
def QL (O : Addr → Prop) (H : Hp) (a : Addr) (xs : List V) : Prop := Rd H a (.lst xs) ∧ ¬ O a
def QT (K : PySem.W.Frag) (O : Addr → Prop) (H : Hp) (a : Addr) (xs : List V) : Prop := H a = some (.tup xs) ∨ (WrT K a xs ∧ ∃ (z : Str) (zs : List Str), xs = (z :: zs).map V.str)
theorem QL.sq {K : PySem.W.Frag} {O : Addr → Prop} {H : Hp} {a : Addr} {xs : List V} (h : QL O H a xs) : SqL K H a xs := .inl h.1
theorem QT.sq {K : PySem.W.Frag} {O : Addr → Prop} {H : Hp} {a : Addr} {xs : List V} (h : QT K O H a xs) : SqT K H a xs := by
  rcases h with h | h
  · exact .inl (.inl h)
  · exact .inr h.1
/-! ### what is remembered by an object, hidden from outside -/
/-- what is remembered: of one book and its calls, of a key. Given def by def: where no Sharer is about, on is False -/
class MemoSpec where
  on : Prop
  K : PySem.W.Frag
  bk : PyData
  cs : PyData
  rel : PyData → PyData → PyData → PyData → Prop
variable [MemoSpec]
def isExt : HO → Bool
  | .ext _ => true
  | _ => false
/-- the dict at a has just these entries, its keys tuples of whole numbers and of such tuples -/
def memoP (a : Addr) (xs : List (NestedKey × Addr × Value)) : Heap → Prop := fun h => ∃ o es ep, h.get? a = some o ∧ o.ExactDict ∧ o.data = .dict es ep ∧ (∀ w : World, es.toList = xs.map fun x => (⟨NestedKey.hash w x.1, .ref x.2.1, x.2.2⟩ : DictEntry)) ∧ (xs.map (·.1)).Nodup ∧ (a == sysModules) = false
mutual
/-- whole numbers, tuples of such -/
inductive IK (K : PySem.W.Frag) (H : Hp) : V → NestedKey → Prop
  | int (i : Int) : IK K H (.int i) (.num i)
  | tup {a : Addr} {xs : List V} {ks : List NestedKey} : SqT K H a xs → IKs K H xs ks → IK K H (.ref a) (.tup ks)
inductive IKs (K : PySem.W.Frag) (H : Hp) : List V → List NestedKey → Prop
  | nil : IKs K H [] []
  | cons {v : V} {vs : List V} {d : NestedKey} {ds : List NestedKey} : IK K H v d → IKs K H vs ds → IKs K H (v :: vs) (d :: ds)
end
def cntB : NestedKey → Bool
  | .num c => decide (0 ≤ c) && decide (c ≤ 5)
  | _ => false
/-- a place, and how many calls each wish has had -/
def keyB : NestedKey → Bool
  | .tup [.num p, .tup ns] => decide (0 ≤ p) && (decide (p ≤ 20) && (decide (ns.length ≤ 4) && ns.all cntB))
  | _ => false
def MemoAt (K : PySem.W.Frag) (H : Hp) (a : Addr) (bk cs : PyData) : Prop := (MemoSpec.on ∧ K = MemoSpec.K ∧ bk = MemoSpec.bk ∧ cs = MemoSpec.cs) ∧ ∃ xs : List (NestedKey × Addr × Value), H a = some (.ext (memoP a xs)) ∧ (xs.map (·.1)).Nodup ∧
  ∀ x ∈ xs, IK K H (.ref x.2.1) x.1 ∧ x.1.depth ≤ 8 ∧ keyB x.1 = true ∧ ∃ b : Bool, x.2.2 = .bool b ∧ MemoSpec.rel bk cs x.1.data (.bool b)
mutual
theorem IK.keep {K : PySem.W.Frag} {H H' : Hp} (h : ∀ a xs, Rd H a (.tup xs) → Rd H' a (.tup xs)) : ∀ (k : NestedKey) (v : V), IK K H v k → IK K H' v k
  | .none, _, q => by cases q
  | .num i, _, q => by cases q; exact .int i
  | .text x, _, q => by cases q
  | .tup ks, _, q => by
    cases q with
    | tup s t =>
      refine .tup ?_ (IKs.keep h ks _ t)
      rcases s with s | s
      · exact .inl (h _ _ s)
      · exact .inr s
theorem IKs.keep {K : PySem.W.Frag} {H H' : Hp} (h : ∀ a xs, Rd H a (.tup xs) → Rd H' a (.tup xs)) : ∀ (ks : List NestedKey) (vs : List V), IKs K H vs ks → IKs K H' vs ks
  | [], _, q => by cases q; exact .nil
  | k :: ks, _, q => by cases q with | cons a b => exact .cons (IK.keep h k _ a) (IKs.keep h ks _ b)
end
theorem MemoAt.keep {K : PySem.W.Frag} {H H' : Hp} {a : Addr} {bk cs : PyData} (h : ∀ a xs, Rd H a (.tup xs) → Rd H' a (.tup xs)) (e : H' a = H a) (m : MemoAt K H a bk cs) : MemoAt K H' a bk cs := by
  obtain ⟨on, xs, h1, h2, h3⟩ := m
  exact ⟨on, xs, by rw [e]; exact h1, h2, fun x hx => ⟨IK.keep h _ _ (h3 x hx).1, (h3 x hx).2⟩⟩
/-- what stood stands: but what is remembered may have become more -/
structure Same (H H' : Hp) : Prop where
  keep : ∀ b u, H b = some u → isExt u = false → H' b = some u
  dom : ∀ b u, H b = some u → ∃ u', H' b = some u'
  memo : ∀ K a bk cs, MemoAt K H a bk cs → MemoAt K H' a bk cs
theorem Same.of {H H' : Hp} (s : L2.Same H H') : Same H H' :=
  ⟨fun b u h _ => s b u h, fun b u h => ⟨u, s b u h⟩, fun K a bk cs m => m.keep (fun a xs r => by
    rcases r with r | ⟨o, r⟩
    · exact .inl (s _ _ r)
    · exact .inr ⟨o, s _ _ r⟩) (by obtain ⟨_, xs, h1, _⟩ := m; rw [h1]; exact s _ _ h1)⟩
theorem Same.refl (H : Hp) : Same H H := ⟨fun _ _ h _ => h, fun _ u h => ⟨u, h⟩, fun _ _ _ _ h => h⟩
theorem Same.trans {H H1 H2 : Hp} (a : Same H H1) (b : Same H1 H2) : Same H H2 :=
  ⟨fun c o h n => b.keep c o (a.keep c o h n) n, fun c o h => let ⟨u, e⟩ := a.dom c o h; b.dom c u e, fun K x bk cs m => b.memo K x bk cs (a.memo K x bk cs m)⟩
theorem Same.free {H H' : Hp} (e : Same H H') {l : Addr} (h : H' l = Option.none) : H l = Option.none := by
  cases q : H l with
  | none => rfl
  | some o =>
    obtain ⟨u, e1⟩ := e.dom l o q
    rw [e1] at h
    cases h
/-- the class Sharer is under none of these -/
def clsNames : List String := ["int", "bool", "str", "tuple", "list", "dict"]
structure ClsNot (K : PySem.W.Frag) : Prop where
  cl : Cls K (He.ga K "Sharer")
  ha : PySem.W.findIn K (.ref (He.ga K "Sharer")) "__class__" = some (some (.builtin "object.__class__"))
  hn : PySem.W.specialIn K (.builtin "object.__class__") "__get__" = some (some (.builtin "getset_descriptor.__get__"))
  htk : PySem.W.takesIn K (.builtin "object.__class__") = some true
  hm : PySem.W.mroIn K (He.ga K "Sharer") (.type "object") = some true
  no : ∀ T ∈ clsNames, PySem.W.kitOne K (.ref (He.ga K "Sharer")) (.type T) = some false
/-- a Sharer of this book and these calls, as data -/
def shD (bk cs : PyData) : PyData := .dict [(.none, .tuple [bk, cs])]
mutual
/-- the value v, in the heap H, without what stands at O, is the data d -/
inductive DO (K : PySem.W.Frag) (O : Addr → Prop) (H : Hp) : V → PyData → Prop
  | non : DO K O H .non .none
  | bl (b : Bool) : DO K O H (.bl b) (.bool b)
  | int (i : Int) : DO K O H (.int i) (.int i)
  | str (x : Str) (h : TxtOk x) : DO K O H (.str x) (.str x)
  | lst {a : Addr} {xs : List V} {ds : List PyData} : QL O H a xs → DOs K O H xs ds → ds.length ≤ 1000000 → DO K O H (.ref a) (.list ds)
  | tup {a : Addr} {xs : List V} {ds : List PyData} : QT K O H a xs → DOs K O H xs ds → ds.length ≤ 1000000 → DO K O H (.ref a) (.tuple ds)
  | dct {a : Addr} {kvs : List (Key × V)} {ds : List (PyData × PyData)} : H a = some (.dK kvs) → ¬ O a → DKs K O H kvs ds → DO K O H (.ref a) (.dict ds)
  | dcT {a : Addr} {kvs : List (List Key × V)} {ds : List (PyData × PyData)} : H a = some (.dT kvs) → ¬ O a → DTs K O H kvs ds → DO K O H (.ref a) (.dict ds)
  | shr {p dx a : Addr} {vb vr : V} {bk cs : PyData} : H p = some (.ins (He.ga K "Sharer") dx [("book", vb), ("row", vr), ("known", .ref a)]) → ¬ O p → ClsNot K → DO K O H vb bk → DO K O H vr cs → MemoAt K H a bk cs → DO K O H (.ref p) (.dict [(.none, .tuple [bk, cs])])
inductive DOs (K : PySem.W.Frag) (O : Addr → Prop) (H : Hp) : List V → List PyData → Prop
  | nil : DOs K O H [] []
  | cons {v : V} {vs : List V} {d : PyData} {ds : List PyData} : DO K O H v d → DOs K O H vs ds → DOs K O H (v :: vs) (d :: ds)
inductive DKs (K : PySem.W.Frag) (O : Addr → Prop) (H : Hp) : List (Key × V) → List (PyData × PyData) → Prop
  | nil : DKs K O H [] []
  | cons {k : Key} {v : V} {vs : List (Key × V)} {d : PyData} {ds : List (PyData × PyData)} : DO K O H v d → DKs K O H vs ds → DKs K O H ((k, v) :: vs) ((keyD k, d) :: ds)
inductive DTs (K : PySem.W.Frag) (O : Addr → Prop) (H : Hp) : List (List Key × V) → List (PyData × PyData) → Prop
  | nil : DTs K O H [] []
  | cons {ns : List Int} {v : V} {vs : List (List Key × V)} {d : PyData} {ds : List (PyData × PyData)} : DO K O H v d → DTs K O H vs ds → DTs K O H ((ns.map Sum.inl, v) :: vs) ((.tuple (ns.map .int), d) :: ds)
end

/-- how the owned part and the heap go on: what is not owned stays, what is newly owned is new -/
structure Evo (O : Addr → Prop) (H : Hp) (O' : Addr → Prop) (H' : Hp) : Prop where
  own : ∀ a, O' a → O a ∨ H a = none
  off : ∀ b u, H b = some u → ¬ O b → isExt u = false → H' b = some u
  dom : ∀ b u, H b = some u → ∃ u', H' b = some u'
  memo : ∀ K a bk cs, MemoAt K H a bk cs → MemoAt K H' a bk cs
  tup : ∀ a xs, H a = some (.tup xs) → H' a = some (.tup xs)
theorem Evo.refl (O : Addr → Prop) (H : Hp) : Evo O H O H := ⟨fun _ h => .inl h, fun _ _ h _ _ => h, fun _ u h => ⟨u, h⟩, fun _ _ _ _ h => h, fun _ _ h => h⟩
theorem Evo.trans {O O1 O2 : Addr → Prop} {H H1 H2 : Hp} (a : Evo O H O1 H1) (b : Evo O1 H1 O2 H2) : Evo O H O2 H2 := by
  refine ⟨fun x h => ?_, fun x u h n ne => ?_, fun c o h => let ⟨u, e⟩ := a.dom c o h; b.dom c u e, fun K x bk cs m => b.memo K x bk cs (a.memo K x bk cs m), fun x xs h => b.tup x xs (a.tup x xs h)⟩
  · rcases b.own x h with h | h
    · exact a.own x h
    · by_cases ho : O x
      · exact .inl ho
      · cases e : H x with
        | none => exact .inr rfl
        | some u =>
          obtain ⟨u', e'⟩ := a.dom x u e
          rw [e'] at h; cases h
  · refine b.off x u (a.off x u h n ne) (fun h1 => ?_) ne
    rcases a.own x h1 with h2 | h2
    · exact n h2
    · rw [h] at h2; cases h2
theorem Evo.same {O : Addr → Prop} {H H' : Hp} (s : Same H H') : Evo O H O H' := ⟨fun _ h => .inl h, fun b u h _ ne => s.keep b u h ne, s.dom, s.memo, fun a xs h => s.keep _ _ h rfl⟩
theorem Evo.less {O O' : Addr → Prop} {H : Hp} (s : ∀ a, O' a → O a) : Evo O H O' H := ⟨fun a h => .inl (s a h), fun _ _ h _ _ => h, fun _ u h => ⟨u, h⟩, fun _ _ _ _ h => h, fun _ _ h => h⟩
theorem Evo.not {O O' : Addr → Prop} {H H' : Hp} (e : Evo O H O' H') {a : Addr} {u : HO} (s : H a = some u) (n : ¬ O a) : ¬ O' a := fun h => by
  rcases e.own a h with h | h
  · exact n h
  · rw [s] at h; cases h
theorem QL.evo {O O' : Addr → Prop} {H H' : Hp} (e : Evo O H O' H') {a : Addr} {xs : List V} (h : QL O H a xs) : QL O' H' a xs := by
  rcases h with ⟨h | ⟨o, h⟩, n⟩
  · exact ⟨.inl (e.off _ _ h n rfl), e.not h n⟩
  · exact ⟨.inr ⟨o, e.off _ _ h n rfl⟩, e.not h n⟩
theorem QT.evo {K : PySem.W.Frag} {O O' : Addr → Prop} {H H' : Hp} (e : Evo O H O' H') {a : Addr} {xs : List V} (h : QT K O H a xs) : QT K O' H' a xs := by
  rcases h with h | h
  · exact .inl (e.tup _ _ h)
  · exact .inr h
mutual
theorem DO.evo {K : PySem.W.Frag} {O O' : Addr → Prop} {H H' : Hp} (e : Evo O H O' H') : ∀ (d : PyData) (v : V), DO K O H v d → DO K O' H' v d
  | .none, _, h => by cases h; exact .non
  | .bool b, _, h => by cases h; exact .bl b
  | .int i, _, h => by cases h; exact .int i
  | .str x, _, h => by cases h with | str _ z => exact .str x z
  | .list ds, _, h => by cases h with | lst s q z => exact .lst (s.evo e) (DOs.evo e ds _ q) z
  | .tuple ds, _, h => by cases h with | tup s q z => exact .tup (s.evo e) (DOs.evo e ds _ q) z
  | .dict ds, _, h => by
    cases h with
    | dct s n q => exact .dct (e.off _ _ s n rfl) (e.not s n) (DKs.evo e ds _ q)
    | dcT s n q => exact .dcT (e.off _ _ s n rfl) (e.not s n) (DTs.evo e ds _ q)
    | shr s n c q1 q2 m => exact .shr (e.off _ _ s n rfl) (e.not s n) c (DO.evo e _ _ q1) (DO.evo e _ _ q2) (e.memo _ _ _ _ m)
theorem DOs.evo {K : PySem.W.Frag} {O O' : Addr → Prop} {H H' : Hp} (e : Evo O H O' H') : ∀ (ds : List PyData) (vs : List V), DOs K O H vs ds → DOs K O' H' vs ds
  | [], _, h => by cases h; exact .nil
  | d :: ds, _, h => by cases h with | cons a b => exact .cons (DO.evo e d _ a) (DOs.evo e ds _ b)
theorem DKs.evo {K : PySem.W.Frag} {O O' : Addr → Prop} {H H' : Hp} (e : Evo O H O' H') : ∀ (ds : List (PyData × PyData)) (vs : List (Key × V)), DKs K O H vs ds → DKs K O' H' vs ds
  | [], _, h => by cases h; exact .nil
  | (_, d) :: ds, _, h => by cases h with | cons a b => exact .cons (DO.evo e d _ a) (DKs.evo e ds _ b)
theorem DTs.evo {K : PySem.W.Frag} {O O' : Addr → Prop} {H H' : Hp} (e : Evo O H O' H') : ∀ (ds : List (PyData × PyData)) (vs : List (List Key × V)), DTs K O H vs ds → DTs K O' H' vs ds
  | [], _, h => by cases h; exact .nil
  | (_, d) :: ds, _, h => by cases h with | cons a b => exact .cons (DO.evo e d _ a) (DTs.evo e ds _ b)
end
theorem DO.less {K : PySem.W.Frag} {O O' : Addr → Prop} {H : Hp} {d : PyData} {v : V} (e : ∀ a, O' a → O a) (h : DO K O H v d) : DO K O' H v d := DO.evo (Evo.less e) d v h
theorem DOs.less {K : PySem.W.Frag} {O O' : Addr → Prop} {H : Hp} {d : List PyData} {v : List V} (e : ∀ a, O' a → O a) (h : DOs K O H v d) : DOs K O' H v d := DOs.evo (Evo.less e) d v h
theorem DO.same {K : PySem.W.Frag} {O : Addr → Prop} {H H' : Hp} {d : PyData} {v : V} (h : DO K O H v d) (s : Same H H') : DO K O H' v d := DO.evo (Evo.same s) d v h
theorem DOs.same {K : PySem.W.Frag} {O : Addr → Prop} {H H' : Hp} {d : List PyData} {v : List V} (h : DOs K O H v d) (s : Same H H') : DOs K O H' v d := DOs.evo (Evo.same s) d v h
/-! data without a dict in it -/
mutual
def nodict : PyData → Bool
  | .none | .bool _ | .int _ | .str _ => true
  | .list xs | .tuple xs => nodicts xs
  | .dict _ => false
def nodicts : List PyData → Bool
  | [] => true
  | x :: xs => nodict x && nodicts xs
end
mutual
theorem DO.dp {K : PySem.W.Frag} {O : Addr → Prop} {H : Hp} : ∀ (d : PyData) (v : V), DO K O H v d → nodict d = true → Dp K H v d ∧ d.canLay0 = true
  | .none, _, h, _ => by cases h; exact ⟨.non, rfl⟩
  | .bool b, _, h, _ => by cases h; exact ⟨.bl b, rfl⟩
  | .int i, _, h, _ => by cases h; exact ⟨.int i, rfl⟩
  | .str x, _, h, _ => by cases h with | str _ z => exact ⟨.str x, z.1⟩
  | .list ds, _, h, n => by cases h with | lst s q _ => exact ⟨.lst s.sq (DOs.dp ds _ q n).1, by simpa [PyData.canLay0] using (DOs.dp ds _ q n).2⟩
  | .tuple ds, _, h, n => by cases h with | tup s q _ => exact ⟨.tup s.sq (DOs.dp ds _ q n).1, by simpa [PyData.canLay0] using (DOs.dp ds _ q n).2⟩
  | .dict ds, _, h, n => by cases n
theorem DOs.dp {K : PySem.W.Frag} {O : Addr → Prop} {H : Hp} : ∀ (ds : List PyData) (vs : List V), DOs K O H vs ds → nodicts ds = true → DpAll K H vs ds ∧ PyData.canLayAll0 ds = true
  | [], _, h, _ => by cases h; exact ⟨.nil, rfl⟩
  | d :: ds, _, h, n => by
    have n' : (nodict d && nodicts ds) = true := n
    obtain ⟨n1, n2⟩ := Bool.and_eq_true_iff.mp n'
    cases h with
    | cons a b => exact ⟨.cons (DO.dp d _ a n1).1 (DOs.dp ds _ b n2).1, by simp [PyData.canLayAll0, (DO.dp d _ a n1).2, (DOs.dp ds _ b n2).2]⟩
end
theorem DOs.length {K : PySem.W.Frag} {O : Addr → Prop} {H : Hp} : ∀ {ds : List PyData} {vs : List V}, DOs K O H vs ds → vs.length = ds.length
  | [], _, h => by cases h; rfl
  | d :: ds, _, h => by cases h with | cons a b => simp [DOs.length b]
theorem DOs.get {K : PySem.W.Frag} {O : Addr → Prop} {H : Hp} : ∀ {ds : List PyData} {vs : List V} {i : Nat} {d : PyData}, DOs K O H vs ds → ds[i]? = some d → ∃ v, vs[i]? = some v ∧ DO K O H v d
  | [], _, _, _, h, e => by simp at e
  | d :: ds, _, 0, _, h, e => by
    cases h with
    | cons a b => simp at e; subst e; exact ⟨_, rfl, a⟩
  | d :: ds, _, i + 1, _, h, e => by
    cases h with
    | cons a b =>
      obtain ⟨v, h1, h2⟩ := DOs.get (i := i) b (by simpa using e)
      exact ⟨v, by simpa using h1, h2⟩
theorem DOs.getV {K : PySem.W.Frag} {O : Addr → Prop} {H : Hp} : ∀ {ds : List PyData} {vs : List V} {i : Nat} {v : V}, DOs K O H vs ds → vs[i]? = some v → ∃ d, ds[i]? = some d ∧ DO K O H v d
  | [], _, _, _, h, e => by cases h; simp at e
  | d :: ds, _, 0, _, h, e => by
    cases h with
    | cons a b => simp at e; subst e; exact ⟨_, rfl, a⟩
  | d :: ds, _, i + 1, _, h, e => by
    cases h with
    | cons a b =>
      obtain ⟨v, h1, h2⟩ := DOs.getV (i := i) b (by simpa using e)
      exact ⟨v, by simpa using h1, h2⟩
theorem DOs.append {K : PySem.W.Frag} {O : Addr → Prop} {H : Hp} : ∀ {ds es : List PyData} {vs ws : List V}, DOs K O H vs ds → DOs K O H ws es → DOs K O H (vs ++ ws) (ds ++ es)
  | [], _, _, _, h, q => by cases h; exact q
  | d :: ds, _, _, _, h, q => by cases h with | cons a b => exact .cons a (DOs.append b q)
theorem DOs.take {K : PySem.W.Frag} {O : Addr → Prop} {H : Hp} : ∀ {ds : List PyData} {vs : List V} (n : Nat), DOs K O H vs ds → DOs K O H (vs.take n) (ds.take n)
  | _, _, 0, _ => by simp; exact .nil
  | [], _, n + 1, h => by cases h; exact .nil
  | d :: ds, _, n + 1, h => by cases h with | cons a b => exact .cons a (DOs.take n b)
theorem DOs.drop {K : PySem.W.Frag} {O : Addr → Prop} {H : Hp} : ∀ {ds : List PyData} {vs : List V} (n : Nat), DOs K O H vs ds → DOs K O H (vs.drop n) (ds.drop n)
  | _, _, 0, h => by simpa using h
  | [], _, n + 1, h => by cases h; exact .nil
  | d :: ds, _, n + 1, h => by cases h with | cons a b => simpa using DOs.drop n b

/-! ### slots -/
/-- what else is owned: a dict whose keys are tuples of whole numbers; a stand-in, with its list -/
inductive Kd where
  | dT
  | sd (t : Option Addr)
abbrev sdC (K : PySem.W.Frag) : Addr := He.ga K "Standin"
/-- a slot: a value that is never changed, or one that this slot alone holds -/
inductive Cel where
  | fz (d : PyData)
  | ow (d : PyData)
  | rf (a : Addr)
  | st (k : Kd) (d : PyData)
abbrev Ro := List (Option Cel)
def Ow (G : Addr → Prop) (fp : Nat → List Addr) : Addr → Prop := fun a => G a ∨ ∃ i, a ∈ fp i
/-- an owned object's own content -/
def OwR (K : PySem.W.Frag) (O : Addr → Prop) (H : Hp) (a : Addr) : PyData → Prop
  | .list ds => ∃ xs, H a = some (.lst xs) ∧ DOs K O H xs ds ∧ ds.length ≤ 1000000
  | .dict ds => ∃ kvs, H a = some (.dK kvs) ∧ DKs K O H kvs ds ∧ ds.length ≤ 1000000
  | _ => False
theorem OwR.evo {K : PySem.W.Frag} {O O' : Addr → Prop} {H H' : Hp} (e : Evo O H O' H') {a : Addr} (s : ∀ u, isExt u = false → H a = some u → H' a = some u) : ∀ {d : PyData}, OwR K O H a d → OwR K O' H' a d
  | .list ds, ⟨xs, q1, q2, q3⟩ => ⟨xs, s _ rfl q1, DOs.evo e _ _ q2, q3⟩
  | .dict ds, ⟨xs, q1, q2, q3⟩ => ⟨xs, s _ rfl q1, DKs.evo e _ _ q2, q3⟩
  | .none, h => h
  | .bool _, h => h
  | .int _, h => h
  | .str _, h => h
  | .tuple _, h => h
/-- the stand-in at p: its book, whether it is strict, its counts, its rows -/
def SdR (K : PySem.W.Frag) (O : Addr → Prop) (H : Hp) (as : List Addr) (p : Addr) (d : PyData) : Prop := ∃ (bk st cts : PyData) (rows : List PyData) (dx : Addr) (vb vs vc : V) (r : Addr) (xs : List V), d = .tuple [bk, st, cts, .list rows] ∧
  H p = some (.ins (sdC K) dx [("book", vb), ("strict", vs), ("counts", vc), ("rows", .ref r)]) ∧ r ∈ as ∧ r ≠ p ∧ H r = some (.lst xs) ∧ DO K O H vb bk ∧ DO K O H vs st ∧ DO K O H vc cts ∧ DOs K O H xs rows ∧ rows.length ≤ 1000000
/-- the same of the other kinds -/
def StR (K : PySem.W.Frag) (O : Addr → Prop) (H : Hp) (as : List Addr) (a : Addr) : Kd → PyData → Prop
  | .dT, .dict ds => ∃ kvs, H a = some (.dT kvs) ∧ DTs K O H kvs ds ∧ ds.length ≤ 1000000
  | .sd t, d => (∀ p, t = some p → a = p) ∧ SdR K O H as a d
  | _, _ => False
theorem StR.evo {K : PySem.W.Frag} {O O' : Addr → Prop} {H H' : Hp} (e : Evo O H O' H') {as : List Addr} {a : Addr} (ha : a ∈ as) (s : ∀ b ∈ as, ∀ u, isExt u = false → H b = some u → H' b = some u) : ∀ {k : Kd} {d : PyData}, StR K O H as a k d → StR K O' H' as a k d
  | .dT, .dict ds, ⟨xs, q1, q2, q3⟩ => ⟨xs, s _ ha _ rfl q1, DTs.evo e _ _ q2, q3⟩
  | .sd t, d, ⟨q0, bk, st, cts, rows, dx, vb, vs, vc, r, xs, q1, q2, q3, q4, q5, q6, q7, q8, q9, q10⟩ => ⟨q0, bk, st, cts, rows, dx, vb, vs, vc, r, xs, q1, s a ha _ rfl q2, q3, q4, s r q3 _ rfl q5, DO.evo e _ _ q6, DO.evo e _ _ q7, DO.evo e _ _ q8, DOs.evo e _ _ q9, q10⟩
  | .dT, .list _, h => h
  | .dT, .none, h => h
  | .dT, .bool _, h => h
  | .dT, .int _, h => h
  | .dT, .str _, h => h
  | .dT, .tuple _, h => h
def CelR (K : PySem.W.Frag) (O : Addr → Prop) (H : Hp) (v : V) (as : List Addr) : Cel → Prop
  | .fz d => DO K O H v d
  | .ow d => ∃ a, v = .ref a ∧ a ∈ as ∧ OwR K O H a d
  | .rf a => v = .ref a
  | .st k d => ∃ a, v = .ref a ∧ a ∈ as ∧ StR K O H as a k d
theorem CelR.evo {K : PySem.W.Frag} {O O' : Addr → Prop} {H H' : Hp} (e : Evo O H O' H') {v : V} {as : List Addr} (s : ∀ b ∈ as, ∀ u, isExt u = false → H b = some u → H' b = some u) : ∀ {c : Cel}, CelR K O H v as c → CelR K O' H' v as c
  | .fz d, h => DO.evo e d v h
  | .ow d, ⟨a, e1, e2, e3⟩ => ⟨a, e1, e2, e3.evo e (s a e2)⟩
  | .rf a, h => h
  | .st k d, ⟨a, e1, e2, e3⟩ => ⟨a, e1, e2, e3.evo e e2 s⟩
structure SR (K : PySem.W.Frag) (B : Hp) (G : Addr → Prop) (fp : Nat → List Addr) (σ : St) (H : Hp) (ρ : Ro) : Prop where
  len : σ.length = ρ.length
  same : Same B H
  gt : ∀ a, G a → ∃ o, H a = some o
  fpB : ∀ i a, a ∈ fp i → B a = none
  fpG : ∀ i a, a ∈ fp i → ¬ G a
  fpH : ∀ i a, a ∈ fp i → ∃ o, H a = some o
  dis : ∀ i j a, a ∈ fp i → a ∈ fp j → i = j
  slot : ∀ i c, ρ[i]? = some (some c) → ∃ v, σ[i]? = some (some v) ∧ CelR K (Ow G fp) H v (fp i) c
section
variable {K : PySem.W.Frag} {B : Hp} {G : Addr → Prop} {fp : Nat → List Addr} {σ : St} {H H' : Hp} {ρ : Ro}
theorem SR.mono (S : SR K B G fp σ H ρ) (s : Same H H') : SR K B G fp σ H' ρ := by
  refine ⟨S.len, S.same.trans s, fun a h => let ⟨o, e⟩ := S.gt a h; s.dom _ _ e, S.fpB, S.fpG, fun i a h => let ⟨o, e⟩ := S.fpH i a h; s.dom _ _ e, S.dis, fun i c e => ?_⟩
  obtain ⟨v, h1, h2⟩ := S.slot i c e
  exact ⟨v, h1, CelR.evo (Evo.same s) (fun b _ u ne q => s.keep _ _ q ne) h2⟩
/-- what is owned is tracked -/
theorem SR.trk (S : SR K B G fp σ H ρ) : ∀ a, Ow G fp a → ∃ o, H a = some o := fun a h => by
  rcases h with h | ⟨i, h⟩
  · exact S.gt a h
  · exact S.fpH i a h
theorem SR.new (S : SR K B G fp σ H ρ) {p : Addr} (h : H p = none) : ¬ Ow G fp p := fun z => by
  obtain ⟨o, e⟩ := S.trk p z
  rw [h] at e; cases e
end
theorem same_new {H : Hp} {p : Addr} {o : HO} (h : H p = none) : Same H (upd H p o) := .of fun a u e => by
  rw [upd_ne (ne_of_none e h)]
  exact e
theorem Same.rd {H H' : Hp} {a : Addr} {u : HO} (s : Same H H') (ne : isExt u = false) (r : Rd H a u) : Rd H' a u := by
  rcases r with r | ⟨o, r⟩
  · exact .inl (s.keep _ _ r ne)
  · exact .inr ⟨o, s.keep _ _ r rfl⟩
theorem Evo.put {O : Addr → Prop} {H : Hp} {p : Addr} {o : HO} (hp : H p = none) : Evo O H (fun a => O a ∨ a = p) (upd H p o) :=
  ⟨fun a ha => ha.elim .inl fun e => by subst e; exact .inr hp, fun b u h _ ne => (same_new hp).keep b u h ne, (same_new hp).dom, (same_new hp).memo, fun a xs h => (same_new hp).keep _ _ h rfl⟩
theorem MemoAt.upd {K : PySem.W.Frag} {H : Hp} {a m : Addr} {bk cs : PyData} {u o : HO} (h : H a = some u) (ne : isExt u = false) (nt : ∀ xs, u ≠ .tup xs ∧ ∀ ob, u ≠ .frz ob (.tup xs)) (q : MemoAt K H m bk cs) : MemoAt K (L2.upd H a o) m bk cs := by
  refine q.keep (fun b xs r => ?_) ?_
  · have hb : b ≠ a := by
      intro e
      subst e
      rcases r with r | ⟨ob, r⟩
      · rw [h] at r; exact (nt xs).1 (Option.some.inj r)
      · rw [h] at r; exact (nt xs).2 ob (Option.some.inj r)
    rcases r with r | ⟨ob, r⟩
    · exact .inl (by rw [upd_ne hb]; exact r)
    · exact .inr ⟨ob, by rw [upd_ne hb]; exact r⟩
  · obtain ⟨_, xs, h1, _⟩ := q
    have : m ≠ a := by
      intro e
      subst e
      rw [h] at h1
      cases h1
      cases ne
    rw [upd_ne this]
theorem ntL (acc : List V) : ∀ xs, HO.lst acc ≠ .tup xs ∧ ∀ ob, HO.lst acc ≠ .frz ob (.tup xs) := fun xs => ⟨(fun h => nomatch h), (fun ob h => nomatch h)⟩
theorem ntK (acc : List (Key × V)) : ∀ xs, HO.dK acc ≠ .tup xs ∧ ∀ ob, HO.dK acc ≠ .frz ob (.tup xs) := fun xs => ⟨(fun h => nomatch h), (fun ob h => nomatch h)⟩
theorem dom_upd {H : Hp} {a : Addr} {o : HO} : ∀ b u, H b = some u → ∃ u', L2.upd H a o b = some u' := fun b u h => by
  by_cases e : b = a
  · subst e; exact ⟨o, upd_same⟩
  · exact ⟨u, by rw [upd_ne e]; exact h⟩
theorem tup_upd {H : Hp} {a : Addr} {u o : HO} (h : H a = some u) (nt : ∀ xs, u ≠ .tup xs ∧ ∀ ob, u ≠ .frz ob (.tup xs)) : ∀ b xs, H b = some (.tup xs) → L2.upd H a o b = some (.tup xs) := fun b xs q => by
  have : b ≠ a := fun e => by
    subst e
    rw [h] at q
    exact (nt xs).1 (Option.some.inj q)
  rw [upd_ne this]; exact q
theorem Same.upd {H H4 : Hp} {D : Addr} {u o : HO} (s : Same H H4) (hD : H D = none) (h4 : H4 D = some u) (ne : isExt u = false) (nt : ∀ xs, u ≠ .tup xs ∧ ∀ ob, u ≠ .frz ob (.tup xs)) : Same H (L2.upd H4 D o) :=
  ⟨fun b v h n => by rw [upd_ne (ne_of_none h hD)]; exact s.keep b v h n, fun b v h => let ⟨v', e⟩ := s.dom b v h; dom_upd b v' e, fun K a bk cs m => (s.memo K a bk cs m).upd h4 ne nt⟩
theorem MemoAt.unlaid {K : PySem.W.Frag} {H : Hp} {p m : Addr} {bk cs : PyData} {o : HO} (hp : H p = none) (ne : isExt o = false) (nt : ∀ xs, o ≠ .tup xs ∧ ∀ ob, o ≠ .frz ob (.tup xs)) (q : MemoAt K (L2.upd H p o) m bk cs) : MemoAt K H m bk cs := by
  refine q.keep (fun b xs r => ?_) ?_
  · have hb : b ≠ p := by
      intro e
      subst e
      rcases r with r | ⟨ob, r⟩
      · rw [upd_same] at r; exact (nt xs).1 (Option.some.inj r)
      · rw [upd_same] at r; exact (nt xs).2 ob (Option.some.inj r)
    rcases r with r | ⟨ob, r⟩
    · rw [upd_ne hb] at r; exact .inl r
    · rw [upd_ne hb] at r; exact .inr ⟨ob, r⟩
  · obtain ⟨_, xs, h1, _⟩ := q
    have : m ≠ p := by
      intro e
      subst e
      rw [upd_same] at h1
      cases h1
      cases ne
    rw [upd_ne this]
theorem Evo.chg {O : Addr → Prop} {H : Hp} {a : Addr} {u o : HO} (ha : O a) (h : H a = some u) (ne : isExt u = false) (nt : ∀ xs, u ≠ .tup xs ∧ ∀ ob, u ≠ .frz ob (.tup xs)) : Evo O H O (L2.upd H a o) :=
  ⟨fun _ h => .inl h, fun b v hb n _ => by
    have : b ≠ a := fun z => n (by rw [z]; exact ha)
    rw [upd_ne this]; exact hb, dom_upd, fun K m bk cs q => q.upd h ne nt, tup_upd h nt⟩
end Pu

namespace Pu
open PySem PySem.Spec PyProof.Rows L2
variable [MemoSpec]
theorem lineLe {n : Nat} (h : n ≤ 1000000) : n ≤ sizeLine := by rw [sizeLine_eq]; omega
theorem lineLt {n : Nat} (h : n ≤ 1000000) : n < sizeLine := by rw [sizeLine_eq]; omega

/-! ### what is told of an exception -/
def XR (K : PySem.W.Frag) (mg : Str → Option Value) (O : Addr → Prop) (H : Hp) (x : Xc) (cls : Value) (dd : Option Addr) : Prop :=
  mg x.cls = some cls ∧ match x.arg with
    | none => dd = none
    | some d => ∃ a v, dd = some a ∧ H a = some (.xd [(("word" : Str), v)]) ∧ DO K O H v d
/-! ### the readings -/
/-- what is wanted behind f, with the exceptions' wish -/
def Aft (K : PySem.W.Frag) (mg : Str → Option Value) (W : WX) (O : Addr → Prop) (σ : St) (H : Hp) {α : Type} (P : α → Prop) : R α → Prop
  | .ok d => P d
  | .ex x => ∀ cls dd H', Same H H' → XR K mg O H' x cls dd → W cls dd σ H'
  | .no => False
def tD (K : PySem.W.Frag) (mg : Str → Option Value) (W : WX) (f : Ro → R PyData) : TE := fun σ H Q => ∃ B G fp ρ, SR K B G fp σ H ρ ∧ Aft K mg W (Ow G fp) σ H (fun d => ∀ v H', Same H H' → DO K (Ow G fp) H' v d → Q v H') (f ρ)
def tBD (K : PySem.W.Frag) (mg : Str → Option Value) (W : WX) (f : Ro → R Bool) : TT := fun σ H Q => ∃ B G fp ρ, SR K B G fp σ H ρ ∧ Aft K mg W (Ow G fp) σ H (fun b => ∀ H', Same H H' → Q b H') (f ρ)
def tAD (K : PySem.W.Frag) (mg : Str → Option Value) (W : WX) (f : Ro → R (List PyData)) : TA := fun σ H Q => ∃ B G fp ρ, SR K B G fp σ H ρ ∧ Aft K mg W (Ow G fp) σ H (fun ds => ∀ vs H', Same H H' → DOs K (Ow G fp) H' vs ds → Q vs H') (f ρ)
/-- a new list -/
def tFr (K : PySem.W.Frag) (mg : Str → Option Value) (W : WX) (f : Ro → R (List PyData)) : TE := fun σ H Q => ∃ B G fp ρ, SR K B G fp σ H ρ ∧ Aft K mg W (Ow G fp) σ H (fun ds => ∀ p xs H', H p = none → Same H H' → H' p = some (.lst xs) → DOs K (fun a => Ow G fp a ∨ a = p) H' xs ds → ds.length ≤ 1000000 → Q (.ref p) H') (f ρ)
/-- a list, owned or not -/
def tL (K : PySem.W.Frag) (mg : Str → Option Value) (W : WX) (f : Ro → R (List PyData)) : TE := fun σ H Q => ∃ B G fp ρ, SR K B G fp σ H ρ ∧ Aft K mg W (Ow G fp) σ H (fun ds => ∀ p xs H', Same H H' → Rd H' p (.lst xs) → DOs K (Ow G fp) H' xs ds → ds.length ≤ 1000000 → Q (.ref p) H') (f ρ)
abbrev PD (X : Cx) (W : WX) (e : Expr) (f : Ro → R PyData) : Prop := PE X e (tD X.K X.mg W f)
abbrev PB (X : Cx) (W : WX) (e : Expr) (f : Ro → R Bool) : Prop := PT X e (tBD X.K X.mg W f)
abbrev PAs (X : Cx) (W : WX) (es : List Expr) (f : Ro → R (List PyData)) : Prop := PA X es (tAD X.K X.mg W f)
abbrev PF (X : Cx) (W : WX) (e : Expr) (f : Ro → R (List PyData)) : Prop := PE X e (tFr X.K X.mg W f)
abbrev PL (X : Cx) (W : WX) (e : Expr) (f : Ro → R (List PyData)) : Prop := PE X e (tL X.K X.mg W f)
theorem peW {X : Cx} {e : Expr} {t t' : TE} (h : PE X e t) (i : ∀ σ H Q, t' σ H Q → t σ H Q) : PE X e t' := ⟨fun pins s σ H Q I q => h.run pins s σ H Q I (i σ H Q q)⟩
theorem ptW {X : Cx} {e : Expr} {t t' : TT} (h : PT X e t) (i : ∀ σ H Q, t' σ H Q → t σ H Q) : PT X e t' := ⟨fun pins s σ H Q I q => h.run pins s σ H Q I (i σ H Q q)⟩
theorem paW {X : Cx} {es : List Expr} {t t' : TA} (h : PA X es t) (i : ∀ σ H Q, t' σ H Q → t σ H Q) : PA X es t' := ⟨fun pos pins s σ H Q I q => h.run pos pins s σ H Q I (i σ H Q q)⟩

def R.of {α : Type} : Option α → R α
  | some a => .ok a
  | none => .no
@[simp] theorem R.of_some {α : Type} (a : α) : R.of (some a) = .ok a := rfl
@[simp] theorem R.of_none {α : Type} : R.of (none : Option α) = .no := rfl

/-! ### how readings are put in a row -/
section
variable {K : PySem.W.Frag} {mg : Str → Option Value} {W : WX} {B : Hp} {G : Addr → Prop} {fp : Nat → List Addr} {σ : St} {H : Hp} {ρ : Ro}
theorem Aft.bind {α β : Type} {r : R α} {g : α → R β} {P : α → Prop} {P' : β → Prop} (h : Aft K mg W (Ow G fp) σ H P' (r.bind g)) (k : ∀ a, r = .ok a → Aft K mg W (Ow G fp) σ H P' (g a) → P a) : Aft K mg W (Ow G fp) σ H P r := by
  cases r with
  | ok a => exact k a rfl h
  | ex x => exact h
  | no => exact h
theorem Aft.later {α : Type} {r : R α} {P : α → Prop} {H1 : Hp} {O : Addr → Prop} (s : Same H H1) (h : Aft K mg W O σ H P r) : Aft K mg W O σ H1 P r := by
  cases r with
  | ok a => exact h
  | ex x => exact fun cls dd H' s' q => h cls dd H' (s.trans s') q
  | no => exact h
theorem Aft.imp {α : Type} {r : R α} {P P' : α → Prop} {O : Addr → Prop} (h : Aft K mg W O σ H P r) (k : ∀ a, r = .ok a → P a → P' a) : Aft K mg W O σ H P' r := by
  cases r with
  | ok a => exact k a rfl h
  | ex x => exact h
  | no => exact h
theorem Aft.of_some {α : Type} {o : Option α} {P : α → Prop} {O : Addr → Prop} (h : Aft K mg W O σ H P (R.of o)) : ∃ a, o = some a ∧ P a := by
  cases o with
  | none => exact h.elim
  | some a => exact ⟨a, rfl, h⟩
theorem tD_iff {f : Ro → R PyData} {Q : VK} : tD K mg W f σ H Q ↔ ∃ B G fp ρ, SR K B G fp σ H ρ ∧ Aft K mg W (Ow G fp) σ H (fun d => ∀ v H', Same H H' → DO K (Ow G fp) H' v d → Q v H') (f ρ) := by
  exact Iff.rfl
theorem tBD_iff {f : Ro → R Bool} {Q : Bool → Hp → Prop} : tBD K mg W f σ H Q ↔ ∃ B G fp ρ, SR K B G fp σ H ρ ∧ Aft K mg W (Ow G fp) σ H (fun b => ∀ H', Same H H' → Q b H') (f ρ) := by
  exact Iff.rfl
theorem tAD_iff {f : Ro → R (List PyData)} {Q : List V → Hp → Prop} : tAD K mg W f σ H Q ↔ ∃ B G fp ρ, SR K B G fp σ H ρ ∧ Aft K mg W (Ow G fp) σ H (fun d => ∀ v H', Same H H' → DOs K (Ow G fp) H' v d → Q v H') (f ρ) := by
  exact Iff.rfl
theorem tFr_iff {f : Ro → R (List PyData)} {Q : VK} : tFr K mg W f σ H Q ↔ ∃ B G fp ρ, SR K B G fp σ H ρ ∧ Aft K mg W (Ow G fp) σ H (fun ds => ∀ p xs H', H p = none → Same H H' → H' p = some (.lst xs) → DOs K (fun a => Ow G fp a ∨ a = p) H' xs ds → ds.length ≤ 1000000 → Q (.ref p) H') (f ρ) := by
  exact Iff.rfl
theorem tL_iff {f : Ro → R (List PyData)} {Q : VK} : tL K mg W f σ H Q ↔ ∃ B G fp ρ, SR K B G fp σ H ρ ∧ Aft K mg W (Ow G fp) σ H (fun ds => ∀ p xs H', Same H H' → Rd H' p (.lst xs) → DOs K (Ow G fp) H' xs ds → ds.length ≤ 1000000 → Q (.ref p) H') (f ρ) := by
  exact Iff.rfl
end
/-! ### names, constants -/
def dVar (i : Nat) : Ro → R PyData := fun ρ => match ρ[i]? with
  | some (some (.fz d)) => .ok d
  | _ => .no
def dC (d : PyData) : Ro → R PyData := fun _ => .ok d
/-- an owned list -/
def dOwL (i : Nat) : Ro → R (List PyData) := fun ρ => match ρ[i]? with
  | some (some (.ow (.list ds))) => .ok ds
  | _ => .no
section
variable {X : Cx} {W : WX}
theorem pd_var {i : Nat} {x : Str} {pos : Pos} (h : PE X (.Name x pos) (tVar i)) : PD X W (.Name x pos) (dVar i) := peW h fun σ H Q => by
  rintro ⟨B, G, fp, ρ, S, h⟩
  unfold dVar at h
  cases e : ρ[i]? with
  | none => rw [e] at h; exact h.elim
  | some o =>
    rw [e] at h
    cases o with
    | none => exact h.elim
    | some c =>
      cases c with
      | ow d => exact h.elim
      | rf d => exact h.elim
      | st k d => exact h.elim
      | fz d =>
        obtain ⟨v, h1, h2⟩ := S.slot i _ e
        exact ⟨v, h1, h v H (Same.refl H) h2⟩
theorem pl_own {i : Nat} {x : Str} {pos : Pos} (h : PE X (.Name x pos) (tVar i)) : PL X W (.Name x pos) (dOwL i) := peW h fun σ H Q => by
  rintro ⟨B, G, fp, ρ, S, h⟩
  unfold dOwL at h
  cases e : ρ[i]? with
  | none => rw [e] at h; exact h.elim
  | some o =>
    rw [e] at h
    cases o with
    | none => exact h.elim
    | some c =>
      cases c with
      | fz d => exact h.elim
      | rf d => exact h.elim
      | st k d => exact h.elim
      | ow d =>
        cases d with
        | list ds =>
          obtain ⟨v, h1, a, e1, e2, xs, q1, q2, q3⟩ := S.slot i _ e
          subst e1
          exact ⟨_, h1, h a xs H (Same.refl H) (Rd.of q1) q2 q3⟩
        | none => exact h.elim
        | bool b => exact h.elim
        | int b => exact h.elim
        | str b => exact h.elim
        | tuple b => exact h.elim
        | dict b => exact h.elim
/-- a value without an address -/
def flatD : V → PyData → Prop
  | .non, d => d = .none
  | .bl b, d => d = .bool b
  | .int i, d => d = .int i
  | .str x, d => d = .str x ∧ TxtOk x
  | _, _ => False
theorem flatD.DO {v : V} {d : PyData} (h : flatD v d) (K : PySem.W.Frag) (O : Addr → Prop) (H : Hp) : DO K O H v d := by
  cases v with
  | non => cases h; exact .non
  | bl b => cases h; exact .bl b
  | int b => cases h; exact .int b
  | str b => obtain ⟨h1, h2⟩ := h; subst h1; exact .str b h2
  | byt b => exact h.elim
  | flt b => exact h.elim
  | ref b => exact h.elim
  | ty b => exact h.elim
theorem DOs.flat {K : PySem.W.Frag} {O : Addr → Prop} {H : Hp} : ∀ {vs : List V} {ds : List PyData}, Paired flatD vs ds → DOs K O H vs ds
  | _, _, .nil => .nil
  | _, _, .cons f r => .cons (f.DO _ _ _) (DOs.flat r)
theorem pd_c {e : Expr} {v : V} {d : PyData} (h : PE X e (tC v)) (f : flatD v d) : PD X W e (dC d) := peW h fun σ H Q => by
  rintro ⟨B, G, fp, ρ, S, h⟩
  exact h v H (Same.refl H) (f.DO _ _ _)
theorem pd_int {i j pos} : PD X W (.Constant (.int i) j pos) (dC (.int i)) := pd_c pe_int rfl
theorem pd_bl {i j pos} : PD X W (.Constant (.bool i) j pos) (dC (.bool i)) := pd_c pe_bl rfl
theorem pd_non {j pos} : PD X W (.Constant .none j pos) (dC .none) := pd_c pe_non rfl
theorem txtOk_lit {x : Str} (h : (PyData.canLay0 (.str x) && decide (x.length ≤ 1000000)) = true) : TxtOk x := by
  obtain ⟨a, b⟩ := Bool.and_eq_true_iff.mp h
  exact ⟨a, of_decide_eq_true b⟩
theorem pd_str {x : Str} {j pos} (h : (PyData.canLay0 (.str x) && decide (x.length ≤ 1000000)) = true := by decide +kernel) : PD X W (.Constant (.str x) j pos) (dC (.str x)) := pd_c pe_str ⟨rfl, txtOk_lit h⟩
/-- a module's int, text -/
theorem pd_gint {x : Str} {i : Int} {pos : Pos} (hg : Gl X x) (hm : ∃ t, X.mg x = some (.int i t)) (hd : (x == ("__debug__" : Str)) = false := by decide) : PD X W (.Name x pos) (dC (.int i)) := by
  obtain ⟨t, hm⟩ := hm
  exact pd_c (pe_glob (v := .int i) hg hm ⟨t, rfl⟩ hd) rfl
theorem pd_gstr {x z : Str} {pos : Pos} (hg : Gl X x) (hm : ∃ t, X.mg x = some (.str z t)) (h : (PyData.canLay0 (.str z) && decide (z.length ≤ 1000000)) = true := by decide +kernel) (hd : (x == ("__debug__" : Str)) = false := by decide) : PD X W (.Name x pos) (dC (.str z)) := by
  obtain ⟨t, hm⟩ := hm
  exact pd_c (pe_glob (v := .str z) hg hm ⟨t, rfl⟩ hd) ⟨rfl, txtOk_lit h⟩
/-- a module's tuple of flat things -/
theorem pd_gtup {x : Str} {a : Addr} {vs : List V} {ds : List PyData} {pos : Pos} (hg : Gl X x) (hm : X.mg x = some (.ref a)) (hs : ∀ H, SqT X.K H a vs) (hf : Paired flatD vs ds) (hl : ds.length ≤ 1000000) (hw : ∃ (z : Str) (zs : List Str), vs = (z :: zs).map V.str) (hd : (x == ("__debug__" : Str)) = false := by decide) :
    PD X W (.Name x pos) (dC (.tuple ds)) := peW (pe_glob (v := .ref a) hg hm rfl hd) fun σ H Q => by
  rintro ⟨B, G, fp, ρ, S, h⟩
  refine h (.ref a) H (Same.refl H) (.tup (.inr ⟨?_, hw⟩) (DOs.flat hf) hl)
  rcases hs (fun _ => none) with (q | ⟨o, q⟩) | q
  · cases q
  · cases q
  · exact q
end
/-! ### operators, by data -/
def BinOk (K : PySem.W.Frag) (r : R2) (g : PyData → PyData → Option PyData) : Prop := ∀ (O : Addr → Prop) (H : Hp) (x y : V) (d e z : PyData) (Q : VK), (∀ a, O a → ∃ o, H a = some o) → DO K O H x d → DO K O H y e → g d e = some z →
  (∀ v H', Same H H' → DO K O H' v z → Q v H') → r x y H Q
def dBin (g : PyData → PyData → Option PyData) (f f' : Ro → R PyData) : Ro → R PyData := fun ρ => (f ρ).bind fun x => (f' ρ).bind fun y => R.of (g x y)
def UnOk (K : PySem.W.Frag) (r : V → Hp → VK → Prop) (g : PyData → Option PyData) : Prop := ∀ (O : Addr → Prop) (H : Hp) (x : V) (d z : PyData) (Q : VK), (∀ a, O a → ∃ o, H a = some o) → DO K O H x d → g d = some z →
  (∀ v H', Same H H' → DO K O H' v z → Q v H') → r x H Q
def dUn (g : PyData → Option PyData) (f : Ro → R PyData) : Ro → R PyData := fun ρ => (f ρ).bind fun x => R.of (g x)
def CallOk (K : PySem.W.Frag) (r : List V → Hp → VK → Prop) (g : List PyData → Option PyData) : Prop := ∀ (O : Addr → Prop) (H : Hp) (xs : List V) (ds : List PyData) (z : PyData) (Q : VK), (∀ a, O a → ∃ o, H a = some o) → DOs K O H xs ds → g ds = some z →
  (∀ v H', Same H H' → DO K O H' v z → Q v H') → r xs H Q
def dCall (g : List PyData → Option PyData) (f : Ro → R (List PyData)) : Ro → R PyData := fun ρ => (f ρ).bind fun x => R.of (g x)
def dNil : Ro → R (List PyData) := fun _ => .ok []
def dCons (f : Ro → R PyData) (g : Ro → R (List PyData)) : Ro → R (List PyData) := fun ρ => (f ρ).bind fun x => (g ρ).bind fun xs => .ok (x :: xs)
def asB : PyData → R Bool
  | .bool b => .ok b
  | _ => .no
def dTest (f : Ro → R PyData) : Ro → R Bool := fun ρ => (f ρ).bind asB
section
variable {K : PySem.W.Frag} {mg : Str → Option Value} {W : WX} {σ : St} {H : Hp} {f f' : Ro → R PyData} {Q : VK}
theorem tD_bin {r : R2} {g : PyData → PyData → Option PyData} (hr : BinOk K r g) (h : tD K mg W (dBin g f f') σ H Q) : tOp r (tD K mg W f) (tD K mg W f') σ H Q := by
  obtain ⟨B, G, fp, ρ, S, h⟩ := tD_iff.mp h
  refine tD_iff.mpr ⟨B, G, fp, ρ, S, Aft.bind h fun d e1 h => fun v H1 s1 d1 => ?_⟩
  refine tD_iff.mpr ⟨B, G, fp, ρ, S.mono s1, Aft.later s1 (Aft.bind h fun d' e2 h => fun v' H2 s2 d2 => ?_)⟩
  obtain ⟨z, e3, q⟩ := h.of_some
  exact hr _ H2 v v' d d' z Q ((S.mono s1).mono s2).trk (d1.same s2) d2 e3 fun u H3 s3 d3 => q u H3 ((s1.trans s2).trans s3) d3
theorem tD_un {r : V → Hp → VK → Prop} {g : PyData → Option PyData} (hr : UnOk K r g) (h : tD K mg W (dUn g f) σ H Q) : tUn r (tD K mg W f) σ H Q := by
  obtain ⟨B, G, fp, ρ, S, h⟩ := tD_iff.mp h
  refine tD_iff.mpr ⟨B, G, fp, ρ, S, Aft.bind h fun d e1 h => fun v H1 s1 d1 => ?_⟩
  obtain ⟨z, e3, q⟩ := h.of_some
  exact hr _ H1 v d z Q (S.mono s1).trk d1 e3 fun u H3 s3 d3 => q u H3 (s1.trans s3) d3
theorem tD_call {r : List V → Hp → VK → Prop} {g : List PyData → Option PyData} {fa : Ro → R (List PyData)} (hr : CallOk K r g) (h : tD K mg W (dCall g fa) σ H Q) : tCB r (tAD K mg W fa) σ H Q := by
  obtain ⟨B, G, fp, ρ, S, h⟩ := tD_iff.mp h
  refine tAD_iff.mpr ⟨B, G, fp, ρ, S, Aft.bind h fun d e1 h => fun v H1 s1 d1 => ?_⟩
  obtain ⟨z, e3, q⟩ := h.of_some
  exact hr _ H1 v d z Q (S.mono s1).trk d1 e3 fun u H3 s3 d3 => q u H3 (s1.trans s3) d3
theorem tAD_nil {Q : List V → Hp → Prop} (h : tAD K mg W dNil σ H Q) : tNil σ H Q := by
  obtain ⟨B, G, fp, ρ, S, h⟩ := tAD_iff.mp h
  exact h [] H (Same.refl H) .nil
theorem tAD_cons {fa : Ro → R (List PyData)} {Q : List V → Hp → Prop} (h : tAD K mg W (dCons f fa) σ H Q) : tCons (tD K mg W f) (tAD K mg W fa) σ H Q := by
  obtain ⟨B, G, fp, ρ, S, h⟩ := tAD_iff.mp h
  refine tD_iff.mpr ⟨B, G, fp, ρ, S, Aft.bind h fun d e1 h => fun v H1 s1 d1 => ?_⟩
  refine tAD_iff.mpr ⟨B, G, fp, ρ, S.mono s1, Aft.later s1 (Aft.bind h fun d' e2 h => fun v' H2 s2 d2 => ?_)⟩
  exact h (v :: v') H2 (s1.trans s2) (.cons (d1.same s2) d2)
theorem tBD_test {Q : Bool → Hp → Prop} (h : tBD K mg W (dTest f) σ H Q) : tB (tD K mg W f) σ H Q := by
  obtain ⟨B, G, fp, ρ, S, h⟩ := tBD_iff.mp h
  refine tD_iff.mpr ⟨B, G, fp, ρ, S, Aft.bind h fun d e1 h => fun v H1 s1 d1 => ?_⟩
  cases d with
  | bool b => cases d1; exact ⟨b, rfl, h H1 s1⟩
  | none => exact h.elim
  | int b => exact h.elim
  | str b => exact h.elim
  | tuple b => exact h.elim
  | list b => exact h.elim
  | dict b => exact h.elim
end
section
variable {X : Cx} {W : WX} {a b c : Expr} {f f' f'' : Ro → R PyData} {pos : Pos}
theorem pd_op {op : Operator} {r : R2} {g : PyData → PyData → Option PyData} (ho : OpR X (binaryOp op) r) (hr : BinOk X.K r g) (ha : PD X W a f) (hb : PD X W b f') : PD X W (.BinOp a op b pos) (dBin g f f') := peW (pe_op ho ha hb) fun _ _ _ => tD_bin hr
theorem pd_un {op : UnaryOp} {r : V → Hp → VK → Prop} {g : PyData → Option PyData} (ho : UnR X (unaryOp op) r) (hr : UnOk X.K r g) (ha : PD X W a f) : PD X W (.UnaryOp op a pos) (dUn g f) := peW (pe_un ho ha) fun _ _ _ => tD_un hr
theorem pd_cmp {op : CmpOp} {r : R2} {g : PyData → PyData → Option PyData} (ho : OpR X (compareOp op) r) (hr : BinOk X.K r g) (ha : PD X W a f) (hb : PD X W b f') (hm : behindInMarks op b = false := by first | exact nomark _ | rfl) : PD X W (.Compare a [op] [b] pos) (dBin g f f') :=
  peW (pe_cmpR ho ha hb hm) fun _ _ _ => tD_bin hr
theorem pb_cmp {op : CmpOp} {r : R2} {g : PyData → PyData → Option PyData} (ho : OpR X (compareOp op) r) (hr : BinOk X.K r g) (ha : PD X W a f) (hb : PD X W b f') (hm : behindInMarks op b = false := by first | exact nomark _ | rfl) : PB X W (.Compare a [op] [b] pos) (dTest (dBin g f f')) := by
  refine ptW (pt_cmpR ho ha hb hm) fun σ H Q h => ?_
  obtain ⟨B, G, fp, ρ, S, h⟩ := tBD_iff.mp h
  refine tD_bin hr (tD_iff.mpr ⟨B, G, fp, ρ, S, Aft.bind h fun d e1 h => fun v H1 s1 d1 => ?_⟩)
  cases d with
  | bool b => cases d1; exact ⟨b, rfl, h H1 s1⟩
  | none => exact h.elim
  | int b => exact h.elim
  | str b => exact h.elim
  | tuple b => exact h.elim
  | list b => exact h.elim
  | dict b => exact h.elim
theorem pa_nilD : PAs X W [] dNil := paW pa_nil fun _ _ _ => tAD_nil
theorem pa_consD {es : List Expr} {fa : Ro → R (List PyData)} (ha : PD X W a f) (hr : PAs X W es fa) (hs : starEach (a :: es) X.env = (false, eval a X.env) :: starEach es X.env := by rfl) : PAs X W (a :: es) (dCons f fa) := paW (pa_cons ha hr hs) fun _ _ _ => tAD_cons
/-- an expression as a test -/
theorem pb_val (h : PD X W a f) (he : ∀ whole, isTrue a X.env whole = (do let v ← whole; standAt a.pos; holding [v] (truthy v)) := by intro _; rfl) : PB X W a (dTest f) := ptW (pt_val h he) fun _ _ _ => tBD_test
theorem pd_callB {id : String} {x : Str} {e : Expr} {es : List Expr} {p : Pos} {r : List V → Hp → VK → Prop} {g : List PyData → Option PyData} {fa : Ro → R (List PyData)} (hc : CallR X (.builtin id) r) (hr : CallOk X.K r g) (hg : Gl X x) (hm : X.mg x = none) (hv : bootBuiltins x = some (.builtin id)) (ha : PAs X W (e :: es) fa)
    (hn : x ≠ "__name__" := by decide) (hdb : (x == ("__debug__" : Str)) = false := by decide)
    (he : starEach (e :: es) X.env = (false, eval e X.env) :: starEach es X.env := by rfl) (hpl : (backTo pos (starEach es X.env)).any (·.1) = false := by rfl) : PD X W (.Call (.Name x p) (e :: es) [] pos) (dCall g fa) :=
  peW (pe_callB hc hg hm hv ha hn hdb he hpl) fun _ _ _ => tD_call hr
theorem pd_callTy {T : String} {x : Str} {e : Expr} {es : List Expr} {p : Pos} {r : List V → Hp → VK → Prop} {g : List PyData → Option PyData} {fa : Ro → R (List PyData)} (hc : CallR X (.type T) r) (hr : CallOk X.K r g) (hg : Gl X x) (hm : X.mg x = none) (hv : bootBuiltins x = some (.type T)) (ha : PAs X W (e :: es) fa)
    (hn : x ≠ "__name__" := by decide) (hdb : (x == ("__debug__" : Str)) = false := by decide)
    (he : starEach (e :: es) X.env = (false, eval e X.env) :: starEach es X.env := by rfl) (hpl : (backTo pos (starEach es X.env)).any (·.1) = false := by rfl) : PD X W (.Call (.Name x p) (e :: es) [] pos) (dCall g fa) :=
  peW (pe_callTy hc hg hm hv ha hn hdb he hpl) fun _ _ _ => tD_call hr
end
end Pu

namespace Pu
open PySem PySem.Spec PyProof.Rows L2
variable [MemoSpec]
/-! ### ints -/
def iiD (g : Int → Int → PyData) : PyData → PyData → Option PyData
  | .int i, .int j => some (g i j)
  | _, _ => none
/-- ints, under a condition -/
def iicD (c : Int → Int → Bool) (g : Int → Int → PyData) : PyData → PyData → Option PyData
  | .int i, .int j => if c i j then some (g i j) else none
  | _, _ => none
theorem iiD_inv {g : Int → Int → PyData} {d e z : PyData} (h : iiD g d e = some z) : ∃ i j, d = .int i ∧ e = .int j ∧ z = g i j := by
  cases d <;> cases e <;> simp [iiD] at h
  exact ⟨_, _, rfl, rfl, h.symm⟩
theorem iicD_inv {c : Int → Int → Bool} {g : Int → Int → PyData} {d e z : PyData} (h : iicD c g d e = some z) : ∃ i j, d = .int i ∧ e = .int j ∧ c i j = true ∧ z = g i j := by
  cases d <;> cases e <;> simp [iicD] at h
  exact ⟨_, _, rfl, rfl, h.1, h.2.symm⟩
theorem bo_int {K : PySem.W.Frag} {g : Int → Int → V} {g' : Int → Int → PyData} (hf : ∀ i j, flatD (g i j) (g' i j)) : BinOk K (rI0 g) (iiD g') := by
  intro O H x y d e z Q ht hx hy h q
  obtain ⟨i, j, rfl, rfl, rfl⟩ := iiD_inv h
  cases hx; cases hy
  exact ⟨i, j, rfl, rfl, q _ H (Same.refl H) ((hf i j).DO _ _ _)⟩
theorem bo_intC {K : PySem.W.Frag} {C : Int → Int → Prop} {c : Int → Int → Bool} {g : Int → Int → V} {g' : Int → Int → PyData} (hc : ∀ i j, c i j = true → C i j) (hf : ∀ i j, flatD (g i j) (g' i j)) : BinOk K (rI C g) (iicD c g') := by
  intro O H x y d e z Q ht hx hy h q
  obtain ⟨i, j, rfl, rfl, h1, rfl⟩ := iicD_inv h
  cases hx; cases hy
  exact ⟨i, j, rfl, rfl, hc i j h1, q _ H (Same.refl H) ((hf i j).DO _ _ _)⟩
theorem BinOk.or {K : PySem.W.Frag} {r r' : R2} {g g' g'' : PyData → PyData → Option PyData} (h : BinOk K r g) (h' : BinOk K r' g') (hg : ∀ d e z, g'' d e = some z → g d e = some z ∨ g' d e = some z) : BinOk K (fun x y H Q => r x y H Q ∨ r' x y H Q) g'' := by
  intro O H x y d e z Q ht hx hy hz q
  rcases hg d e z hz with k | k
  · exact .inl (h O H x y d e z Q ht hx hy k q)
  · exact .inr (h' O H x y d e z Q ht hx hy k q)
def cMul (i j : Int) : Bool := (decide (-(2 ^ 64) < i) && decide (i < 2 ^ 64)) || (decide (-(2 ^ 64) < j) && decide (j < 2 ^ 64))
def subD : PyData → PyData → Option PyData := iiD fun i j => .int (i - j)
def mulD : PyData → PyData → Option PyData := iicD cMul fun i j => .int (i * j)
def modD : PyData → PyData → Option PyData := iicD (fun _ j => decide (0 < j)) fun i j => .int (i % j)
def fdivD : PyData → PyData → Option PyData := iicD (fun _ j => decide (0 < j) && decide (j < 1073741824)) fun i j => .int (i / j)
def ltD : PyData → PyData → Option PyData := iiD fun i j => .bool (decide (i < j))
def leD : PyData → PyData → Option PyData := iiD fun i j => .bool (decide (i ≤ j))
def gtD : PyData → PyData → Option PyData := iiD fun i j => .bool (decide (j < i))
def geD : PyData → PyData → Option PyData := iiD fun i j => .bool (decide (j ≤ i))
/-- ints, texts, tuples added -/
def addD : PyData → PyData → Option PyData
  | .int i, .int j => some (.int (i + j))
  | .str i, .str j => if i.length + j.length ≤ 1000000 then some (.str (i ++ j)) else none
  | .tuple i, .tuple j => if i.length + j.length ≤ 1000000 then some (.tuple (i ++ j)) else none
  | _, _ => none
def addSD : PyData → PyData → Option PyData
  | .str i, .str j => if i.length + j.length ≤ 1000000 then some (.str (i ++ j)) else none
  | _, _ => none
def addTD : PyData → PyData → Option PyData
  | .tuple i, .tuple j => if i.length + j.length ≤ 1000000 then some (.tuple (i ++ j)) else none
  | _, _ => none
theorem str_app_len (i j : Str) : (i ++ j).length = i.length + j.length := by
  show (i.cps ++ j.cps).size = i.cps.size + j.cps.size
  simp
theorem strOk_app {i j : Str} (h1 : PyData.canLay0 (.str i) = true) (h2 : PyData.canLay0 (.str j) = true) : PyData.canLay0 (.str (i ++ j)) = true := by
  have a1 : i.cps.all (· < 0x110000) = true := h1
  have a2 : j.cps.all (· < 0x110000) = true := h2
  show (i.cps ++ j.cps).all (· < 0x110000) = true
  rw [Array.all_append, a1, a2]; rfl
theorem bo_addS {K : PySem.W.Frag} : BinOk K (fun x y H Q => ∃ i j, x = .str i ∧ y = .str j ∧ i.length + j.length ≤ sizeLine ∧ Q (.str (i ++ j)) H) addSD := by
  intro O H x y d e z Q ht hx hy h q
  cases d <;> cases e <;> simp [addSD] at h
  rename_i i j
  cases hx with
  | str _ hi =>
    cases hy with
    | str _ hj => exact ⟨i, j, rfl, rfl, lineLe h.1, q _ H (Same.refl H) (by rw [← h.2]; exact .str _ ⟨strOk_app hi.1 hj.1, by rw [str_app_len]; exact h.1⟩)⟩
theorem bo_addT {K : PySem.W.Frag} : BinOk K (rCatA K) addTD := by
  intro O H x y d e z Q ht hx hy h q
  cases d <;> cases e <;> simp [addTD] at h
  rename_i ds es
  obtain ⟨hl, rfl⟩ := h
  cases hx with
  | @tup a xs _ s1 q1 l1 =>
    cases hy with
    | @tup b ys _ s2 q2 l2 =>
      have e1 := q1.length
      have e2 := q2.length
      have hz : xs.length + ys.length ≤ sizeLine := by rw [e1, e2]; exact lineLe hl
      refine ⟨a, b, xs, ys, rfl, rfl, s1.sq, s2.sq, hz, fun hn => ?_, fun _ hn => ?_, fun _ _ p hp => ?_⟩
      · subst hn
        have : ds = [] := by cases q1; rfl
        subst this
        exact q _ H (Same.refl H) (.tup s2 q2 l2)
      · subst hn
        have : es = [] := by cases q2; rfl
        subst this
        rw [List.append_nil] at q
        exact q _ H (Same.refl H) (.tup s1 q1 l1)
      · have sm : Same H (upd H p (.tup (xs ++ ys))) := same_new hp
        have np : ¬ O p := fun z => by obtain ⟨o, e⟩ := ht p z; rw [hp] at e; cases e
        exact q _ _ sm (.tup (.inl upd_same) ((q1.append q2).same sm) (by rw [List.length_append]; exact hl))
section
variable {X : Cx}
theorem op_addA : OpR X (binaryOp .Add) (fun x y H Q => rI0 (fun i j => .int (i + j)) x y H Q ∨ ((∃ i j, x = .str i ∧ y = .str j ∧ i.length + j.length ≤ sizeLine ∧ Q (.str (i ++ j)) H) ∨ rCatA X.K x y H Q)) := op_add.or (op_add_str.or op_catA)
end
theorem bo_add {K : PySem.W.Frag} : BinOk K (fun x y H Q => rI0 (fun i j => .int (i + j)) x y H Q ∨ ((∃ i j, x = .str i ∧ y = .str j ∧ i.length + j.length ≤ sizeLine ∧ Q (.str (i ++ j)) H) ∨ rCatA K x y H Q)) addD := by
  refine (bo_int (g := fun i j => V.int (i + j)) (g' := fun i j => PyData.int (i + j)) fun i j => rfl).or (BinOk.or (g'' := fun d e => (addSD d e).or (addTD d e)) bo_addS bo_addT fun d e z h => ?_) fun d e z h => ?_
  · cases k : addSD d e with
    | none => rw [k] at h; exact .inr h
    | some w => rw [k] at h; exact .inl h
  · cases d <;> cases e <;> first
      | exact .inl h
      | exact .inr h
      | (refine .inr ?_
         simp only [addD] at h
         simp only [addSD, addTD]
         split at h <;> simp_all; done)
      | (simp [addD] at h; done)
theorem bo_sub {K : PySem.W.Frag} : BinOk K (rI0 fun i j => .int (i - j)) subD := bo_int fun _ _ => rfl
theorem bo_mul {K : PySem.W.Frag} : BinOk K (rI CMul fun i j => .int (i * j)) mulD := bo_intC (fun i j h => by
  simp [cMul] at h
  unfold CMul
  omega) fun _ _ => rfl
theorem bo_mod {K : PySem.W.Frag} : BinOk K (rI (fun _ j => 0 < j) fun i j => .int (i % j)) modD := bo_intC (fun i j h => of_decide_eq_true h) fun _ _ => rfl
theorem bo_fdiv {K : PySem.W.Frag} : BinOk K (rI CDiv fun i j => .int (i / j)) fdivD := bo_intC (fun i j h => by
  simp at h
  exact h) fun _ _ => rfl
theorem bo_lt {K : PySem.W.Frag} : BinOk K (rI0 fun i j => .bl (decide (i < j))) ltD := bo_int fun _ _ => rfl
theorem bo_le {K : PySem.W.Frag} : BinOk K (rI0 fun i j => .bl (decide (i ≤ j))) leD := bo_int fun _ _ => rfl
theorem bo_gt {K : PySem.W.Frag} : BinOk K (rI0 fun i j => .bl (decide (j < i))) gtD := bo_int fun _ _ => rfl
theorem bo_ge {K : PySem.W.Frag} : BinOk K (rI0 fun i j => .bl (decide (j ≤ i))) geD := bo_int fun _ _ => rfl
/-! ### ==, in, is -/
def okd (d : PyData) : Bool := nodict d && decide (d.depth ≤ 64)
theorem okd_shaped {K : PySem.W.Frag} {O : Addr → Prop} {H : Hp} {d : PyData} {v : V} (h : DO K O H v d) (k : okd d = true) : Dp K H v d ∧ SeqAt.shaped d = true := by
  obtain ⟨k1, k2⟩ := Bool.and_eq_true_iff.mp k
  obtain ⟨a, b⟩ := DO.dp d v h k1
  exact ⟨a, Bool.and_eq_true_iff.mpr ⟨b, k2⟩⟩
def eqD (d e : PyData) : Option PyData := if okd d && okd e then some (.bool (PyData.eqv d e)) else none
def neD (d e : PyData) : Option PyData := if okd d && okd e then some (.bool (!PyData.eqv d e)) else none
theorem bo_eq {K : PySem.W.Frag} : BinOk K (rEqD K) eqD := by
  intro O H x y d e z Q ht hx hy h q
  unfold eqD at h
  split at h
  · rename_i k
    obtain ⟨k1, k2⟩ := Bool.and_eq_true_iff.mp k
    obtain ⟨a1, a2⟩ := okd_shaped hx k1
    obtain ⟨b1, b2⟩ := okd_shaped hy k2
    cases h
    exact ⟨d, e, a1, b1, a2, b2, q _ H (Same.refl H) (.bl _)⟩
  · cases h
theorem bo_ne {K : PySem.W.Frag} : BinOk K (rNeD K) neD := by
  intro O H x y d e z Q ht hx hy h q
  unfold neD at h
  split at h
  · rename_i k
    obtain ⟨k1, k2⟩ := Bool.and_eq_true_iff.mp k
    obtain ⟨a1, a2⟩ := okd_shaped hx k1
    obtain ⟨b1, b2⟩ := okd_shaped hy k2
    cases h
    exact ⟨d, e, a1, b1, a2, b2, q _ H (Same.refl H) (.bl _)⟩
  · cases h
def isNone : PyData → Bool
  | .none => true
  | _ => false
def isND (d e : PyData) : Option PyData := if isNone e then some (.bool (isNone d)) else none
def ntND (d e : PyData) : Option PyData := if isNone e then some (.bool (!isNone d)) else none
theorem isNone_V {K : PySem.W.Frag} {O : Addr → Prop} {H : Hp} {d : PyData} {v : V} (h : DO K O H v d) : decide (v = .non) = isNone d := by
  cases h <;> rfl
theorem bo_isN {K : PySem.W.Frag} : BinOk K (fun x y H Q => y = .non ∧ Q (.bl (decide (x = .non))) H) isND := by
  intro O H x y d e z Q ht hx hy h q
  unfold isND at h
  cases e <;> simp [isNone] at h
  cases hy
  rw [isNone_V hx]
  subst h
  exact ⟨rfl, q _ H (Same.refl H) (.bl _)⟩
theorem bo_ntN {K : PySem.W.Frag} : BinOk K (fun x y H Q => y = .non ∧ Q (.bl (!decide (x = .non))) H) ntND := by
  intro O H x y d e z Q ht hx hy h q
  unfold ntND at h
  cases e <;> simp [isNone] at h
  cases hy
  rw [isNone_V hx]
  subst h
  exact ⟨rfl, q _ H (Same.refl H) (.bl _)⟩
def isBD : PyData → PyData → Option PyData
  | .bool a, .bool b => some (.bool (decide (a = b)))
  | _, _ => none
def ntBD : PyData → PyData → Option PyData
  | .bool a, .bool b => some (.bool (!decide (a = b)))
  | _, _ => none
theorem bo_isB {K : PySem.W.Frag} : BinOk K rIsB isBD := by
  intro O H x y d e z Q ht hx hy h q
  cases d <;> cases e <;> simp [isBD] at h
  subst h
  cases hx; cases hy
  exact ⟨_, _, rfl, rfl, q _ H (Same.refl H) (by simpa using DO.bl _)⟩
theorem bo_ntB {K : PySem.W.Frag} : BinOk K rNotB ntBD := by
  intro O H x y d e z Q ht hx hy h q
  cases d <;> cases e <;> simp [ntBD] at h
  subst h
  cases hx; cases hy
  exact ⟨_, _, rfl, rfl, q _ H (Same.refl H) (by simpa using DO.bl _)⟩
def flatP : PyData → Bool
  | .none | .bool _ | .int _ | .str _ => true
  | _ => false
theorem flatP_V {K : PySem.W.Frag} {O : Addr → Prop} {H : Hp} {d : PyData} {v : V} (h : DO K O H v d) : flatV v = flatP d := by cases h <;> rfl
theorem eqV_P {K : PySem.W.Frag} {O : Addr → Prop} {H : Hp} {d e : PyData} {v w : V} (h : DO K O H v d) (k : DO K O H w e) (f : flatP d = true) (f' : flatP e = true) : eqV v w = PyData.eqv d e := by
  cases h <;> cases k <;> first | rfl | (simp [flatP] at f) | (simp [flatP] at f') | simp [eqV, PyData.eqv]
theorem flatPs_V {K : PySem.W.Frag} {O : Addr → Prop} {H : Hp} : ∀ {ds : List PyData} {vs : List V}, DOs K O H vs ds → vs.all flatV = ds.all flatP
  | [], _, h => by cases h; rfl
  | d :: ds, _, h => by cases h with | cons a b => simp [flatP_V a, flatPs_V b]
theorem inV_P {K : PySem.W.Frag} {O : Addr → Prop} {H : Hp} {x : PyData} {v : V} (hx : DO K O H v x) (fx : flatP x = true) : ∀ {ds : List PyData} {vs : List V}, DOs K O H vs ds → ds.all flatP = true → inV v vs = ds.any fun z => PyData.eqv z x
  | [], _, h, _ => by cases h; rfl
  | d :: ds, _, h, f => by
    cases h with
    | cons a b =>
      rw [List.all_cons, Bool.and_eq_true] at f
      have ih := inV_P hx fx b f.2
      unfold inV at ih ⊢
      rw [List.any_cons, List.any_cons, ih, eqV_P a hx f.1 fx]
/-- one sign in a text -/
def sgnIn (t s : Str) : Option Bool := match t.cps.toList with
  | [c] => some (decide (c ∈ s.cps.toList))
  | _ => none
def inD : PyData → PyData → Option PyData
  | .str t, .str s => (sgnIn t s).map .bool
  | x, .list ds => if okd x && okd (.list ds) then some (.bool (ds.any fun z => PyData.eqv z x)) else none
  | x, .tuple ds => if flatP x && ds.all flatP then some (.bool (ds.any fun z => PyData.eqv z x)) else none
  | _, _ => none
def ninD (d e : PyData) : Option PyData := (inD d e).map fun z => match z with
  | .bool b => .bool (!b)
  | z => z
def rInA (K : PySem.W.Frag) : R2 := fun x y H Q => (∃ (c : Nat) (z : Str), x = .str ⟨#[c]⟩ ∧ y = .str z ∧ Q (.bl (decide (c ∈ z.cps.toList))) H) ∨ (rInD K x y H Q ∨ rIn K false x y H Q)
def rNinA (K : PySem.W.Frag) : R2 := fun x y H Q => (∃ (c : Nat) (z : Str), x = .str ⟨#[c]⟩ ∧ y = .str z ∧ Q (.bl (!decide (c ∈ z.cps.toList))) H) ∨ (rNotInD K x y H Q ∨ rIn K true x y H Q)
theorem sgnIn_inv {t s : Str} {b : Bool} (h : sgnIn t s = some b) : ∃ c, t = ⟨#[c]⟩ ∧ b = decide (c ∈ s.cps.toList) := by
  unfold sgnIn at h
  split at h
  · rename_i c e
    cases h
    refine ⟨c, ?_, rfl⟩
    cases t with
    | mk a =>
      have : a = #[c] := by
        apply Array.ext'
        simpa using e
      rw [this]
  · cases h
theorem inA_of {K : PySem.W.Frag} {O : Addr → Prop} {H : Hp} {x y : V} {d e : PyData} {z : PyData} {Q : VK} (hx : DO K O H x d) (hy : DO K O H y e) (h : inD d e = some z) (q : ∀ b, z = .bool b → Q (.bl b) H) : rInA K x y H Q := by
  cases e with
  | str s =>
    cases d <;> first | (simp [inD] at h; done) | skip
    rename_i t
    obtain ⟨b, h1, rfl⟩ := Option.map_eq_some_iff.mp (show (sgnIn t s).map PyData.bool = some z from h)
    obtain ⟨c, rfl, rfl⟩ := sgnIn_inv h1
    cases hx; cases hy
    exact .inl ⟨c, s, rfl, rfl, q _ rfl⟩
  | list ds =>
    have h' : (if okd d && okd (.list ds) then some (PyData.bool (ds.any fun z => PyData.eqv z d)) else none) = some z := by cases d <;> exact h
    split at h'
    · rename_i k
      obtain ⟨k1, k2⟩ := Bool.and_eq_true_iff.mp k
      obtain ⟨a1, a2⟩ := okd_shaped hx k1
      obtain ⟨b1, b2⟩ := okd_shaped hy k2
      cases h'
      exact .inr (.inl ⟨d, ds, a1, b1, a2, b2, q _ rfl⟩)
    · cases h'
  | tuple ds =>
    have h' : (if flatP d && ds.all flatP then some (PyData.bool (ds.any fun z => PyData.eqv z d)) else none) = some z := by cases d <;> exact h
    split at h'
    · rename_i k
      obtain ⟨k1, k2⟩ := Bool.and_eq_true_iff.mp k
      cases hy with
      | @tup p xs _ s1 q1 l1 =>
        cases h'
        refine .inr (.inr ⟨p, xs, rfl, .inr s1.sq, (flatP_V hx).trans k1, (flatPs_V q1).trans k2, ?_⟩)
        rw [if_neg Bool.false_ne_true, inV_P hx k1 q1 k2]
        exact q _ rfl
    · cases h'
  | none => cases d <;> simp [inD] at h
  | bool b => cases d <;> simp [inD] at h
  | int b => cases d <;> simp [inD] at h
  | dict b => cases d <;> simp [inD] at h
theorem ninA_of {K : PySem.W.Frag} {O : Addr → Prop} {H : Hp} {x y : V} {d e : PyData} {z : PyData} {Q : VK} (hx : DO K O H x d) (hy : DO K O H y e) (h : inD d e = some z) (q : ∀ b, z = .bool b → Q (.bl (!b)) H) : rNinA K x y H Q := by
  cases e with
  | str s =>
    cases d <;> first | (simp [inD] at h; done) | skip
    rename_i t
    obtain ⟨b, h1, rfl⟩ := Option.map_eq_some_iff.mp (show (sgnIn t s).map PyData.bool = some z from h)
    obtain ⟨c, rfl, rfl⟩ := sgnIn_inv h1
    cases hx; cases hy
    exact .inl ⟨c, s, rfl, rfl, q _ rfl⟩
  | list ds =>
    have h' : (if okd d && okd (.list ds) then some (PyData.bool (ds.any fun z => PyData.eqv z d)) else none) = some z := by cases d <;> exact h
    split at h'
    · rename_i k
      obtain ⟨k1, k2⟩ := Bool.and_eq_true_iff.mp k
      obtain ⟨a1, a2⟩ := okd_shaped hx k1
      obtain ⟨b1, b2⟩ := okd_shaped hy k2
      cases h'
      exact .inr (.inl ⟨d, ds, a1, b1, a2, b2, q _ rfl⟩)
    · cases h'
  | tuple ds =>
    have h' : (if flatP d && ds.all flatP then some (PyData.bool (ds.any fun z => PyData.eqv z d)) else none) = some z := by cases d <;> exact h
    split at h'
    · rename_i k
      obtain ⟨k1, k2⟩ := Bool.and_eq_true_iff.mp k
      cases hy with
      | @tup p xs _ s1 q1 l1 =>
        cases h'
        refine .inr (.inr ⟨p, xs, rfl, .inr s1.sq, (flatP_V hx).trans k1, (flatPs_V q1).trans k2, ?_⟩)
        rw [if_pos rfl, inV_P hx k1 q1 k2]
        exact q _ rfl
    · cases h'
  | none => cases d <;> simp [inD] at h
  | bool b => cases d <;> simp [inD] at h
  | int b => cases d <;> simp [inD] at h
  | dict b => cases d <;> simp [inD] at h
theorem inD_bool {d e z : PyData} (h : inD d e = some z) : ∃ b, z = .bool b := by
  cases d <;> cases e <;> simp only [inD] at h <;> first
    | (rw [Option.map_eq_some_iff] at h; obtain ⟨b, _, r⟩ := h; exact ⟨b, r.symm⟩)
    | (split at h
       · cases h; exact ⟨_, rfl⟩
       · cases h)
    | cases h
theorem bo_in {K : PySem.W.Frag} : BinOk K (rInA K) inD := by
  intro O H x y d e z Q ht hx hy h q
  exact inA_of hx hy h fun b e => q _ H (Same.refl H) (by rw [e]; exact .bl b)
theorem bo_nin {K : PySem.W.Frag} : BinOk K (rNinA K) ninD := by
  intro O H x y d e z Q ht hx hy h q
  unfold ninD at h
  cases k : inD d e with
  | none => rw [k] at h; cases h
  | some w =>
    obtain ⟨b, rfl⟩ := inD_bool k
    rw [k] at h
    cases h
    exact ninA_of hx hy k fun b' e => q _ H (Same.refl H) (by cases e; exact .bl _)
section
variable {X : Cx}
theorem op_inA (hu : X.A.units + 65 < cLine) : OpR X (compareOp .In) (rInA X.K) := op_in_sign.or ((op_inD hu).or op_in_seq)
theorem op_ninA (hu : X.A.units + 65 < cLine) : OpR X (compareOp .NotIn) (rNinA X.K) := op_notIn_sign.or ((op_notInD hu).or op_notIn_seq)
end
end Pu

namespace Pu
open PySem PySem.Spec PyProof.Rows L2
variable [MemoSpec]
/-! ### and, or, not, if .. else -/
def dAndV (f g : Ro → R PyData) : Ro → R PyData := fun ρ => (f ρ).bind fun x => (asB x).bind fun b => if b then g ρ else .ok (.bool false)
def dOrV (f g : Ro → R PyData) : Ro → R PyData := fun ρ => (f ρ).bind fun x => (asB x).bind fun b => if b then .ok (.bool true) else g ρ
def dNotV (f : Ro → R PyData) : Ro → R PyData := fun ρ => (f ρ).bind fun x => (asB x).bind fun b => .ok (.bool (!b))
def dAnd (f g : Ro → R Bool) : Ro → R Bool := fun ρ => (f ρ).bind fun b => if b then g ρ else .ok false
def dOr (f g : Ro → R Bool) : Ro → R Bool := fun ρ => (f ρ).bind fun b => if b then .ok true else g ρ
def dNot (f : Ro → R Bool) : Ro → R Bool := fun ρ => (f ρ).bind fun b => .ok (!b)
def dIf (c : Ro → R Bool) (f g : Ro → R PyData) : Ro → R PyData := fun ρ => (c ρ).bind fun b => if b then f ρ else g ρ
def dChain (g g' : PyData → PyData → Option PyData) (f1 f2 f3 : Ro → R PyData) : Ro → R PyData := fun ρ => (f1 ρ).bind fun x => (f2 ρ).bind fun y => (R.of (g x y)).bind fun z => (asB z).bind fun b =>
  if b then (f3 ρ).bind fun w => R.of (g' y w) else .ok (.bool false)
theorem asB_ok {d : PyData} {b : Bool} (h : asB d = .ok b) : d = .bool b := by
  cases d <;> simp [asB] at h
  rw [h]
section
variable {K : PySem.W.Frag} {mg : Str → Option Value} {W : WX} {σ : St} {H : Hp} {f f' f'' : Ro → R PyData} {Q : VK}
theorem tD_and (h : tD K mg W (dAndV f f') σ H Q) : tAndV (tD K mg W f) (tD K mg W f') σ H Q := by
  obtain ⟨B, G, fp, ρ, S, h⟩ := tD_iff.mp h
  refine tD_iff.mpr ⟨B, G, fp, ρ, S, Aft.bind h fun d e1 h => fun v H1 s1 d1 => ?_⟩
  cases e : asB d with
  | no => rw [e] at h; exact h.elim
  | ex x => cases d <;> simp [asB] at e
  | ok b =>
    have ed := asB_ok e
    subst ed
    cases d1
    refine ⟨b, rfl, ?_⟩
    rw [e] at h
    cases b with
    | true =>
      rw [if_pos rfl]
      exact tD_iff.mpr ⟨B, G, fp, ρ, S.mono s1, Aft.later s1 (Aft.imp h fun a _ q v H' s' d' => q v H' (s1.trans s') d')⟩
    | false =>
      rw [if_neg Bool.false_ne_true]
      exact h _ H1 s1 (.bl false)
theorem tD_or (h : tD K mg W (dOrV f f') σ H Q) : tOrV (tD K mg W f) (tD K mg W f') σ H Q := by
  obtain ⟨B, G, fp, ρ, S, h⟩ := tD_iff.mp h
  refine tD_iff.mpr ⟨B, G, fp, ρ, S, Aft.bind h fun d e1 h => fun v H1 s1 d1 => ?_⟩
  cases e : asB d with
  | no => rw [e] at h; exact h.elim
  | ex x => cases d <;> simp [asB] at e
  | ok b =>
    have ed := asB_ok e
    subst ed
    cases d1
    refine ⟨b, rfl, ?_⟩
    rw [e] at h
    cases b with
    | false =>
      rw [if_neg Bool.false_ne_true]
      exact tD_iff.mpr ⟨B, G, fp, ρ, S.mono s1, Aft.later s1 (Aft.imp h fun a _ q v H' s' d' => q v H' (s1.trans s') d')⟩
    | true =>
      rw [if_pos rfl]
      exact h _ H1 s1 (.bl true)
theorem tD_not (h : tD K mg W (dNotV f) σ H Q) : tNotV (tD K mg W f) σ H Q := by
  obtain ⟨B, G, fp, ρ, S, h⟩ := tD_iff.mp h
  refine tD_iff.mpr ⟨B, G, fp, ρ, S, Aft.bind h fun d e1 h => fun v H1 s1 d1 => ?_⟩
  cases e : asB d with
  | no => rw [e] at h; exact h.elim
  | ex x => cases d <;> simp [asB] at e
  | ok b =>
    have ed := asB_ok e
    subst ed
    cases d1
    rw [e] at h
    exact ⟨b, rfl, h _ H1 s1 (.bl _)⟩
variable {t u : Ro → R Bool} {QB : Bool → Hp → Prop}
theorem tBD_and (h : tBD K mg W (dAnd t u) σ H QB) : tAnd (tBD K mg W t) (tBD K mg W u) σ H QB := by
  obtain ⟨B, G, fp, ρ, S, h⟩ := tBD_iff.mp h
  refine tBD_iff.mpr ⟨B, G, fp, ρ, S, Aft.bind h fun b e1 h => fun H1 s1 => ?_⟩
  cases b with
  | true =>
    rw [if_pos rfl]
    exact tBD_iff.mpr ⟨B, G, fp, ρ, S.mono s1, Aft.later s1 (Aft.imp h fun a _ q H' s' => q H' (s1.trans s'))⟩
  | false =>
    rw [if_neg Bool.false_ne_true]
    exact h H1 s1
theorem tBD_or (h : tBD K mg W (dOr t u) σ H QB) : tOr (tBD K mg W t) (tBD K mg W u) σ H QB := by
  obtain ⟨B, G, fp, ρ, S, h⟩ := tBD_iff.mp h
  refine tBD_iff.mpr ⟨B, G, fp, ρ, S, Aft.bind h fun b e1 h => fun H1 s1 => ?_⟩
  cases b with
  | false =>
    rw [if_neg Bool.false_ne_true]
    exact tBD_iff.mpr ⟨B, G, fp, ρ, S.mono s1, Aft.later s1 (Aft.imp h fun a _ q H' s' => q H' (s1.trans s'))⟩
  | true =>
    rw [if_pos rfl]
    exact h H1 s1
theorem tBD_not (h : tBD K mg W (dNot t) σ H QB) : tNot (tBD K mg W t) σ H QB := by
  obtain ⟨B, G, fp, ρ, S, h⟩ := tBD_iff.mp h
  exact tBD_iff.mpr ⟨B, G, fp, ρ, S, Aft.bind h fun b e1 h => fun H1 s1 => h H1 s1⟩
theorem tD_if (h : tD K mg W (dIf t f f') σ H Q) : tIf (tBD K mg W t) (tD K mg W f) (tD K mg W f') σ H Q := by
  obtain ⟨B, G, fp, ρ, S, h⟩ := tD_iff.mp h
  refine tBD_iff.mpr ⟨B, G, fp, ρ, S, Aft.bind h fun b e1 h => fun H1 s1 => ?_⟩
  cases b with
  | true =>
    rw [if_pos rfl]
    exact tD_iff.mpr ⟨B, G, fp, ρ, S.mono s1, Aft.later s1 (Aft.imp h fun a _ q v H' s' d' => q v H' (s1.trans s') d')⟩
  | false =>
    rw [if_neg Bool.false_ne_true]
    exact tD_iff.mpr ⟨B, G, fp, ρ, S.mono s1, Aft.later s1 (Aft.imp h fun a _ q v H' s' d' => q v H' (s1.trans s') d')⟩
theorem tD_chain {r r' : R2} {g g' : PyData → PyData → Option PyData} (hr : BinOk K r g) (hr' : BinOk K r' g') (h : tD K mg W (dChain g g' f f' f'') σ H Q) : tChain r r' (tD K mg W f) (tD K mg W f') (tD K mg W f'') σ H Q := by
  obtain ⟨B, G, fp, ρ, S, h⟩ := tD_iff.mp h
  refine tD_iff.mpr ⟨B, G, fp, ρ, S, Aft.bind h fun d e1 h => fun v H1 s1 d1 => ?_⟩
  refine tD_iff.mpr ⟨B, G, fp, ρ, S.mono s1, Aft.later s1 (Aft.bind h fun d' e2 h => fun v' H2 s2 d2 => ?_)⟩
  cases e3 : g d d' with
  | none => rw [e3] at h; exact h.elim
  | some z =>
    rw [e3] at h
    refine hr _ H2 v v' d d' z _ ((S.mono s1).mono s2).trk (d1.same s2) d2 e3 fun u H3 s3 d3 => ?_
    cases e : asB z with
    | no => rw [R.of_some, R.bind_ok, e] at h; exact h.elim
    | ex x => cases z <;> simp [asB] at e
    | ok b =>
      have ed := asB_ok e
      subst ed
      cases d3
      refine ⟨b, rfl, ?_⟩
      rw [R.of_some, R.bind_ok, e] at h
      cases b with
      | true =>
        rw [if_pos rfl]
        refine tD_iff.mpr ⟨B, G, fp, ρ, ((S.mono s1).mono s2).mono s3, Aft.later ((s1.trans s2).trans s3) (Aft.bind h fun d4 e4 h => fun v4 H4 s4 d4' => ?_)⟩
        obtain ⟨z', e5, q⟩ := h.of_some
        exact hr' _ H4 v' v4 d' d4 z' Q ((((S.mono s1).mono s2).mono s3).mono s4).trk ((d2.same s3).same s4) d4' e5 fun u H5 s5 d5 => q u H5 ((((s1.trans s2).trans s3).trans s4).trans s5) d5
      | false =>
        rw [if_neg Bool.false_ne_true]
        exact h _ H3 ((s1.trans s2).trans s3) (.bl false)
end
section
variable {X : Cx} {W : WX} {a b c : Expr} {f f' f'' : Ro → R PyData} {t u : Ro → R Bool} {rest : List Expr} {pos : Pos}
theorem pd_one {op} (h : PD X W a f) : PD X W (.BoolOp op [a] pos) f := pe_one h
theorem pd_and (ha : PD X W a f) (hb : PD X W (.BoolOp .And (b :: rest) pos) f') : PD X W (.BoolOp .And (a :: b :: rest) pos) (dAndV f f') := peW (pe_and ha hb) fun _ _ _ => tD_and
theorem pd_or (ha : PD X W a f) (hb : PD X W (.BoolOp .Or (b :: rest) pos) f') : PD X W (.BoolOp .Or (a :: b :: rest) pos) (dOrV f f') := peW (pe_or ha hb) fun _ _ _ => tD_or
theorem pd_not (ha : PD X W a f) : PD X W (.UnaryOp .Not a pos) (dNotV f) := peW (pe_not ha) fun _ _ _ => tD_not
abbrev PBw (X : Cx) (W : WX) (e : Expr) (f : Ro → R Bool) : Prop := PW X e (tBD X.K X.mg W f)
theorem pwW {X : Cx} {e : Expr} {t t' : TT} (h : PW X e t) (i : ∀ σ H Q, t' σ H Q → t σ H Q) : PW X e t' := ⟨fun w pins s σ H Q I q => h.run w pins s σ H Q I (i σ H Q q)⟩
theorem pb_and1 (ha : PB X W a t) : PBw X W (.BoolOp .And [a] pos) t := pw_and1 ha
theorem pb_or1 (ha : PB X W a t) : PBw X W (.BoolOp .Or [a] pos) t := pw_or1 ha
theorem pb_andW (ha : PB X W a t) (hb : PBw X W (.BoolOp .And (b :: rest) pos) u) : PBw X W (.BoolOp .And (a :: b :: rest) pos) (dAnd t u) := pwW (pw_and ha hb) fun _ _ _ => tBD_and
theorem pb_orW (ha : PB X W a t) (hb : PBw X W (.BoolOp .Or (b :: rest) pos) u) : PBw X W (.BoolOp .Or (a :: b :: rest) pos) (dOr t u) := pwW (pw_or ha hb) fun _ _ _ => tBD_or
theorem pb_w (h : PBw X W a t) : PB X W a t := h.pt
theorem pb_not (ha : PB X W a t) : PB X W (.UnaryOp .Not a pos) (dNot t) := ptW (pt_not ha) fun _ _ _ => tBD_not
theorem pd_if (hc : PB X W c t) (ha : PD X W a f) (hb : PD X W b f') : PD X W (.IfExp c a b pos) (dIf t f f') := peW (pe_ifExp hc ha hb) fun _ _ _ => tD_if
theorem pd_chain {op op' : CmpOp} {r r' : R2} {g g' : PyData → PyData → Option PyData} (ho : OpR X (compareOp op) r) (hr : BinOk X.K r g) (ho' : OpR X (compareOp op') r') (hr' : BinOk X.K r' g') (ha : PD X W a f) (hb : PD X W b f') (hc : PD X W c f'')
    (h1 : lastMarks [op, op'] [b, c] = false := by with_unfolding_all rfl) : PD X W (.Compare a [op, op'] [b, c] pos) (dChain g g' f f' f'') :=
  peW (pe_chain ho ho' ha hb hc h1) fun _ _ _ => tD_chain hr hr'
theorem pb_chain {op op' : CmpOp} {r r' : R2} {g g' : PyData → PyData → Option PyData} (ho : OpR X (compareOp op) r) (hr : BinOk X.K r g) (ho' : OpR X (compareOp op') r') (hr' : BinOk X.K r' g') (ha : PD X W a f) (hb : PD X W b f') (hc : PD X W c f'')
    (h1 : lastMarks [op, op'] [b, c] = false := by with_unfolding_all rfl) : PB X W (.Compare a [op, op'] [b, c] pos) (dTest (dChain g g' f f' f'')) := by
  refine ptW (pt_chain ho ho' ha hb hc h1) fun σ H Q h => ?_
  obtain ⟨B, G, fp, ρ, S, h⟩ := tBD_iff.mp h
  refine tD_chain hr hr' (tD_iff.mpr ⟨B, G, fp, ρ, S, Aft.bind h fun d e1 h => fun v H1 s1 d1 => ?_⟩)
  cases d with
  | bool b => cases d1; exact ⟨b, rfl, h H1 s1⟩
  | none => exact h.elim
  | int b => exact h.elim
  | str b => exact h.elim
  | tuple b => exact h.elim
  | list b => exact h.elim
  | dict b => exact h.elim
end
/-! ### displays -/
def dTup (fa : Ro → R (List PyData)) : Ro → R PyData := fun ρ => (fa ρ).bind fun xs => if xs.length ≤ 1000000 then .ok (.tuple xs) else .no
def dLst (fa : Ro → R (List PyData)) : Ro → R (List PyData) := fun ρ => (fa ρ).bind fun xs => if xs.length ≤ 1000000 then .ok xs else .no
/-- a new list taken as data -/
def dAsL (f : Ro → R (List PyData)) : Ro → R PyData := fun ρ => (f ρ).bind fun xs => .ok (.list xs)
def listOf : PyData → R (List PyData)
  | .list xs => .ok xs
  | _ => .no
def dOfD (f : Ro → R PyData) : Ro → R (List PyData) := fun ρ => (f ρ).bind listOf
section
variable {X : Cx} {W : WX} {e : Expr} {es : List Expr} {fa : Ro → R (List PyData)} {pos : Pos}
theorem pd_tup {x1} (h : PAs X W es fa) : PD X W (.Tuple es x1 pos) (dTup fa) := by
  refine peW (pe_tup h) fun σ H Q h => ?_
  obtain ⟨B, G, fp, ρ, S, h⟩ := tD_iff.mp h
  refine tAD_iff.mpr ⟨B, G, fp, ρ, S, Aft.bind h fun ds e1 h => fun vs H1 s1 d1 => ?_⟩
  split at h
  · rename_i hl
    have el := d1.length
    refine ⟨lineLe (by omega), fun p hp => h _ _ (s1.trans (same_new hp)) (.tup (.inl upd_same) (d1.same (same_new hp)) hl)⟩
  · exact h.elim
theorem pf_lst (h : PAs X W es fa) : PF X W (.List es pos) (dLst fa) := by
  refine peW (pe_lst h) fun σ H Q h => ?_
  obtain ⟨B, G, fp, ρ, S, h⟩ := tFr_iff.mp h
  refine tAD_iff.mpr ⟨B, G, fp, ρ, S, Aft.bind h fun ds e1 h => fun vs H1 s1 d1 => ?_⟩
  split at h
  · rename_i hl
    have el := d1.length
    refine ⟨lineLe (by omega), fun p hp => h p vs _ (s1.free hp) (s1.trans (same_new hp)) upd_same ?_ hl⟩
    exact DOs.evo (Evo.put hp) _ _ d1
  · exact h.elim
theorem pd_of_pf (h : PF X W e fa) : PD X W e (dAsL fa) := by
  refine peW h fun σ H Q h => ?_
  obtain ⟨B, G, fp, ρ, S, h⟩ := tD_iff.mp h
  refine tFr_iff.mpr ⟨B, G, fp, ρ, S, Aft.bind h fun ds e1 h => fun p xs H1 hp s1 hx d1 hl => ?_⟩
  exact h _ H1 s1 (.lst ⟨.inl hx, S.new hp⟩ (d1.less fun a ha => .inl ha) hl)
theorem pl_of_pf (h : PF X W e fa) : PL X W e fa := by
  refine peW h fun σ H Q h => ?_
  obtain ⟨B, G, fp, ρ, S, h⟩ := tL_iff.mp h
  refine tFr_iff.mpr ⟨B, G, fp, ρ, S, Aft.imp h fun ds e1 h => fun p xs H1 hp s1 hx d1 hl => ?_⟩
  exact h _ xs H1 s1 (.inl hx) (d1.less fun a ha => .inl ha) hl
theorem pl_of_pd {f : Ro → R PyData} (h : PD X W e f) : PL X W e (dOfD f) := by
  refine peW h fun σ H Q h => ?_
  obtain ⟨B, G, fp, ρ, S, h⟩ := tL_iff.mp h
  refine tD_iff.mpr ⟨B, G, fp, ρ, S, Aft.bind h fun d e1 h => fun v H1 s1 d1 => ?_⟩
  cases d1 with
  | lst s q z => exact h _ _ H1 s1 s.1 q z
  | non => exact h.elim
  | bl _ => exact h.elim
  | int _ => exact h.elim
  | str _ _ => exact h.elim
  | tup _ _ _ => exact h.elim
  | dct _ _ _ => exact h.elim
  | dcT _ _ _ => exact h.elim
  | shr _ _ _ _ _ _ => exact h.elim
end
/-! ### items, slices -/
def ixD : PyData → PyData → Option PyData
  | .list ds, .int i => atI ds i
  | .tuple ds, .int i => atI ds i
  | .str z, .int i => (atI z.cps.toList i).map fun c => .str ⟨#[c]⟩
  | _, _ => none
theorem atI_DO {K : PySem.W.Frag} {O : Addr → Prop} {H : Hp} {vs : List V} {ds : List PyData} {i : Int} {d : PyData} (h : DOs K O H vs ds) (e : atI ds i = some d) : ∃ v, atI vs i = some v ∧ DO K O H v d := by
  unfold atI at e ⊢
  rw [h.length]
  cases k : ixN ds.length i with
  | none => rw [k] at e; cases e
  | some j =>
    rw [k] at e
    obtain ⟨v, h1, h2⟩ := h.get (show ds[j]? = some d from e)
    exact ⟨v, h1, h2⟩
theorem sign_ok {z : Str} (h : TxtOk z) {i : Int} {c : Nat} (e : atI z.cps.toList i = some c) : TxtOk ⟨#[c]⟩ := by
  obtain ⟨j, _, hj, _⟩ := atI_get e
  have hc : c ∈ z.cps.toList := List.mem_of_getElem? hj
  have a1 : z.cps.all (· < 0x110000) = true := h.1
  refine ⟨?_, by show 1 ≤ 1000000; decide⟩
  show (#[c] : Array Nat).all (· < 0x110000) = true
  rw [Array.all_eq_true] at a1
  obtain ⟨k, hk, e⟩ := List.getElem_of_mem hc
  have := a1 k (by simpa using hk)
  simp at this
  simp
  rw [← e]
  simpa using this
theorem bo_ix {K : PySem.W.Frag} : BinOk K (rIx K) ixD := by
  intro O H x y d e z Q ht hx hy h q
  cases d <;> cases e <;> first | (simp [ixD] at h; done) | skip
  · rename_i s i
    obtain ⟨c, h1, rfl⟩ := Option.map_eq_some_iff.mp (show (atI s.cps.toList i).map (fun c => PyData.str ⟨#[c]⟩) = some z from h)
    cases hx with
    | str _ hs =>
      cases hy
      exact .inr (.inr ⟨s, i, c, rfl, rfl, lineLe hs.2, h1, q _ H (Same.refl H) (.str _ (sign_ok hs h1))⟩)
  · rename_i ds i
    cases hx with
    | lst s1 q1 l1 =>
      cases hy
      obtain ⟨v, h1, h2⟩ := atI_DO q1 (show atI ds i = some z from h)
      exact .inl ⟨_, _, i, v, rfl, rfl, s1.sq, h1, q _ H (Same.refl H) h2⟩
  · rename_i ds i
    cases hx with
    | tup s1 q1 l1 =>
      cases hy
      obtain ⟨v, h1, h2⟩ := atI_DO q1 (show atI ds i = some z from h)
      exact .inr (.inl ⟨_, _, i, v, rfl, rfl, s1.sq, h1, q _ H (Same.refl H) h2⟩)
section
variable {X : Cx} {W : WX} {a b : Expr} {f f' : Ro → R PyData} {pos : Pos}
theorem pd_ix (ha : PD X W a f) (hb : PD X W b f') (hs : PlainIx b := by intro _ _; rfl) : PD X W (.Subscript a b pos) (dBin ixD f f') := peW (pe_ix ix_seq ha hb hs) fun _ _ _ => tD_bin bo_ix
/-- an item of an owned list -/
def dIxL (f : Ro → R (List PyData)) (f' : Ro → R PyData) : Ro → R PyData := fun ρ => (f ρ).bind fun xs => (f' ρ).bind fun y => R.of (ixD (.list xs) y)
theorem pd_ixL {f : Ro → R (List PyData)} (ha : PL X W a f) (hb : PD X W b f') (hs : PlainIx b := by intro _ _; rfl) : PD X W (.Subscript a b pos) (dIxL f f') := by
  refine peW (pe_ix ix_list ha hb hs) fun σ H Q h => ?_
  obtain ⟨B, G, fp, ρ, S, h⟩ := tD_iff.mp h
  refine tL_iff.mpr ⟨B, G, fp, ρ, S, Aft.bind h fun d e1 h => fun p xs H1 s1 r1 d1 l1 => ?_⟩
  refine tD_iff.mpr ⟨B, G, fp, ρ, S.mono s1, Aft.later s1 (Aft.bind h fun d' e2 h => fun v' H2 s2 d2 => ?_)⟩
  obtain ⟨z, e3, q⟩ := h.of_some
  cases d' <;> first | (simp [ixD] at e3; done) | skip
  rename_i i
  cases d2
  obtain ⟨v, h1, h2⟩ := atI_DO (d1.same s2) (show atI d i = some z from e3)
  have r2 : Rd H2 p (.lst xs) := s2.rd rfl r1
  exact ⟨p, xs, i, v, rfl, rfl, .inl r2, h1, q _ H2 (s1.trans s2) h2⟩
end
end Pu

namespace Pu
open PySem PySem.Spec PyProof.Rows L2
variable [MemoSpec]
/-! ### slices -/
def cutD {α : Type} (xs : List α) (lo hi : Option Int) : List α := (xs.drop (HT.sIx xs.length 0 lo)).take (HT.sIx xs.length xs.length hi - HT.sIx xs.length 0 lo)
theorem cutD_length {α : Type} (xs : List α) (lo hi : Option Int) : (cutD xs lo hi).length ≤ xs.length := by
  unfold cutD
  rw [List.length_take, List.length_drop]
  omega
theorem DOs.cut {K : PySem.W.Frag} {O : Addr → Prop} {H : Hp} {ds : List PyData} {vs : List V} (h : DOs K O H vs ds) (lo hi : Option Int) : DOs K O H (cutV vs lo hi) (cutD ds lo hi) := by
  unfold cutV cutD
  rw [h.length]
  exact (h.drop _).take _
theorem cutS_eq (z : Str) (lo hi : Option Int) : cutS z lo hi = ⟨(cutD z.cps.toList lo hi).toArray⟩ := by
  unfold cutS cutD
  have e : z.cps.toList.length = z.length := by simp [Str.length]
  rw [e]
theorem cutS_ok {z : Str} (h : TxtOk z) (lo hi : Option Int) : TxtOk (cutS z lo hi) := by
  have a1 : z.cps.all (· < 0x110000) = true := h.1
  rw [cutS_eq]
  refine ⟨?_, ?_⟩
  · show (cutD z.cps.toList lo hi).toArray.all (· < 0x110000) = true
    rw [← Array.all_toList] at a1 ⊢
    rw [List.all_eq_true] at a1 ⊢
    intro x hx
    refine a1 x ?_
    have hx' : x ∈ cutD z.cps.toList lo hi := by simpa using hx
    unfold cutD at hx'
    exact List.mem_of_mem_drop (List.mem_of_mem_take hx')
  · show (cutD z.cps.toList lo hi).toArray.size ≤ 1000000
    have := cutD_length z.cps.toList lo hi
    have e : z.cps.toList.length = z.length := by simp [Str.length]
    rw [List.size_toArray]
    have := h.2
    omega
/-- a bound of a slice -/
def optI : Option (Ro → R PyData) → Ro → R (Option Int)
  | none => fun _ => .ok none
  | some f => fun ρ => (f ρ).bind fun d => match d with
    | .int i => .ok (some i)
    | _ => .no
def tOD (K : PySem.W.Frag) (mg : Str → Option Value) (W : WX) (f : Option (Ro → R PyData)) : TO := fun σ H Q => ∃ B G fp ρ, SR K B G fp σ H ρ ∧ Aft K mg W (Ow G fp) σ H (fun o => ∀ H', Same H H' → Q o H') (optI f ρ)
def slD : PyData → Option Int → Option Int → Option PyData
  | .str z, lo, hi => some (.str (cutS z lo hi))
  | .tuple ds, lo, hi => some (.tuple (cutD ds lo hi))
  | _, _, _ => none
def dSl (f : Ro → R PyData) (lo hi : Option (Ro → R PyData)) : Ro → R PyData := fun ρ => (f ρ).bind fun d => (optI lo ρ).bind fun l => (optI hi ρ).bind fun h => R.of (slD d l h)
def dSlL (f : Ro → R (List PyData)) (lo hi : Option (Ro → R PyData)) : Ro → R (List PyData) := fun ρ => (f ρ).bind fun d => (optI lo ρ).bind fun l => (optI hi ρ).bind fun h => .ok (cutD d l h)
theorem rd_same {H H' : Hp} {a : Addr} {u : HO} (s : Same H H') (r : Rd H a u) (ne : isExt u = false := by rfl) : Rd H' a u := by
  exact s.rd ne r
/-- new things laid: what was read stays, the new place is owned by none -/
theorem DOs.laid {K : PySem.W.Frag} {O : Addr → Prop} {H : Hp} {p : Addr} {o : HO} {ds : List PyData} {vs : List V} (h : DOs K O H vs ds) (hp : H p = none) : DOs K (fun a => O a ∨ a = p) (upd H p o) vs ds := by
  exact DOs.evo (Evo.put hp) _ _ h
section
variable {X : Cx} {W : WX} {e : Expr} {f : Ro → R PyData} {pos p2 : Pos} {lo hi : Option Expr} {fl fh : Option (Ro → R PyData)}
theorem po_noneD : PO X none (tOD X.K X.mg W none) := ⟨fun pins s σ H Q I h => po_none.run pins s σ H Q I (by
  obtain ⟨B, G, fp, ρ, S, h⟩ := h
  exact h H (Same.refl H))⟩
theorem po_someD (h : PD X W e f) : PO X (some e) (tOD X.K X.mg W (some f)) := ⟨fun pins s σ H Q I q => (po_some h).run pins s σ H Q I (by
  obtain ⟨B, G, fp, ρ, S, q⟩ := q
  refine tD_iff.mpr ⟨B, G, fp, ρ, S, Aft.bind q fun d e1 q => fun v H1 s1 d1 => ?_⟩
  cases d1 with
  | int i => exact ⟨i, rfl, q H1 s1⟩
  | non => exact q.elim
  | bl _ => exact q.elim
  | str _ _ => exact q.elim
  | tup _ _ _ => exact q.elim
  | lst _ _ _ => exact q.elim
  | dct _ _ _ => exact q.elim
  | dcT _ _ _ => exact q.elim
  | shr _ _ _ _ _ _ => exact q.elim)⟩
theorem pd_slice (he : PD X W e f) (hl : PO X lo (tOD X.K X.mg W fl)) (hh : PO X hi (tOD X.K X.mg W fh)) : PD X W (.Subscript e (.Slice lo hi none p2) pos) (dSl f fl fh) := by
  refine peW (pe_slice (sl_str.or sl_tupA) he hl hh) fun σ H Q h => ?_
  obtain ⟨B, G, fp, ρ, S, h⟩ := tD_iff.mp h
  refine tD_iff.mpr ⟨B, G, fp, ρ, S, Aft.bind h fun d e1 h => fun v H1 s1 d1 => ?_⟩
  refine ⟨B, G, fp, ρ, S.mono s1, Aft.later s1 (Aft.bind h fun l e2 h => fun H2 s2 => ?_)⟩
  refine ⟨B, G, fp, ρ, (S.mono s1).mono s2, Aft.later (s1.trans s2) (Aft.bind h fun u e3 h => fun H3 s3 => ?_)⟩
  obtain ⟨z, e4, q⟩ := h.of_some
  have sm : Same H H3 := (s1.trans s2).trans s3
  have S3 := S.mono sm
  have d3 := (d1.same s2).same s3
  cases d3 with
  | str x hx => cases e4; exact .inl ⟨x, rfl, lineLe hx.2, q _ H3 sm (.str _ (cutS_ok hx _ _))⟩
  | @tup a xs ds s q1 hz =>
    cases e4
    have el := q1.length
    refine .inr ⟨a, xs, rfl, s.sq, fun hw => ?_, fun hw p hp => ?_⟩
    · refine q _ H3 sm (.tup s ?_ (Nat.le_trans (cutD_length _ _ _) hz))
      have : cutD ds l u = ds := by
        unfold cutD
        rw [← el]
        rw [hw.1, hw.2, List.drop_zero, Nat.sub_zero, el, List.take_length]
      rw [this]; exact q1
    · exact q _ _ (sm.trans (same_new hp)) (.tup (.inl upd_same) ((q1.cut l u).same (same_new hp)) (Nat.le_trans (cutD_length _ _ _) hz))
  | non => cases e4
  | bl _ => cases e4
  | int _ => cases e4
  | lst _ _ _ => cases e4
  | dct _ _ _ => cases e4
  | dcT _ _ _ => cases e4
  | shr _ _ _ _ _ _ => cases e4
theorem pf_slice {f : Ro → R (List PyData)} (he : PL X W e f) (hl : PO X lo (tOD X.K X.mg W fl)) (hh : PO X hi (tOD X.K X.mg W fh)) : PF X W (.Subscript e (.Slice lo hi none p2) pos) (dSlL f fl fh) := by
  refine peW (pe_slice sl_list he hl hh) fun σ H Q h => ?_
  obtain ⟨B, G, fp, ρ, S, h⟩ := tFr_iff.mp h
  refine tL_iff.mpr ⟨B, G, fp, ρ, S, Aft.bind h fun d e1 h => fun a xs H1 s1 r1 d1 hz => ?_⟩
  refine ⟨B, G, fp, ρ, S.mono s1, Aft.later s1 (Aft.bind h fun l e2 h => fun H2 s2 => ?_)⟩
  refine ⟨B, G, fp, ρ, (S.mono s1).mono s2, Aft.later (s1.trans s2) (Aft.bind h fun u e3 h => fun H3 s3 => ?_)⟩
  have sm : Same H H3 := (s1.trans s2).trans s3
  refine ⟨a, xs, rfl, .inl (rd_same (s2.trans s3) r1), fun p hp => ?_⟩
  exact h p _ _ (sm.free hp) (sm.trans (same_new hp)) upd_same ((((d1.same s2).same s3).cut l u).laid hp) (Nat.le_trans (cutD_length _ _ _) hz)
end
/-! ### isinstance -/
def tyD : PyData → String
  | .none => "NoneType"
  | .bool _ => "bool"
  | .int _ => "int"
  | .str _ => "str"
  | .list _ => "list"
  | .tuple _ => "tuple"
  | .dict _ => "dict"
def isSh : PyData → Bool
  | .dict [(.none, _)] => true
  | _ => false
theorem isSh_key {kvs : List (Key × V)} {ds : List (PyData × PyData)} {K : PySem.W.Frag} {O : Addr → Prop} {H : Hp} (h : DKs K O H kvs ds) : isSh (.dict ds) = false := by
  cases h with
  | nil => rfl
  | cons a b =>
    rename_i k _ _ _ _
    cases k <;> rfl
theorem isSh_keyT {kvs : List (List Key × V)} {ds : List (PyData × PyData)} {K : PySem.W.Frag} {O : Addr → Prop} {H : Hp} (h : DTs K O H kvs ds) : isSh (.dict ds) = false := by
  cases h with
  | nil => rfl
  | cons a b => rfl
theorem DO.ty {K : PySem.W.Frag} {O : Addr → Prop} {H : Hp} {v : V} {d : PyData} (h : DO K O H v d) (ns : isSh d = false) : TyX K H v (.type (tyD d)) := by
  cases h with
  | non => exact .base .non
  | bl b => exact .base (.bl b)
  | int b => exact .base (.int b)
  | str b _ => exact .base (.str b)
  | lst s _ _ =>
    rcases s.1 with s | ⟨o, s⟩
    · exact .base (.lst s)
    · exact .base (.frz s)
  | tup s _ _ =>
    rcases s with s | ⟨⟨o, its, n, h1, h2, _⟩, _⟩
    · exact .base (.tup s)
    · exact .kTuple h1 h2
  | dct s _ _ => exact .base (.dK s)
  | dcT s _ _ => exact .base (.dT s)
  | shr _ _ _ _ _ _ => cases ns
def isiD (T : String) (d : PyData) : Option PyData := if isSh d then (if T ∈ clsNames then some (.bool false) else none) else (kitB (tyD d) T).map .bool
section
variable {X : Cx} {W : WX} {e : Expr} {f : Ro → R PyData} {pos p p' : Pos} {T : String} {x : Str}
theorem pd_isi (hg : Gl X "isinstance") (hm : X.mg "isinstance" = none) (hgT : Gl X x) (hmT : X.mg x = none) (hvT : bootBuiltins x = some (.type T)) (he : PD X W e f) (hnT : x ≠ "__name__" := by decide) (hdT : (x == ("__debug__" : Str)) = false := by decide)
    (hs1 : starEach [e, .Name x p'] X.env = (false, eval e X.env) :: starEach [.Name x p'] X.env := by rfl) (hs2 : starEach [.Name x p'] X.env = (false, eval (.Name x p') X.env) :: starEach [] X.env := by rfl)
    (hpl : (backTo pos (starEach [.Name x p'] X.env)).any (·.1) = false := by rfl) : PD X W (.Call (.Name "isinstance" p) [e, .Name x p'] [] pos) (dUn (isiD T) f) := by
  have hT : PE X (.Name x p') (tC (.ty T)) := pe_bltn hgT hmT hvT rfl hnT hdT
  refine peW (pe_callB (x := "isinstance") call_isi hg hm (by decide +kernel) (pa_cons he (pa_cons hT pa_nil hs2) hs1) (by decide) (by decide) hs1 hpl) fun σ H Q h => ?_
  obtain ⟨B, G, fp, ρ, S, h⟩ := tD_iff.mp h
  refine tD_iff.mpr ⟨B, G, fp, ρ, S, Aft.bind h fun d e1 h => fun v H1 s1 d1 => ?_⟩
  obtain ⟨z, e2, q⟩ := h.of_some
  unfold isiD at e2
  by_cases sh : isSh d = true
  · rw [if_pos sh] at e2
    by_cases hT : T ∈ clsNames
    · rw [if_pos hT] at e2
      cases e2
      cases d1 with
      | shr s n c _ _ _ => exact ⟨_, .ty T, .ref _, .type T, false, rfl, .ty T, .base (.ins s c.cl c.ha c.hn c.htk c.hm), c.no T hT, q _ H1 s1 (.bl false)⟩
      | dct s n k => rw [isSh_key k] at sh; cases sh
      | dcT s n k => rw [isSh_keyT k] at sh; cases sh
      | non => cases sh
      | bl _ => cases sh
      | int _ => cases sh
      | str _ _ => cases sh
      | lst _ _ _ => cases sh
      | tup _ _ _ => cases sh
    · rw [if_neg hT] at e2
      cases e2
  · have ns : isSh d = false := by simpa using sh
    rw [if_neg sh] at e2
    obtain ⟨b, e3, rfl⟩ := Option.map_eq_some_iff.mp e2
    exact ⟨v, .ty T, .type (tyD d), .type T, b, rfl, .ty T, d1.ty ns, kit_ty e3, q _ H1 s1 (.bl b)⟩
end
def isInt : PyData → Bool
  | .int _ | .bool _ => true
  | _ => false
def isBool : PyData → Bool
  | .bool _ => true
  | _ => false
def isStr : PyData → Bool
  | .str _ => true
  | _ => false
def isTup : PyData → Bool
  | .tuple _ => true
  | _ => false
def isLst : PyData → Bool
  | .list _ => true
  | _ => false
theorem isi_of {T : String} (hT : T ∈ clsNames) {g : PyData → Bool} (hg : ∀ d, isSh d = false → (kitB (tyD d) T).map PyData.bool = some (.bool (g d))) (h0 : ∀ ds, g (.dict ds) = false) (d : PyData) : isiD T d = some (.bool (g d)) := by
  unfold isiD
  by_cases sh : isSh d = true
  · rw [if_pos sh, if_pos hT]
    cases d with
    | dict ds => rw [h0]
    | none => cases sh
    | bool _ => cases sh
    | int _ => cases sh
    | str _ => cases sh
    | list _ => cases sh
    | tuple _ => cases sh
  · rw [if_neg sh]
    exact hg d (by simpa using sh)
theorem isi_int (d : PyData) : isiD "int" d = some (.bool (isInt d)) := isi_of (by decide) (fun d _ => by
  cases d <;> first | rfl | (rw [show kitB _ _ = some _ from by decide +kernel]; rfl)) (fun _ => rfl) d
end Pu

namespace Pu
open PySem PySem.Spec PyProof.Rows L2
variable [MemoSpec]
theorem isi_bool (d : PyData) : isiD "bool" d = some (.bool (isBool d)) := isi_of (by decide) (fun d _ => by
  cases d <;> first | rfl | (rw [show kitB _ _ = some _ from by decide +kernel]; rfl)) (fun _ => rfl) d
theorem isi_str (d : PyData) : isiD "str" d = some (.bool (isStr d)) := isi_of (by decide) (fun d _ => by
  cases d <;> first | rfl | (rw [show kitB _ _ = some _ from by decide +kernel]; rfl)) (fun _ => rfl) d
theorem isi_tup (d : PyData) : isiD "tuple" d = some (.bool (isTup d)) := isi_of (by decide) (fun d _ => by
  cases d <;> first | rfl | (rw [show kitB _ _ = some _ from by decide +kernel]; rfl)) (fun _ => rfl) d
theorem isi_lst (d : PyData) : isiD "list" d = some (.bool (isLst d)) := isi_of (by decide) (fun d _ => by
  cases d <;> first | rfl | (rw [show kitB _ _ = some _ from by decide +kernel]; rfl)) (fun _ => rfl) d
/-! ### built-ins by data -/
def lenD : List PyData → Option PyData
  | [.str z] => some (.int z.length)
  | [.list ds] => some (.int ds.length)
  | [.tuple ds] => some (.int ds.length)
  | _ => none
theorem co_len {K : PySem.W.Frag} : CallOk K (fun xs H Q => ∃ x n, xs = [x] ∧ LenV K x H n ∧ Q (.int n) H) lenD := by
  intro O H xs ds z Q ht hx h q
  match ds, hx, h with
  | [.str s], .cons (.str _ hs) .nil, h => cases h; exact ⟨_, _, rfl, ⟨lineLe hs.2, rfl⟩, q _ H (Same.refl H) (.int _)⟩
  | [.list es], .cons (.lst s q1 _) .nil, h => cases h; exact ⟨_, _, rfl, .inl ⟨_, s.sq, rfl⟩, q _ H (Same.refl H) (by rw [q1.length]; exact .int _)⟩
  | [.tuple es], .cons (.tup s q1 _) .nil, h => cases h; exact ⟨_, _, rfl, .inr ⟨_, s.sq, rfl⟩, q _ H (Same.refl H) (by rw [q1.length]; exact .int _)⟩
def bools : List PyData → Option (List Bool)
  | [] => some []
  | .bool b :: r => (bools r).map (b :: ·)
  | _ :: _ => none
theorem bools_V {K : PySem.W.Frag} {O : Addr → Prop} {H : Hp} : ∀ {ds : List PyData} {vs : List V} {bs : List Bool}, DOs K O H vs ds → bools ds = some bs → vs = bs.map V.bl
  | [], _, _, .nil, h => by cases h; rfl
  | .bool b :: r, _, _, .cons (.bl _) t, h => by
    obtain ⟨bs, h1, rfl⟩ := Option.map_eq_some_iff.mp (show (bools r).map (b :: ·) = some _ from h)
    rw [bools_V t h1]; rfl
  | .none :: _, _, _, _, h => by simp [bools] at h
  | .int _ :: _, _, _, _, h => by simp [bools] at h
  | .str _ :: _, _, _, _, h => by simp [bools] at h
  | .list _ :: _, _, _, _, h => by simp [bools] at h
  | .tuple _ :: _, _, _, _, h => by simp [bools] at h
  | .dict _ :: _, _, _, _, h => by simp [bools] at h
def allD : List PyData → Option PyData
  | [.list ds] => (bools ds).map fun bs => .bool (bs.all id)
  | _ => none
def anyD : List PyData → Option PyData
  | [.list ds] => (bools ds).map fun bs => .bool (bs.any id)
  | _ => none
theorem co_all {K : PySem.W.Frag} : CallOk K (rAll K) allD := by
  intro O H xs ds z Q ht hx h q
  match ds, hx, h with
  | [.list es], .cons (.lst s q1 _) .nil, h =>
    obtain ⟨bs, h1, rfl⟩ := Option.map_eq_some_iff.mp (show (bools es).map (fun bs => PyData.bool (bs.all id)) = some z from h)
    have e := bools_V q1 h1
    subst e
    exact ⟨_, bs, rfl, s.sq, q _ H (Same.refl H) (.bl _)⟩
theorem co_any {K : PySem.W.Frag} : CallOk K (rAny K) anyD := by
  intro O H xs ds z Q ht hx h q
  match ds, hx, h with
  | [.list es], .cons (.lst s q1 _) .nil, h =>
    obtain ⟨bs, h1, rfl⟩ := Option.map_eq_some_iff.mp (show (bools es).map (fun bs => PyData.bool (bs.any id)) = some z from h)
    have e := bools_V q1 h1
    subst e
    exact ⟨_, bs, rfl, s.sq, q _ H (Same.refl H) (.bl _)⟩
def tupleD : List PyData → Option PyData
  | [.list ds] => some (.tuple ds)
  | [.tuple ds] => some (.tuple ds)
  | _ => none
theorem co_tuple {K : PySem.W.Frag} : CallOk K (fun xs H Q => ∃ p ys, xs = [.ref p] ∧ ((SqL K H p ys ∧ ∀ l, H l = none → Q (.ref l) (upd H l (.tup ys))) ∨ (SqT K H p ys ∧ Q (.ref p) H))) tupleD := by
  intro O H xs ds z Q ht hx h q
  match ds, hx, h with
  | [.list es], .cons (.lst s q1 hz) .nil, h =>
    cases h
    refine ⟨_, _, rfl, .inl ⟨s.sq, fun p hp => ?_⟩⟩
    have np : ¬ O p := fun z => by obtain ⟨o, e⟩ := ht p z; rw [hp] at e; cases e
    exact q _ _ (same_new hp) (.tup (.inl upd_same) (q1.same (same_new hp)) hz)
  | [.tuple es], .cons (.tup s q1 hz) .nil, h => cases h; exact ⟨_, _, rfl, .inr ⟨s.sq, q _ H (Same.refl H) (.tup s q1 hz)⟩⟩
def intD : List PyData → Option PyData
  | [.int i] => some (.int i)
  | [.bool b] => some (.int (if b then 1 else 0))
  | _ => none
theorem co_int {K : PySem.W.Frag} : CallOk K (fun xs H Q => (∃ i, xs = [.int i] ∧ Q (.int i) H) ∨ ∃ k, xs = [.bl k] ∧ Q (.int (if k then 1 else 0)) H) intD := by
  intro O H xs ds z Q ht hx h q
  match ds, hx, h with
  | [.int es], .cons (.int _) .nil, h => cases h; exact .inl ⟨_, rfl, q _ H (Same.refl H) (.int _)⟩
  | [.bool es], .cons (.bl _) .nil, h => cases h; exact .inr ⟨_, rfl, q _ H (Same.refl H) (.int _)⟩
def min2D : List PyData → Option PyData
  | [.int i, .int j] => some (.int (if j < i then j else i))
  | _ => none
theorem co_min2 {K : PySem.W.Frag} : CallOk K (fun xs H Q => ∃ i j, xs = [.int i, .int j] ∧ Q (.int (if j < i then j else i)) H) min2D := by
  intro O H xs ds z Q ht hx h q
  match ds, hx, h with
  | [.int i, .int j], .cons (.int _) (.cons (.int _) .nil), h => cases h; exact ⟨i, j, rfl, q _ H (Same.refl H) (.int _)⟩
/-! ### list(..), lists added -/
def dListOf (f : Ro → R PyData) : Ro → R (List PyData) := fun ρ => (f ρ).bind fun d => match d with
  | .list ds => .ok ds
  | .tuple ds => .ok ds
  | _ => .no
def dCat (f g : Ro → R (List PyData)) : Ro → R (List PyData) := fun ρ => (f ρ).bind fun xs => (g ρ).bind fun ys => if xs.length + ys.length ≤ 1000000 then .ok (xs ++ ys) else .no
section
variable {X : Cx}
theorem rd_lst {pins : List (Addr × Obj)} {σ : St} {H : Hp} {s : Shared} {l : Addr} {xs : List V} (I : Inv X pins σ H s) (r : Rd H l (.lst xs)) : xs.length ≤ sizeLine ∧ ∃ (its : List Value) (n : Nat), Vals xs its ∧ xs.length = its.length ∧ s.heap.get? l = some { cls := .type "list", data := .seq its.toArray n } := by
  obtain ⟨z, its, n, r, e⟩ := r.ok I.hok
  exact ⟨z, its, n, r, r.length, e⟩
def rCatR : R2 := fun x y H Q => ∃ l b xs zs, x = .ref l ∧ y = .ref b ∧ Rd H l (.lst xs) ∧ Rd H b (.lst zs) ∧ xs.length + zs.length ≤ sizeLine ∧ ∀ p, H p = none → Q (.ref p) (upd H p (.lst (xs ++ zs)))
theorem op_catR : OpR X (binaryOp .Add) rCatR := by
  intro pins s σ H x y v u Q I rx ry h
  obtain ⟨l, b, xs, zs, rfl, rfl, hH, hB, hz, q⟩ := h
  cases rx
  cases ry
  obtain ⟨z, its, n, r, hl, e⟩ := rd_lst I hH
  obtain ⟨z2, its2, n2, r2, hl2, e2⟩ := rd_lst I hB
  refine PySem.P.add_list e e2 ?_ (by rw [List.size_toArray, List.size_toArray]; omega)
  have ea : its.toArray ++ its2.toArray = (its ++ its2).toArray := by simp
  rw [ea]
  exact ⟨.ref _, _, I.lnew (t' := s.toks) (r.append r2) (by rw [List.length_append]; omega), rfl, q _ I.fresh⟩
def rExtR : V → List V → Hp → VK → Prop := fun x vs H Q => ∃ l b xs zs, x = .ref l ∧ vs = [.ref b] ∧ H l = some (.lst xs) ∧ Rd H b (.lst zs) ∧ xs.length + zs.length ≤ sizeLine ∧ Q .non (upd H l (.lst (xs ++ zs)))
theorem mt_extR : MtM X "list.extend" rExtR := by
  intro pins s σ H x vs v us Q I rx rv h
  obtain ⟨l, b, xs, zs, rfl, rfl, hH, hB, hz, q⟩ := h
  cases rx
  obtain ⟨u, rfl, ru⟩ := rv.one
  cases ru
  obtain ⟨z, its, n, r, hl, e⟩ := I.lstM hH
  obtain ⟨z2, its2, n2, r2, hl2, e2⟩ := rd_lst I hB
  have hsz : its.toArray.size + its2.toArray.size ≤ sizeLine := by rw [List.size_toArray, List.size_toArray]; omega
  have hlong : ¬ (!its.toArray.isEmpty && Builtin.List.listTooLong (its.toArray.size + its2.toArray.size)) = true := by
    rw [notLongL hsz, Bool.and_false]
    exact Bool.false_ne_true
  refine call_meets F.slot_list_extend ⟨_, e, rfl⟩ F.entry_list_extend (F.args_list_extend_2 _ _)
    (AutoSeq1.list_extend_list_list_0 l its.toArray n b its2.toArray n2 hlong (by rw [List.size_toArray]; omega) (by omega)) ⟨e, e2, ?_⟩
  refine ⟨.non, _, I.lset (its' := its ++ its2) hH e (by simp) (r.append r2) ?_, rfl, q⟩
  rw [List.length_append]
  omega
variable {W : WX} {a b e : Expr} {f g : Ro → R (List PyData)} {pos p : Pos}
theorem pf_cat (ha : PL X W a f) (hb : PL X W b g) : PF X W (.BinOp a .Add b pos) (dCat f g) := by
  refine peW (pe_op op_catR ha hb) fun σ H Q h => ?_
  obtain ⟨B, G, fp, ρ, S, h⟩ := tFr_iff.mp h
  refine tL_iff.mpr ⟨B, G, fp, ρ, S, Aft.bind h fun d e1 h => fun a xs H1 s1 r1 d1 hz => ?_⟩
  refine tL_iff.mpr ⟨B, G, fp, ρ, S.mono s1, Aft.later s1 (Aft.bind h fun d' e2 h => fun b ys H2 s2 r2 d2 hz2 => ?_)⟩
  split at h
  · rename_i hl
    have l1 := d1.length
    have l2 := d2.length
    refine ⟨a, b, xs, ys, rfl, rfl, rd_same s2 r1, r2, lineLe (by omega), fun p hp => ?_⟩
    have sm := s1.trans s2
    exact h p _ _ (sm.free hp) (sm.trans (same_new hp)) upd_same (((d1.same s2).append d2).laid hp) (by rw [List.length_append]; omega)
  · exact h.elim
theorem pf_listD {f : Ro → R PyData} (hg : Gl X "list") (hm : X.mg "list" = none) (ha : PD X W e f) (hs : starEach [e] X.env = (false, eval e X.env) :: starEach [] X.env := by rfl) (hpl : (backTo pos (starEach [] X.env)).any (·.1) = false := by rfl) :
    PF X W (.Call (.Name "list" p) [e] [] pos) (dListOf f) := by
  refine peW (pe_callTy (x := "list") call_list_of hg hm (by decide +kernel) (pa_cons ha pa_nil hs) (by decide) (by decide) hs hpl) fun σ H Q h => ?_
  obtain ⟨B, G, fp, ρ, S, h⟩ := tFr_iff.mp h
  refine tD_iff.mpr ⟨B, G, fp, ρ, S, Aft.bind h fun d e1 h => fun v H1 s1 d1 => ?_⟩
  cases d1 with
  | lst s q hz => exact ⟨_, _, rfl, .inl s.sq, fun l hl => h l _ _ (s1.free hl) (s1.trans (same_new hl)) upd_same (q.laid hl) hz⟩
  | tup s q hz => exact ⟨_, _, rfl, .inr s.sq, fun l hl => h l _ _ (s1.free hl) (s1.trans (same_new hl)) upd_same (q.laid hl) hz⟩
  | non => exact h.elim
  | bl _ => exact h.elim
  | int _ => exact h.elim
  | str _ _ => exact h.elim
  | dct _ _ _ => exact h.elim
  | dcT _ _ _ => exact h.elim
  | shr _ _ _ _ _ _ => exact h.elim
theorem pf_listL (hg : Gl X "list") (hm : X.mg "list" = none) (ha : PL X W e f) (hs : starEach [e] X.env = (false, eval e X.env) :: starEach [] X.env := by rfl) (hpl : (backTo pos (starEach [] X.env)).any (·.1) = false := by rfl) :
    PF X W (.Call (.Name "list" p) [e] [] pos) f := by
  refine peW (pe_callTy (x := "list") call_list_of hg hm (by decide +kernel) (pa_cons ha pa_nil hs) (by decide) (by decide) hs hpl) fun σ H Q h => ?_
  obtain ⟨B, G, fp, ρ, S, h⟩ := tFr_iff.mp h
  unfold tCB tCons tNil
  refine tL_iff.mpr ⟨B, G, fp, ρ, S, Aft.imp h fun d e1 h => fun a xs H1 s1 r1 d1 hz => ?_⟩
  exact ⟨a, xs, rfl, .inl (.inl r1), fun l hl => h l _ _ (s1.free hl) (s1.trans (same_new hl)) upd_same (d1.laid hl) hz⟩
/-- len of an owned list -/
def dLenL (f : Ro → R (List PyData)) : Ro → R PyData := fun ρ => (f ρ).bind fun xs => .ok (.int xs.length)
theorem pd_lenL (hg : Gl X "len") (hm : X.mg "len" = none) (ha : PL X W e f) (hs : starEach [e] X.env = (false, eval e X.env) :: starEach [] X.env := by rfl) (hpl : (backTo pos (starEach [] X.env)).any (·.1) = false := by rfl) :
    PD X W (.Call (.Name "len" p) [e] [] pos) (dLenL f) := by
  refine peW (pe_callB (x := "len") call_len hg hm boot_len (pa_cons ha pa_nil hs) (by decide) (by decide) hs hpl) fun σ H Q h => ?_
  obtain ⟨B, G, fp, ρ, S, h⟩ := tD_iff.mp h
  unfold tCB tCons tNil
  refine tL_iff.mpr ⟨B, G, fp, ρ, S, Aft.bind h fun d e1 h => fun a xs H1 s1 r1 d1 hz => ?_⟩
  exact ⟨_, _, rfl, .inl ⟨_, .inl r1, rfl⟩, h _ H1 s1 (by rw [d1.length]; exact .int _)⟩
end
end Pu

namespace PySem
open Sem (wp)
theorem Pu_meets_enum1 {v : Value} {o : Obj} {H : Heap → Prop} (B : Begins v o H) :
    Meets (Builtin.«enumerate.__new__» ⟨[.type "enumerate", v], []⟩) (fun _ R s => H s.heap ∧
      R (.ok (.ret (.ref (s.heap.push o).objs.size))) { s with heap := (s.heap.push o).push { cls := .type "enumerate", data := .fields #[.none, .bool false, .ref s.heap.objs.size, rawInt 0, .none, .none] } }) :=
  .of_wp fun prog w A R s h => by
    obtain ⟨hp, g, d, tk, os⟩ := s; obtain ⟨h1, h⟩ := h
    have hsub := sub_enumerate
    have q1 : ∀ {A' : Around} {E : Value → Shared → Prop} {Q : Value → Shared → Prop}, Q (.ref hp.objs.size) ⟨hp.push o, g, d, tk, os⟩ → wpAny (model prog w) A' (pyIter v) Q E ⟨hp, g, d, tk, os⟩ :=
      fun q => B.iter prog w _ _ ⟨hp, g, d, tk, os⟩ _ h1 q
    wp_walk using q1
    refine wpAny_stack_any fun st => wpAny_pure ?_
    split
    · rename_i c _ _ _ _ _
      cases (c == Value.type "enumerate")
      · wp_walk using q1
        exact ⟨_, rfl, h⟩
      · wp_walk using q1
        exact ⟨_, rfl, h⟩
    · wp_walk using q1
      exact ⟨_, rfl, h⟩
section
variable {prog : Program} {w : World} {A : Around} {E : Value → Shared → Prop} {s : Shared}
theorem Pu_enum1 {v : Value} {o : Obj} {H : Heap → Prop} {Q : Value → Shared → Prop} (B : Begins v o H) (h1 : H s.heap)
    (h : ∀ h', IsEnum h' (s.heap.objs.size + 1) s.heap.objs.size 0 .none → h'.get? s.heap.objs.size = some o → h'.objs.size = s.heap.objs.size + 2 →
      (∀ b o, s.heap.get? b = some o → h'.get? b = some o) → Q (.ref (s.heap.objs.size + 1)) { s with heap := h' }) :
    wpAny (model prog w) A (call (.type "enumerate") [v]) Q E s := by
  refine callType_new F.called_enumerate (by decide) (F.typeCall_enumerate_1 _) (F.newCall_enumerate_1 _) (fun obj => F.args_object_init_2 obj _) F.entry_enumerate_new
    (Pu_meets_enum1 B) ⟨h1, ?_⟩
  have hz : (s.heap.push o).objs.size = s.heap.objs.size + 1 := Heap.size_push ..
  show _ ∧ _
  rw [hz]
  have he : IsEnum ((s.heap.push o).push { cls := .type "enumerate", data := .fields #[.none, .bool false, .ref s.heap.objs.size, rawInt 0, .none, .none] }) (s.heap.objs.size + 1) s.heap.objs.size 0 .none := by
    have := Heap.get?_push_size (s.heap.push o) (o := { cls := .type "enumerate", data := .fields #[.none, .bool false, .ref s.heap.objs.size, rawInt 0, .none, .none] }) rfl
    rw [hz] at this; exact this
  refine ⟨⟨_, he, rfl⟩, h _ he (Heap.get?_push_of_some _ (Heap.get?_push_size _ B.free)) (by rw [Heap.size_push, hz]) fun b o x => Heap.get?_push_of_some _ (Heap.get?_push_of_some _ x)⟩
end
end PySem
namespace L2
open PySem PySem.Spec PyProof.Rows
/-- the tuple at a, each item in a new pair -/
def IteT (K : PySem.W.Frag) (a : Addr) : It :=
  ⟨fun i H => ∃ (xs : List V) (x : V), SqT K H a xs ∧ xs[i]? = some x, fun i H v H' => ∃ T x, v = .ref T ∧ H T = none ∧ H' = upd H T (.tup [.int (i : Nat), x]) ∧ ∀ xs, SqT K H a xs → xs[i]? = some x, fun i H => ∃ xs : List V, SqT K H a xs ∧ xs.length = i⟩
theorem turn_enumT {P : Program} {w : World} {K : PySem.W.Frag} {elts : List Expr} {kk : Nat} {tpos : Pos} (a e it : Addr) (hai : a ≠ it) :
    Turn P w K (.Tuple elts kk tpos) (IteT K a) [e, it] e (fun i h => (∃ old, IsEnum h e it ((i : Nat) : Int) old) ∧ h.IsTupleIter it a i ∧ e ≠ it) where
  mem := by simp
  obj := fun i h st b hb => by
    obtain ⟨⟨old, he⟩, ⟨o, ho, hc, hd⟩, _⟩ := st
    have e' : b = e ∨ b = it := by simpa using hb
    rcases e' with z | z
    · rw [z]; exact ⟨_, he, fun v q => nomatch q⟩
    · rw [z]; exact ⟨o, ho, fun v q => by rw [hd] at q; cases q⟩
  keep := fun i h h' st k => let ⟨⟨old, he⟩, hi, hne⟩ := st; ⟨⟨old, k e (by simp) _ he⟩, hi.at fun o q => k it (by simp) o q, hne⟩
  item := by
    intro X hP hw hK hc i pins s σ H E I hf st hg
    subst hP hw hK
    obtain ⟨⟨old, he⟩, hit, hne⟩ := st
    obtain ⟨xs, x, hq, hx⟩ := hg
    obtain ⟨its, rv, p, hz⟩ := I.tuple hq
    obtain ⟨u, hu, ru⟩ := rv.get hx
    have hel : e < s.heap.objs.size := Heap.lt_size he
    have hil : it < s.heap.objs.size := by obtain ⟨_, q, _⟩ := hit; exact Heap.lt_size q
    have hea : e ≠ a := fun z => by
      subst z
      obtain ⟨o, q, c, _⟩ := p
      have q' : s.heap.get? e = _ := he
      rw [q'] at q; cases q; simp at c
    have hil2 : i < its.toArray.size := by
      have := (List.getElem?_eq_some_iff.mp hu).1
      simpa using this
    refine wpAny_pyNext_enum_itemC (Draws.tuple (A := X.A.in1) (I.ok.hd hc) it a hai its.toArray) he ⟨hit, p⟩ hil2 hne (by simp [hne, hea]) fun x' h' tk hPx ho hit' hT hsz hk => ?_
    have ex : x' = u := by
      have h1 : its.toArray[i]? = some x' := hPx
      have h2 : its.toArray[i]? = some u := by simpa using hu
      rw [h1] at h2; exact Option.some.inj h2
    subst ex
    refine ⟨_, rfl, wpAny_letOwnedTupleGo_enum (s := { s with heap := h', toks := tk + 1 }) ho fun h'' he' sb => ?_⟩
    have hT2 : h''.get? s.heap.objs.size = some { cls := .type "tuple", data := .seq #[.int i tk, x'] } := (sb.2 _ (Nat.ne_of_gt hel)).trans hT
    have new : ObjOk X.prog X.w (upd H s.heap.objs.size (.tup [.int (i : Nat), x])) h'' s.heap.objs.size (.tup [.int (i : Nat), x]) :=
      ⟨by show 2 ≤ sizeLine; decide, [.int i tk, x'], .cons ⟨_, rfl⟩ (.cons ru .nil), ⟨_, hT2, rfl, _, rfl⟩⟩
    have I1 : Inv X pins σ (upd H s.heap.objs.size (.tup [.int (i : Nat), x])) { s with heap := h'', toks := tk + 1 } :=
      I.turnedNew (ch := [e, it]) (fun b ob hb q => (sb.2 b (fun z => hb (by simp [z]))).trans (hk b ob (fun z => hb (by simp [z])) (fun z => hb (by simp [z])) q)) hf (Nat.le_refl _) new
    refine ⟨.ref s.heap.objs.size, _, I1, rfl, ⟨_, x, rfl, I.hok.fresh (Nat.le_refl _), rfl, fun ys hy => by rw [I.tuple_inj hy hq]; exact hx⟩, ⟨⟨x', ?_⟩, hit'.1.at fun o q => (sb.2 it (Ne.symm hne)).trans q, hne⟩, fun b hb => ?_⟩
    · have e1 : ((i + 1 : Nat) : Int) = (i : Int) + 1 := by omega
      rw [e1]; exact he'
    · have hb' : b < s.heap.objs.size := by
        have e' : b = e ∨ b = it := by simpa using hb
        rcases e' with z | z
        · rw [z]; exact hel
        · rw [z]; exact hil
      rw [upd_ne (Nat.ne_of_lt hb')]
      exact (hf b hb).1
  done := by
    intro X hP hw hK hc i pins s σ H E I hf st hg
    subst hP hw hK
    obtain ⟨⟨old, he⟩, hit, hne⟩ := st
    obtain ⟨xs, hq, hx⟩ := hg
    obtain ⟨its, rv, p, hz⟩ := I.tuple hq
    obtain ⟨f0, f1, f2, f3, f4, f5⟩ := hf it (by simp)
    have hl := rv.length
    have hn : its.toArray.size = i := by simp; omega
    exact wpAny_pyNext_enum_endD (Draws.tuple (A := X.A.in1) (I.ok.hd hc) it a hai its.toArray) he (by rw [hn]; exact ⟨hit, p⟩) fun h' eb => ⟨rfl, I.turned (t' := s.toks) (fun b o hb q => eb b o hb q) f0 f1 f3 f4 f5⟩
  self := fun A i s Q E st h => let ⟨⟨_, he⟩, _⟩ := st; wpAny_pyIter_enum he h
def iEnumT (K : PySem.W.Frag) (ta : TA) : TI := fun σ H R => ta σ H fun vs H1 => ∃ a xs, vs = [.ref a] ∧ ((SqL K H1 a xs ∧ R (Ite K a) H1) ∨ (SqT K H1 a xs ∧ R (IteT K a) H1))
theorem pi_enumT {X : Cx} {e : Expr} {ta : TA} {p pos tpos : Pos} {elts : List Expr} {kk : Nat} (hg : Gl X "enumerate") (hm : X.mg "enumerate" = none) (ha : PA X [e] ta) (hs : starEach [e] X.env = [(false, eval e X.env)] := by rfl) :
    PI X (.Tuple elts kk tpos) (.Call (.Name "enumerate" p) [e] [] pos) (iEnumT X.K ta) := by
  refine ⟨fun pins s σ H R I h => ?_⟩
  refine Call_ (ld_blt I hg hm boot_enumerate (PyProof.Rows.callWith_type1 (thn (ha.run pos pins s σ H _ I h) fun us s1 ⟨vs, H1, I1, r1, q1⟩ => ?_) hs rfl))
  obtain ⟨a, xs, ex, q1⟩ := q1
  subst ex
  cases r1 with
  | cons r rr =>
    cases rr
    cases r
    have hle : ∀ b, b ∈ [s1.heap.objs.size + 1, s1.heap.objs.size] → s1.heap.objs.size ≤ b := fun b hb => by
      have e' : b = s1.heap.objs.size + 1 ∨ b = s1.heap.objs.size := by simpa using hb
      rcases e' with z | z
      · rw [z]; exact Nat.le_add_right _ _
      · rw [z]; exact Nat.le_refl _
    rcases q1 with ⟨hq, q⟩ | ⟨hq, q⟩
    · obtain ⟨its, rv, p', hz⟩ := I1.list hq
      refine call_enumerate_list p'.isList fun h' he hit hsz hk => wpAny_pyIter_enum he ?_
      have I2 : Inv X pins σ H1 { s1 with heap := h' } := I1.kept (t' := s1.toks) hk
      exact ⟨s1.heap.objs.size + 1, [s1.heap.objs.size + 1, s1.heap.objs.size], _, _, H1, rfl, I2, turn_enum a (s1.heap.objs.size + 1) s1.heap.objs.size, ⟨⟨.none, he⟩, hit, Nat.succ_ne_self _⟩, fun b hb => I1.fpOk (hle b hb) (I1.hok.fresh (hle b hb)), q⟩
    · obtain ⟨its, rv, p', hz⟩ := I1.tuple hq
      have hlt : a < s1.heap.objs.size := by obtain ⟨_, q, _⟩ := p'; exact Heap.lt_size q
      refine Pu_enum1 (begins_tuple a its.toArray) p' fun h' he hit hsz hk => wpAny_pyIter_enum he ?_
      have I2 : Inv X pins σ H1 { s1 with heap := h' } := I1.kept (t' := s1.toks) hk
      exact ⟨s1.heap.objs.size + 1, [s1.heap.objs.size + 1, s1.heap.objs.size], _, _, H1, rfl, I2, turn_enumT a (s1.heap.objs.size + 1) s1.heap.objs.size (Nat.ne_of_lt hlt), ⟨⟨.none, he⟩, ⟨_, hit, rfl, rfl⟩, Nat.succ_ne_self _⟩, fun b hb => I1.fpOk (hle b hb) (I1.hok.fresh (hle b hb)), q⟩
/-- the tuple at a and the list at b, the items in new pairs -/
def ItzM (K : PySem.W.Frag) (a b : Addr) : It :=
  ⟨fun i H => ∃ (xs ys : List V) (x y : V), SqT K H a xs ∧ SqL K H b ys ∧ xs[i]? = some x ∧ ys[i]? = some y,
    fun i H v H' => ∃ T x y, v = .ref T ∧ H T = none ∧ H' = upd H T (.tup [x, y]) ∧ (∀ xs, SqT K H a xs → xs[i]? = some x) ∧ ∀ ys, SqL K H b ys → ys[i]? = some y,
    fun i H => ∃ xs ys : List V, SqT K H a xs ∧ SqL K H b ys ∧ i = min xs.length ys.length⟩
theorem turn_zipM {P : Program} {w : World} {K : PySem.W.Frag} {elts : List Expr} {kk : Nat} {tpos : Pos} {a b z TI TO i1 i2 : Addr} (S : ZipSep2 z TI TO i1 i2 [i1, a] [i2, b]) (ha : a ≠ i1) (hb : b ≠ i2) :
    Turn P w K (.Tuple elts kk tpos) (ItzM K a b) [z, TI, TO, i1, i2] z (fun i h => IsZip h z TI TO .none ∧ IsTupOf2 h TI (.ref i1) (.ref i2) ∧ (∃ x y, IsTupOf2 h TO x y) ∧ h.IsTupleIter i1 a i ∧ h.IsListIter i2 b i) where
  mem := by simp
  obj := fun i h st c hc => by
    obtain ⟨hz, hTI, ⟨x, y, hTO⟩, ⟨o1, e1, _, d1⟩, ⟨o2, e2, _, d2⟩⟩ := st
    have e' : c = z ∨ c = TI ∨ c = TO ∨ c = i1 ∨ c = i2 := by simpa using hc
    rcases e' with q | q | q | q | q
    · rw [q]; exact ⟨_, hz, fun v q => nomatch q⟩
    · rw [q]; exact ⟨_, hTI, fun v q => nomatch q⟩
    · rw [q]; exact ⟨_, hTO, fun v q => nomatch q⟩
    · rw [q]; exact ⟨o1, e1, fun v q => by rw [d1] at q; cases q⟩
    · rw [q]; exact ⟨o2, e2, fun v q => by rw [d2] at q; cases q⟩
  keep := fun i h h' st k => by
    obtain ⟨hz, hTI, ⟨x, y, hTO⟩, h1, h2⟩ := st
    exact ⟨k z (by simp) _ hz, k TI (by simp) _ hTI, ⟨x, y, k TO (by simp) _ hTO⟩, h1.at fun o q => k i1 (by simp) o q, h2.at fun o q => k i2 (by simp) o q⟩
  item := by
    intro X hP hw hK hc i pins s σ H E I hf st hg
    subst hP hw hK
    obtain ⟨hz, hTI, ⟨x0, y0, hTO⟩, h1, h2⟩ := st
    obtain ⟨xs, ys, x, y, hqx, hqy, hx, hy⟩ := hg
    obtain ⟨its, rv, p, _⟩ := I.tuple hqx
    obtain ⟨its2, rv2, p2, _⟩ := I.list hqy
    obtain ⟨u, hu, ru⟩ := rv.get hx
    obtain ⟨u2, hu2, ru2⟩ := rv2.get hy
    have hzl : z < s.heap.objs.size := Heap.lt_size hz
    have hi1 : i < its.toArray.size := by have := (List.getElem?_eq_some_iff.mp hu).1; simpa using this
    have hi2 : i < its2.toArray.size := by have := (List.getElem?_eq_some_iff.mp hu2).1; simpa using this
    refine wpAny_pyNext_zipD2_item S (Draws.tuple (A := X.A.in1) (I.ok.hd hc) i1 a ha its.toArray) (Draws.list (A := X.A.in1) (I.ok.hd hc) i2 b hb its2.toArray) hz hTI hTO ⟨h1, p⟩ ⟨h2, p2.isList⟩ hi1 hi2 fun x1 x2 h' tk hP1 hP2 z' TO' h1' h2' hT hsz hk => ?_
    have ex : x1 = u := by
      have q1 : its.toArray[i]? = some x1 := hP1
      have q2 : its.toArray[i]? = some u := by simpa using hu
      rw [q1] at q2; exact Option.some.inj q2
    have ex2 : x2 = u2 := by
      have q1 : its2.toArray[i]? = some x2 := hP2
      have q2 : its2.toArray[i]? = some u2 := by simpa using hu2
      rw [q1] at q2; exact Option.some.inj q2
    subst ex
    subst ex2
    refine ⟨_, rfl, wpAny_letOwnedTupleGo_zip (s := { s with heap := h', toks := tk }) z' fun h'' z'' sb => ?_⟩
    have hT2 : h''.get? s.heap.objs.size = some { cls := .type "tuple", data := .seq #[x1, x2] } := (sb.2 _ (Nat.ne_of_gt hzl)).trans hT
    have new : ObjOk X.prog X.w (upd H s.heap.objs.size (.tup [x, y])) h'' s.heap.objs.size (.tup [x, y]) :=
      ⟨by show 2 ≤ sizeLine; decide, [x1, x2], .cons ru (.cons ru2 .nil), ⟨_, hT2, rfl, _, rfl⟩⟩
    have I1 : Inv X pins σ (upd H s.heap.objs.size (.tup [x, y])) { s with heap := h'', toks := tk } :=
      I.turnedNew (ch := [z, TI, TO, i1, i2]) (fun c o hb q => (sb.2 c (fun q' => hb (by simp [q']))).trans (hk c o (fun q' => hb (by simp [q'])) (fun q' => hb (by simp [q'])) (fun q' => hb (by simp [q'])) (fun q' => hb (by simp [q'])) q)) hf (Nat.le_refl _) new
    refine ⟨.ref s.heap.objs.size, _, I1, rfl, ⟨_, x, y, rfl, I.hok.fresh (Nat.le_refl _), rfl, fun l hl => by rw [I.tuple_inj hl hqx]; exact hx, fun l hl => by rw [I.list_inj hl hqy]; exact hy⟩, ⟨z'', ?_, ⟨x1, x2, ?_⟩, ?_, ?_⟩, fun c hcm => ?_⟩
    · exact (sb.2 _ S.TIz).trans (hk _ _ S.TIz S.TITO S.TIi1 S.TIi2 hTI)
    · exact (sb.2 _ S.TOz).trans TO'
    · exact h1'.1.at fun o q => (sb.2 _ (Ne.symm S.zi1)).trans q
    · exact h2'.1.at fun o q => (sb.2 _ (Ne.symm S.zi2)).trans q
    · have hlt : c < s.heap.objs.size := by
        have e' : c = z ∨ c = TI ∨ c = TO ∨ c = i1 ∨ c = i2 := by simpa using hcm
        rcases e' with q | q | q | q | q
        · rw [q]; exact hzl
        · rw [q]; exact Heap.lt_size hTI
        · rw [q]; exact Heap.lt_size hTO
        · rw [q]; obtain ⟨_, e1, _⟩ := h1; exact Heap.lt_size e1
        · rw [q]; obtain ⟨_, e2, _⟩ := h2; exact Heap.lt_size e2
      rw [upd_ne (Nat.ne_of_lt hlt)]
      exact (hf c hcm).1
  done := by
    intro X hP hw hK hc i pins s σ H E I hf st hg
    subst hP hw hK
    obtain ⟨hz, hTI, ⟨x0, y0, hTO⟩, h1, h2⟩ := st
    obtain ⟨xs, ys, hqx, hqy, hend⟩ := hg
    obtain ⟨its, rv, p, _⟩ := I.tuple hqx
    obtain ⟨its2, rv2, p2, _⟩ := I.list hqy
    have l1 := rv.length
    have l2 := rv2.length
    exact wpAny_pyNext_zipD2_end S (Draws.tuple (A := X.A.in1) (I.ok.hd hc) i1 a ha its.toArray) (Draws.list (A := X.A.in1) (I.ok.hd hc) i2 b hb its2.toArray) hz hTI hTO ⟨h1, p⟩ ⟨h2, p2.isList⟩ (by simp; omega) (by simp; omega) (by simp; omega) fun h' tk hk => ⟨rfl, I.turnedL (t' := tk) (ch := [z, TI, TO, i1, i2]) (fun c o hb q =>
      hk c o (fun q' => hb (by simp [q'])) (fun q' => hb (by simp [q'])) (fun q' => hb (by simp [q'])) (fun q' => hb (by simp [q'])) q) hf⟩
  self := fun A i s Q E st h => wpAny_pyIter_zip st.1 h
def iZipM (K : PySem.W.Frag) (ta : TA) : TI := fun σ H R => ta σ H fun vs H1 => ∃ a b xs ys, vs = [.ref a, .ref b] ∧ SqT K H1 a xs ∧ SqL K H1 b ys ∧ R (ItzM K a b) H1
theorem pi_zipM {X : Cx} {e e2 : Expr} {ta : TA} {p pos tpos : Pos} {elts : List Expr} {kk : Nat} (hg : Gl X "zip") (hm : X.mg "zip" = none) (ha : PA X [e, e2] ta)
    (hs : starEach [e, e2] X.env = (false, eval e X.env) :: starEach [e2] X.env := by rfl) (hpl : (backTo pos (starEach [e2] X.env)).any (·.1) = false := by rfl) :
    PI X (.Tuple elts kk tpos) (.Call (.Name "zip" p) [e, e2] [] pos) (iZipM X.K ta) := by
  refine ⟨fun pins s σ H R I h => ?_⟩
  refine Call_ (ld_blt I hg hm PyProof.Rows.boot_zip (PyProof.Rows.callWith_type1 (thn (ha.run pos pins s σ H _ I h) fun us s1 ⟨vs, H1, I1, r1, q1⟩ => ?_) hs hpl))
  obtain ⟨a, b, xs, ys, ex, hqx, hqy, q⟩ := q1
  subst ex
  cases r1 with
  | cons r rr =>
    cases rr with
    | cons r' rr =>
      cases rr
      cases r
      cases r'
      have fresh5 : ∀ c, c ∈ [s1.heap.objs.size + 4, s1.heap.objs.size + 2, s1.heap.objs.size + 3, s1.heap.objs.size, s1.heap.objs.size + 1] → FpOk X pins H1 c := fun c hcm => by
        have e' : c = s1.heap.objs.size + 4 ∨ c = s1.heap.objs.size + 2 ∨ c = s1.heap.objs.size + 3 ∨ c = s1.heap.objs.size ∨ c = s1.heap.objs.size + 1 := by simpa using hcm
        have hle : s1.heap.objs.size ≤ c := by
          rcases e' with z | z | z | z | z
          · rw [z]; exact Nat.le_add_right _ _
          · rw [z]; exact Nat.le_add_right _ _
          · rw [z]; exact Nat.le_add_right _ _
          · rw [z]; exact Nat.le_refl _
          · rw [z]; exact Nat.le_add_right _ _
        exact I1.fpOk hle (I1.hok.fresh hle)
      obtain ⟨its, rv, p1, _⟩ := I1.tuple hqx
      obtain ⟨its2, rv2, p2, _⟩ := I1.list hqy
      have lt1 : a < s1.heap.objs.size := by obtain ⟨o1, ho1, _⟩ := id p1; exact Heap.lt_size ho1
      have lt2 : b < s1.heap.objs.size := p2.lt
      have ne2 : b ≠ s1.heap.objs.size + 1 := Nat.ne_of_lt (Nat.lt_succ_of_lt lt2)
      refine zip_begins2 (begins_tuple a its.toArray) (begins_list b its2.toArray) p1 p2.isList fun h' hz hTI hTO g1 g2 hsz hk => wpAny_pyIter_zip hz ?_
      have I2 : Inv X pins σ H1 { s1 with heap := h' } := I1.kept (t' := s1.toks) hk
      exact ⟨s1.heap.objs.size + 4, [s1.heap.objs.size + 4, s1.heap.objs.size + 2, s1.heap.objs.size + 3, s1.heap.objs.size, s1.heap.objs.size + 1], _, _, H1, rfl, I2, turn_zipM (zip_sep2 (N := s1.heap.objs.size) (fp1 := [a]) (fp2 := [b]) (by simpa using lt1) (by simpa using lt2)) (Nat.ne_of_lt lt1) ne2, ⟨hz, hTI, ⟨_, _, hTO⟩, ⟨_, g1, rfl, rfl⟩, ⟨_, g2, rfl, rfl⟩⟩, fresh5, q⟩
end L2

namespace Pu
open PySem PySem.Spec PyProof.Rows L2
variable [MemoSpec]
/-! ### slots wiped and set -/
def wipeR (ρ : Ro) : List Nat → Ro
  | [] => ρ
  | v :: vs => (wipeR ρ vs).set v none
theorem wipeR_length (ρ : Ro) : ∀ vs : List Nat, (wipeR ρ vs).length = ρ.length
  | [] => rfl
  | v :: vs => by unfold wipeR; rw [List.length_set]; exact wipeR_length ρ vs
theorem wipeR_some {ρ : Ro} {i : Nat} {x : Cel} : ∀ {vs : List Nat}, (wipeR ρ vs)[i]? = some (some x) → ρ[i]? = some (some x) ∧ i ∉ vs
  | [], h => ⟨h, by simp⟩
  | v :: vs, h => by
    unfold wipeR at h
    by_cases e : v = i
    · subst e
      rw [List.getElem?_set] at h
      split at h
      · split at h <;> cases h
      · contradiction
    · rw [List.getElem?_set_ne e] at h
      obtain ⟨h1, h2⟩ := wipeR_some h
      exact ⟨h1, by simp [h2, Ne.symm e]⟩
theorem wipe_get (σ : St) (i : Nat) : ∀ vs : List Nat, (wipe σ vs)[i]? = if i ∈ vs then (σ[i]?).map (fun _ => none) else σ[i]?
  | [] => by simp [wipe]
  | v :: vs => by
    unfold wipe
    have ih := wipe_get σ i vs
    by_cases e : v = i
    · subst e
      rw [List.getElem?_set_self']
      rw [ih]
      cases σ[v]? with
      | none => simp
      | some o => by_cases m : v ∈ vs <;> simp [m]
    · rw [List.getElem?_set_ne e, ih]
      simp [Ne.symm e]
theorem wipe_set {σ : St} {i : Nat} {x : Option V} {vs : List Nat} (h : i ∈ vs) : wipe (σ.set i x) vs = wipe σ vs := by
  apply List.ext_getElem?
  intro j
  rw [wipe_get, wipe_get]
  by_cases e : i = j
  · subst e
    rw [if_pos h, if_pos h, List.getElem?_set_self']
    cases σ[i]? <;> rfl
  · rw [List.getElem?_set_ne e]
theorem wipe_wipe (σ : St) (vs : List Nat) : wipe (wipe σ vs) vs = wipe σ vs := by
  apply List.ext_getElem?
  intro j
  rw [wipe_get, wipe_get]
  split
  · cases σ[j]? <;> rfl
  · rfl
section
variable {K : PySem.W.Frag} {B : Hp} {G : Addr → Prop} {fp : Nat → List Addr} {σ : St} {H H' : Hp} {ρ : Ro}
theorem SR.wipe (S : SR K B G fp σ H ρ) (vs : List Nat) : SR K B G fp (L2.wipe σ vs) H (wipeR ρ vs) := by
  refine ⟨by rw [wipe_length, wipeR_length]; exact S.len, S.same, S.gt, S.fpB, S.fpG, S.fpH, S.dis, fun i c e => ?_⟩
  obtain ⟨h1, h2⟩ := wipeR_some e
  obtain ⟨v, h3, h4⟩ := S.slot i c h1
  exact ⟨v, by rw [wipe_out h2]; exact h3, h4⟩
theorem SR.set (S : SR K B G fp σ H ρ) (i : Nat) {v : V} {d : PyData} (h : DO K (Ow G fp) H v d) : SR K B G fp (σ.set i (some v)) H (ρ.set i (some (.fz d))) := by
  refine ⟨by rw [List.length_set, List.length_set]; exact S.len, S.same, S.gt, S.fpB, S.fpG, S.fpH, S.dis, fun j c e => ?_⟩
  by_cases hj : i = j
  · subst hj
    rw [List.getElem?_set] at e
    split at e
    · split at e
      · rename_i hl
        cases e
        refine ⟨v, ?_, h⟩
        rw [List.getElem?_set_self (by rw [S.len]; exact hl)]
      · cases e
    · contradiction
  · rw [List.getElem?_set_ne hj] at e
    obtain ⟨w, h1, h2⟩ := S.slot j c e
    exact ⟨w, by rw [List.getElem?_set_ne hj]; exact h1, h2⟩
/-- one more foreign thing -/
theorem SR.guard (S : SR K B G fp σ H ρ) {p : Addr} {o : HO} (hp : H p = none) : SR K B (fun a => G a ∨ a = p) fp σ (upd H p o) ρ := by
  have hO : ∀ a, Ow (fun a => G a ∨ a = p) fp a → Ow G fp a ∨ H a = none := fun a ha => by
    rcases ha with (ha | ha) | ha
    · exact .inl (.inl ha)
    · subst ha; exact .inr hp
    · exact .inl (.inr ha)
  have ev : Evo (Ow G fp) H (Ow (fun a => G a ∨ a = p) fp) (upd H p o) := ⟨hO, fun b u hb _ ne => (same_new hp).keep b u hb ne, (same_new hp).dom, (same_new hp).memo, fun a xs h => (same_new hp).keep _ _ h rfl⟩
  refine ⟨S.len, S.same.trans (same_new hp), fun a ha => ?_, S.fpB, fun i a ha => ?_, fun i a h => let ⟨o', e⟩ := S.fpH i a h; (same_new hp).dom _ _ e, S.dis, fun i c e => ?_⟩
  · rcases ha with ha | ha
    · obtain ⟨o', e⟩ := S.gt a ha; exact (same_new hp).dom _ _ e
    · subst ha; exact ⟨o, upd_same⟩
  · rintro (z | z)
    · exact S.fpG i a ha z
    · subst z
      obtain ⟨o', e⟩ := S.fpH i a ha
      rw [hp] at e; cases e
  · obtain ⟨v, h1, h2⟩ := S.slot i c e
    exact ⟨v, h1, CelR.evo ev (fun b _ u ne q => (same_new hp).keep _ _ q ne) h2⟩
/-- a heap that is as H off the foreign things -/
theorem SR.off (S : SR K B G fp σ H ρ) (h : ∀ b u, H b = some u → ¬ G b → isExt u = false → H' b = some u) (dm : ∀ b u, H b = some u → ∃ u', H' b = some u') (mm : ∀ K a bk cs, MemoAt K H a bk cs → MemoAt K H' a bk cs) (tp : ∀ a xs, H a = some (.tup xs) → H' a = some (.tup xs)) (hb : ∀ a u, G a → H a = some u → isExt u = false → B a = none ∨ H' a = some u) : SR K B G fp σ H' ρ := by
  have ev : Evo (Ow G fp) H (Ow G fp) H' := ⟨fun a ha => .inl ha, fun b u q n ne => h b u q (fun z => n (.inl z)) ne, dm, mm, tp⟩
  refine ⟨S.len, ⟨fun b u q ne => ?_, fun b u q => let ⟨u', e⟩ := S.same.dom b u q; dm b u' e, fun K a bk cs m => mm K a bk cs (S.same.memo K a bk cs m)⟩, fun a ha => let ⟨o, e⟩ := S.gt a ha; dm a o e, S.fpB, S.fpG, fun i a ha => let ⟨o, e⟩ := S.fpH i a ha; dm a o e, S.dis, fun i c e => ?_⟩
  · by_cases z : G b
    · rcases hb b u z (S.same.keep b u q ne) ne with y | y
      · rw [y] at q; cases q
      · exact y
    · exact h b u (S.same.keep b u q ne) z ne
  · obtain ⟨v, h1, h2⟩ := S.slot i c e
    exact ⟨v, h1, CelR.evo ev (fun b hb u ne q => h b u q (S.fpG i b hb) ne) h2⟩
end
/-! ### targets -/
def tGD (K : PySem.W.Frag) (ix : List Nat) (b : PyData → Ro → Option Ro) : TG := fun v σ H Q => ∃ B G fp ρ d ρ', SR K B G fp σ H ρ ∧ DO K (Ow G fp) H v d ∧ b d ρ = some ρ' ∧ ∀ σ', SR K B G fp σ' H ρ' → (∀ vs, (∀ i ∈ ix, i ∈ vs) → wipe σ' vs = wipe σ vs) → Q σ' H
def tGDs (K : PySem.W.Frag) (ix : List Nat) (b : List PyData → Ro → Option Ro) : TGs := fun v σ H Q => ∃ B G fp ρ d ρ', SR K B G fp σ H ρ ∧ DOs K (Ow G fp) H v d ∧ b d ρ = some ρ' ∧ ∀ σ', SR K B G fp σ' H ρ' → (∀ vs, (∀ i ∈ ix, i ∈ vs) → wipe σ' vs = wipe σ vs) → Q σ' H
abbrev PGd (X : Cx) (tg : Expr) (ix : List Nat) (b : PyData → Ro → Option Ro) : Prop := PG X tg (tGD X.K ix b)
abbrev PGds (X : Cx) (tg : List Expr) (ix : List Nat) (b : List PyData → Ro → Option Ro) : Prop := PGs X tg (tGDs X.K ix b)
def bName (i : Nat) : PyData → Ro → Option Ro := fun d ρ => some (ρ.set i (some (.fz d)))
def bNil : List PyData → Ro → Option Ro
  | [], ρ => some ρ
  | _, _ => none
def bCons (b : PyData → Ro → Option Ro) (bs : List PyData → Ro → Option Ro) : List PyData → Ro → Option Ro
  | d :: ds, ρ => (b d ρ).bind (bs ds)
  | _, _ => none
def bTup (n : Nat) (bs : List PyData → Ro → Option Ro) : PyData → Ro → Option Ro
  | .tuple ds, ρ => if ds.length = n then bs ds ρ else none
  | _, _ => none
theorem pgW {X : Cx} {e : Expr} {t t' : TG} (h : PG X e t) (i : ∀ v σ H Q, t' v σ H Q → t v σ H Q) : PG X e t' := ⟨fun pins s σ H v u Q I r q => h.run pins s σ H v u Q I r (i v σ H Q q)⟩
theorem pgsW {X : Cx} {e : List Expr} {t t' : TGs} (h : PGs X e t) (i : ∀ v σ H Q, t' v σ H Q → t v σ H Q) : PGs X e t' := ⟨fun pins s σ H v u Q I r q => h.run pins s σ H v u Q I r (i v σ H Q q)⟩
section
variable {X : Cx} {pos : Pos}
theorem pg_nameD {i : Nat} {x : Str} (hN : X.N.Nodup) (hi : X.N[i]? = some x) (hx : Loc X.env.scope x) (hf : X.fn x = true ∨ X.env.scope.names.lookup x = some .local := by first | exact .inl rfl | exact .inr rfl | assumption) : PGd X (.Name x pos) [i] (bName i) := by
  refine pgW (pg_name hN hi hx hf) fun v σ H Q h => ?_
  obtain ⟨B, G, fp, ρ, d, ρ', S, hd, hb, q⟩ := h
  cases hb
  exact q _ (S.set i hd) fun vs hv => wipe_set (hv i (by simp))
theorem pgs_nilD : PGds X [] [] bNil := by
  refine pgsW pgs_nil fun v σ H Q h => ?_
  obtain ⟨B, G, fp, ρ, d, ρ', S, hd, hb, q⟩ := h
  cases hd with
  | nil => cases hb; exact ⟨rfl, q σ S fun _ _ => rfl⟩
  | cons _ _ => cases hb
theorem pgs_consD {e : Expr} {es : List Expr} {i j : List Nat} {b : PyData → Ro → Option Ro} {bs : List PyData → Ro → Option Ro} (h1 : PGd X e i b) (h2 : PGds X es j bs)
    (hs : (assignEach (e :: es) X.env).map (·.2) = assign e X.env :: (assignEach es X.env).map (·.2) := by rfl) : PGds X (e :: es) (i ++ j) (bCons b bs) := by
  refine pgsW (pgs_cons h1 h2 hs) fun v σ H Q h => ?_
  obtain ⟨B, G, fp, ρ, d, ρ', S, hd, hb, q⟩ := h
  cases hd with
  | nil => cases hb
  | @cons v1 vs d1 ds a1 a2 =>
    refine ⟨v1, vs, rfl, ?_⟩
    have hb : (b d1 ρ).bind (bs ds) = some ρ' := hb
    cases k : b d1 ρ with
    | none => rw [k] at hb; cases hb
    | some ρ1 =>
      rw [k] at hb
      refine ⟨B, G, fp, ρ, d1, ρ1, S, a1, k, fun σ1 S1 w1 => ?_⟩
      refine ⟨B, G, fp, ρ1, ds, ρ', S1, a2, hb, fun σ2 S2 w2 => q σ2 S2 fun vs hv => ?_⟩
      rw [w2 vs fun i hi => hv i (by simp [hi]), w1 vs fun i hi => hv i (by simp [hi])]
theorem pg_tupD {es : List Expr} {k : Nat} {n : Nat} {ix : List Nat} {bs : List PyData → Ro → Option Ro} (hc : X.calm = true) (h : PGds X es ix bs)
    (hn : (assignEach es X.env).length = n := by rfl) (hst : (assignEach es X.env).findIdx? (·.1) = none := by rfl) : PGd X (.Tuple es k pos) ix (bTup n bs) := by
  refine pgW (pg_tup hc h hn hst) fun v σ H Q h => ?_
  obtain ⟨B, G, fp, ρ, d, ρ', S, hd, hb, q⟩ := h
  cases hd with
  | @tup a xs ds s q1 hz =>
    have hb : (if ds.length = n then bs ds ρ else none) = some ρ' := hb
    split at hb
    · rename_i hl
      exact ⟨a, xs, rfl, s.sq, q1.length.trans hl, B, G, fp, ρ, _, ρ', S, q1, hb, q⟩
    · cases hb
  | non => cases hb
  | bl _ => cases hb
  | int _ => cases hb
  | str _ _ => cases hb
  | lst _ _ _ => cases hb
  | dct _ _ _ => cases hb
  | dcT _ _ _ => cases hb
  | shr _ _ _ _ _ _ => cases hb
end
/-! ### what is walked -/
def ItD (K : PySem.W.Frag) (O : Addr → Prop) (J : It) (H0 : Hp) (ds : List PyData) : Prop := ∀ (O' : Addr → Prop) (H : Hp), Evo O H0 O' H → (∀ a, O' a → ∃ o, H a = some o) →
  (∀ i d, ds[i]? = some d → J.go i H ∧ ∀ x H', J.yld i H x H' → Same H H' ∧ DO K O' H' x d) ∧ J.stop ds.length H
def tID (K : PySem.W.Frag) (mg : Str → Option Value) (W : WX) (f : Ro → R (List PyData)) : TI := fun σ H Rc => ∃ B G fp ρ, SR K B G fp σ H ρ ∧ Aft K mg W (Ow G fp) σ H (fun ds => ∀ J H', Same H H' → ItD K (Ow G fp) J H' ds → Rc J H') (f ρ)
abbrev PIs (X : Cx) (W : WX) (tg it : Expr) (f : Ro → R (List PyData)) : Prop := PI X tg it (tID X.K X.mg W f)
theorem piW {X : Cx} {tg e : Expr} {t t' : TI} (h : PI X tg e t) (i : ∀ σ H Q, t' σ H Q → t σ H Q) : PI X tg e t' := ⟨fun pins s σ H R I q => h.run pins s σ H R I (i σ H R q)⟩
def itemsD : PyData → R (List PyData)
  | .list ds => .ok ds
  | .tuple ds => .ok ds
  | .str z => .ok (z.cps.toList.map fun c => .str ⟨#[c]⟩)
  | _ => .no
def dItems (f : Ro → R PyData) : Ro → R (List PyData) := fun ρ => (f ρ).bind itemsD
theorem itd_list {K : PySem.W.Frag} {O : Addr → Prop} {H : Hp} {a : Addr} {xs : List V} {ds : List PyData} (s : QL O H a xs) (q : DOs K O H xs ds) : ItD K O (Itl K a) H ds := fun O' H' e ht => by
  have s' := s.evo e
  have q' := DOs.evo e _ _ q
  refine ⟨fun i d hd => ?_, ⟨xs, s'.sq, by rw [q'.length]; exact Nat.le_refl _⟩⟩
  obtain ⟨v, h1, h2⟩ := q'.get hd
  refine ⟨⟨xs, v, s'.sq, h1⟩, fun x H2 y => ?_⟩
  obtain ⟨rfl, y⟩ := y
  have := y xs s'.sq
  rw [h1] at this; cases this
  exact ⟨Same.refl _, h2⟩
theorem itd_tup {K : PySem.W.Frag} {O : Addr → Prop} {H : Hp} {a : Addr} {xs : List V} {ds : List PyData} (s : QT K O H a xs) (q : DOs K O H xs ds) : ItD K O (Itt K a) H ds := fun O' H' e ht => by
  have s' := s.evo e
  have q' := DOs.evo e _ _ q
  refine ⟨fun i d hd => ?_, ⟨xs, s'.sq, by rw [q'.length]; exact Nat.le_refl _⟩⟩
  obtain ⟨v, h1, h2⟩ := q'.get hd
  refine ⟨⟨xs, v, s'.sq, h1⟩, fun x H2 y => ?_⟩
  obtain ⟨rfl, y⟩ := y
  have := y xs s'.sq
  rw [h1] at this; cases this
  exact ⟨Same.refl _, h2⟩
theorem itd_str {K : PySem.W.Frag} {O : Addr → Prop} {H : Hp} {z : Str} (hz : TxtOk z) : ItD K O (Its z) H (z.cps.toList.map fun c => .str ⟨#[c]⟩) := fun O' H' e ht => by
  refine ⟨fun i d hd => ?_, by show z.cps.size ≤ _; simp⟩
  rw [List.getElem?_map] at hd
  obtain ⟨c, h1, rfl⟩ := Option.map_eq_some_iff.mp hd
  have h2 : z.cps[i]? = some c := by simpa using h1
  obtain ⟨hi, _⟩ := Array.getElem?_eq_some_iff.mp h2
  refine ⟨hi, fun x H2 y => ?_⟩
  obtain ⟨rfl, c', y1, rfl⟩ := y
  rw [h2] at y1; cases y1
  refine ⟨Same.refl _, .str _ (sign_ok (i := (i : Int)) hz (atI_nat (by simpa using h2)))⟩
theorem itd_range {K : PySem.W.Frag} {O : Addr → Prop} {H : Hp} (lo : Int) (n : Nat) : ItD K O (Itr lo n) H ((List.range n).map fun (i : Nat) => PyData.int (lo + i)) := fun O' H' e ht => by
  refine ⟨fun i d hd => ?_, by show n ≤ _; simp⟩
  rw [List.getElem?_map] at hd
  obtain ⟨c, h1, rfl⟩ := Option.map_eq_some_iff.mp hd
  obtain ⟨hi, e2⟩ := List.getElem?_eq_some_iff.mp h1
  have ec : c = i := by simpa using e2.symm
  subst ec
  have hi' : c < n := by simpa using hi
  refine ⟨hi', fun x H2 y => ?_⟩
  obtain ⟨rfl, rfl⟩ := y
  exact ⟨Same.refl _, .int _⟩
def dRange1 (f : Ro → R (List PyData)) : Ro → R (List PyData) := fun ρ => (f ρ).bind fun xs => match xs with
  | [.int j] => if j.natAbs ≤ 1000000 then .ok ((List.range j.toNat).map fun (i : Nat) => PyData.int (0 + i)) else .no
  | _ => .no
def dRange2 (f : Ro → R (List PyData)) : Ro → R (List PyData) := fun ρ => (f ρ).bind fun xs => match xs with
  | [.int i, .int j] => if i.natAbs ≤ 1000000 ∧ j.natAbs ≤ 1000000 then .ok ((List.range (j - i).toNat).map fun (k : Nat) => PyData.int (i + k)) else .no
  | _ => .no
def zipD : List PyData → List PyData → List PyData
  | x :: xs, y :: ys => .tuple [x, y] :: zipD xs ys
  | _, _ => []
theorem zipD_get : ∀ (xs ys : List PyData) (i : Nat) (d : PyData), (zipD xs ys)[i]? = some d → ∃ x y, xs[i]? = some x ∧ ys[i]? = some y ∧ d = .tuple [x, y]
  | [], _, _, _, h => by simp [zipD] at h
  | _ :: _, [], _, _, h => by simp [zipD] at h
  | x :: xs, y :: ys, 0, d, h => by simp [zipD] at h; exact ⟨x, y, rfl, rfl, h.symm⟩
  | x :: xs, y :: ys, i + 1, d, h => by
    obtain ⟨a, b, h1, h2, h3⟩ := zipD_get xs ys i d (by simpa [zipD] using h)
    exact ⟨a, b, by simpa using h1, by simpa using h2, h3⟩
theorem zipD_len : ∀ (xs ys : List PyData), (zipD xs ys).length = min xs.length ys.length
  | [], _ => by simp [zipD]
  | _ :: _, [] => by simp [zipD]
  | x :: xs, y :: ys => by simp [zipD, zipD_len xs ys]
def enumD : Nat → List PyData → List PyData
  | _, [] => []
  | k, x :: xs => .tuple [.int k, x] :: enumD (k + 1) xs
theorem enumD_get : ∀ (xs : List PyData) (k i : Nat) (d : PyData), (enumD k xs)[i]? = some d → ∃ x, xs[i]? = some x ∧ d = .tuple [.int ((k + i : Nat) : Int), x]
  | [], _, _, _, h => by simp [enumD] at h
  | x :: xs, k, 0, d, h => by simp [enumD] at h; exact ⟨x, rfl, by simpa using h.symm⟩
  | x :: xs, k, i + 1, d, h => by
    obtain ⟨a, h1, h3⟩ := enumD_get xs (k + 1) i d (by simpa [enumD] using h)
    refine ⟨a, by simpa using h1, ?_⟩
    rw [h3]
    have : k + 1 + i = k + (i + 1) := by omega
    rw [this]
theorem enumD_len : ∀ (xs : List PyData) (k : Nat), (enumD k xs).length = xs.length
  | [], _ => rfl
  | x :: xs, k => by simp [enumD, enumD_len xs (k + 1)]
def dZip (f : Ro → R (List PyData)) : Ro → R (List PyData) := fun ρ => (f ρ).bind fun xs => match xs with
  | [.list a, .list b] => .ok (zipD a b)
  | [.tuple a, .tuple b] => .ok (zipD a b)
  | _ => .no
def dEnum (f : Ro → R (List PyData)) : Ro → R (List PyData) := fun ρ => (f ρ).bind fun xs => match xs with
  | [.list a] => .ok (enumD 0 a)
  | [.tuple a] => .ok (enumD 0 a)
  | _ => .no
theorem pair_DO {K : PySem.W.Frag} {O : Addr → Prop} {H : Hp} {T : Addr} {x y : V} {a b : PyData} (ht : ∀ a, O a → ∃ o, H a = some o) (hT : H T = none) (h1 : DO K O H x a) (h2 : DO K O H y b) : DO K O (upd H T (.tup [x, y])) (.ref T) (.tuple [a, b]) :=
  .tup (.inl upd_same) (.cons (h1.same (same_new hT)) (.cons (h2.same (same_new hT)) .nil)) (by show 2 ≤ 1000000; decide)
theorem itd_zipL {K : PySem.W.Frag} {O : Addr → Prop} {H : Hp} {a b : Addr} {xs ys : List V} {ds es : List PyData} (s : QL O H a xs) (q : DOs K O H xs ds) (s2 : QL O H b ys) (q2 : DOs K O H ys es) : ItD K O (Itz K a b) H (zipD ds es) := fun O' H' e ht => by
  have s' := s.evo e
  have q' := DOs.evo e _ _ q
  have s2' := s2.evo e
  have q2' := DOs.evo e _ _ q2
  refine ⟨fun i d hd => ?_, ⟨xs, ys, s'.sq, s2'.sq, by rw [q'.length, q2'.length, zipD_len]; omega⟩⟩
  obtain ⟨x, y, h1, h2, rfl⟩ := zipD_get _ _ _ _ hd
  obtain ⟨v, h3, h4⟩ := q'.get h1
  obtain ⟨w, h5, h6⟩ := q2'.get h2
  refine ⟨⟨xs, ys, v, w, s'.sq, s2'.sq, h3, h5⟩, fun z H2 hy => ?_⟩
  obtain ⟨T, x', y', rfl, hT, rfl, k1, k2⟩ := hy
  have := k1 xs s'.sq
  rw [h3] at this; cases this
  have := k2 ys s2'.sq
  rw [h5] at this; cases this
  exact ⟨same_new hT, pair_DO ht hT h4 h6⟩
theorem itd_zipT {K : PySem.W.Frag} {O : Addr → Prop} {H : Hp} {a b : Addr} {xs ys : List V} {ds es : List PyData} (s : QT K O H a xs) (q : DOs K O H xs ds) (s2 : QT K O H b ys) (q2 : DOs K O H ys es) : ItD K O (RZ.ItzT K a b) H (zipD ds es) := fun O' H' e ht => by
  have s' := s.evo e
  have q' := DOs.evo e _ _ q
  have s2' := s2.evo e
  have q2' := DOs.evo e _ _ q2
  refine ⟨fun i d hd => ?_, ⟨xs, ys, s'.sq, s2'.sq, by rw [q'.length, q2'.length, zipD_len]; omega⟩⟩
  obtain ⟨x, y, h1, h2, rfl⟩ := zipD_get _ _ _ _ hd
  obtain ⟨v, h3, h4⟩ := q'.get h1
  obtain ⟨w, h5, h6⟩ := q2'.get h2
  refine ⟨⟨xs, ys, v, w, s'.sq, s2'.sq, h3, h5⟩, fun z H2 hy => ?_⟩
  obtain ⟨T, x', y', rfl, hT, rfl, k1, k2⟩ := hy
  have := k1 xs s'.sq
  rw [h3] at this; cases this
  have := k2 ys s2'.sq
  rw [h5] at this; cases this
  exact ⟨same_new hT, pair_DO ht hT h4 h6⟩
theorem itd_enumL {K : PySem.W.Frag} {O : Addr → Prop} {H : Hp} {a : Addr} {xs : List V} {ds : List PyData} (s : QL O H a xs) (q : DOs K O H xs ds) : ItD K O (Ite K a) H (enumD 0 ds) := fun O' H' e ht => by
  have s' := s.evo e
  have q' := DOs.evo e _ _ q
  refine ⟨fun i d hd => ?_, ⟨xs, s'.sq, by rw [q'.length, enumD_len]; exact Nat.le_refl _⟩⟩
  obtain ⟨x, h1, rfl⟩ := enumD_get _ _ _ _ hd
  obtain ⟨v, h3, h4⟩ := q'.get h1
  refine ⟨⟨xs, v, s'.sq, h3⟩, fun z H2 hy => ?_⟩
  obtain ⟨T, x', rfl, hT, rfl, k1⟩ := hy
  have := k1 xs s'.sq
  rw [h3] at this; cases this
  refine ⟨same_new hT, ?_⟩
  have e0 : (0 + i : Nat) = i := by omega
  rw [e0]
  exact pair_DO ht hT (.int _) h4
theorem itd_enumT {K : PySem.W.Frag} {O : Addr → Prop} {H : Hp} {a : Addr} {xs : List V} {ds : List PyData} (s : QT K O H a xs) (q : DOs K O H xs ds) : ItD K O (IteT K a) H (enumD 0 ds) := fun O' H' e ht => by
  have s' := s.evo e
  have q' := DOs.evo e _ _ q
  refine ⟨fun i d hd => ?_, ⟨xs, s'.sq, by rw [q'.length, enumD_len]⟩⟩
  obtain ⟨x, h1, rfl⟩ := enumD_get _ _ _ _ hd
  obtain ⟨v, h3, h4⟩ := q'.get h1
  refine ⟨⟨xs, v, s'.sq, h3⟩, fun z H2 hy => ?_⟩
  obtain ⟨T, x', rfl, hT, rfl, k1⟩ := hy
  have := k1 xs s'.sq
  rw [h3] at this; cases this
  refine ⟨same_new hT, ?_⟩
  have e0 : (0 + i : Nat) = i := by omega
  rw [e0]
  exact pair_DO ht hT (.int _) h4
/-- what a comprehension walks: nothing changes under it -/
def ItC (K : PySem.W.Frag) (O : Addr → Prop) (J : It) (H0 : Hp) (ds : List PyData) : Prop := ∀ (O' : Addr → Prop) (H : Hp), Evo O H0 O' H → Same H0 H → (∀ a, O' a → ∃ o, H a = some o) →
  (∀ i d, ds[i]? = some d → J.go i H ∧ ∀ x H', J.yld i H x H' → Same H H' ∧ DO K O' H' x d) ∧ J.stop ds.length H
theorem ItD.c {K : PySem.W.Frag} {O : Addr → Prop} {J : It} {H0 : Hp} {ds : List PyData} (h : ItD K O J H0 ds) : ItC K O J H0 ds := fun O' H e _ t => h O' H e t
def tIC (K : PySem.W.Frag) (mg : Str → Option Value) (W : WX) (f : Ro → R (List PyData)) : TI := fun σ H Rc => ∃ B G fp ρ, SR K B G fp σ H ρ ∧ Aft K mg W (Ow G fp) σ H (fun ds => ∀ J H', Same H H' → ItC K (Ow G fp) J H' ds → Rc J H') (f ρ)
abbrev PIc (X : Cx) (W : WX) (tg it : Expr) (f : Ro → R (List PyData)) : Prop := PI X tg it (tIC X.K X.mg W f)
theorem Rd.same {H H' : Hp} {a : Addr} {u : HO} (s : Same H H') (r : Rd H a u) (ne : isExt u = false := by rfl) : Rd H' a u := s.rd ne r
theorem itc_own {K : PySem.W.Frag} {O : Addr → Prop} {H : Hp} {a : Addr} {xs : List V} {ds : List PyData} (s : Rd H a (.lst xs)) (q : DOs K O H xs ds) : ItC K O (Itl K a) H ds := fun O' H' e sm ht => by
  have s' : SqL K H' a xs := .inl (Rd.same sm s)
  have q' := DOs.evo e _ _ q
  refine ⟨fun i d hd => ?_, ⟨xs, s', by rw [q'.length]; exact Nat.le_refl _⟩⟩
  obtain ⟨v, h1, h2⟩ := q'.get hd
  refine ⟨⟨xs, v, s', h1⟩, fun x H2 y => ?_⟩
  obtain ⟨rfl, y⟩ := y
  have := y xs s'
  rw [h1] at this; cases this
  exact ⟨Same.refl _, h2⟩
theorem itc_enumOwn {K : PySem.W.Frag} {O : Addr → Prop} {H : Hp} {a : Addr} {xs : List V} {ds : List PyData} (s : Rd H a (.lst xs)) (q : DOs K O H xs ds) : ItC K O (Ite K a) H (enumD 0 ds) := fun O' H' e sm ht => by
  have s' : SqL K H' a xs := .inl (Rd.same sm s)
  have q' := DOs.evo e _ _ q
  refine ⟨fun i d hd => ?_, ⟨xs, s', by rw [q'.length, enumD_len]; exact Nat.le_refl _⟩⟩
  obtain ⟨x, h1, rfl⟩ := enumD_get _ _ _ _ hd
  obtain ⟨v, h3, h4⟩ := q'.get h1
  refine ⟨⟨xs, v, s', h3⟩, fun z H2 hy => ?_⟩
  obtain ⟨T, x', rfl, hT, rfl, k1⟩ := hy
  have := k1 xs s'
  rw [h3] at this; cases this
  refine ⟨same_new hT, ?_⟩
  have e0 : (0 + i : Nat) = i := by omega
  rw [e0]
  exact pair_DO ht hT (.int _) h4
def dEnumL (f : Ro → R (List PyData)) : Ro → R (List PyData) := fun ρ => (f ρ).bind fun xs => .ok (enumD 0 xs)
section
variable {X : Cx} {W : WX} {tg e e2 : Expr} {f : Ro → R PyData} {fa : Ro → R (List PyData)} {p pos : Pos}
theorem pi_c (h : PIs X W tg e fa) : PIc X W tg e fa := by
  refine piW h fun σ H Q h => ?_
  obtain ⟨B, G, fp, ρ, S, h⟩ := h
  refine ⟨B, G, fp, ρ, S, h.imp fun ds _ k J H' s it => k J H' s it.c⟩
/-- a list, a tuple, a text -/
theorem pi_any {te : TE} (he : PE X e te) : PI X tg e (fun σ H Rc => te σ H fun v H1 => (∃ a, v = .ref a ∧ (∃ xs, SqL X.K H1 a xs) ∧ Rc (Itl X.K a) H1) ∨ (∃ a, v = .ref a ∧ (∃ xs, SqT X.K H1 a xs) ∧ Rc (Itt X.K a) H1) ∨ ∃ z, v = .str z ∧ Rc (Its z) H1) := by
  refine ⟨fun pins s σ H R I h => ?_⟩
  refine thn (he.run pins s σ H _ I h) fun v s1 ⟨x, H1, I1, r1, q1⟩ => ?_
  rcases q1 with ⟨a, rfl, ⟨xs, hq⟩, q⟩ | ⟨a, rfl, ⟨xs, hq⟩, q⟩ | ⟨x, rfl, q⟩
  · cases r1
    obtain ⟨its, rv, p, hz⟩ := I1.list hq
    refine wpAny_pyIter_list p.isList ?_
    refine ⟨s1.heap.objs.size, [s1.heap.objs.size], _, _, H1, rfl, I1.kept (t' := s1.toks) fun b o e => Heap.get?_push_of_some _ e, turn_list a _, ⟨_, Heap.get?_push_size _ rfl, rfl, rfl⟩, fun b hb => ?_, q⟩
    have e : b = s1.heap.objs.size := by simpa using hb
    subst e
    exact I1.fpOk (Nat.le_refl _) (I1.hok.fresh (Nat.le_refl _))
  · cases r1
    obtain ⟨its, rv, p, hz⟩ := I1.tuple hq
    refine wpAny_pyIter_tuple (show s1.heap.IsTuple a its.toArray from p) ?_
    refine ⟨s1.heap.objs.size, [s1.heap.objs.size], _, _, H1, rfl, I1.kept (t' := s1.toks) fun b o e => Heap.get?_push_of_some _ e, turn_tuple a _, ⟨_, Heap.get?_push_size _ rfl, rfl, rfl⟩, fun b hb => ?_, q⟩
    have e : b = s1.heap.objs.size := by simpa using hb
    subst e
    exact I1.fpOk (Nat.le_refl _) (I1.hok.fresh (Nat.le_refl _))
  · obtain ⟨t, rfl⟩ := r1
    cases ha : x.cps.all (· < 128)
    · exact wpAny_pyIter_wide ha (pi_one (tk := s1.toks) I1 _ (turn_str _ x t "str_iterator" (.inr rfl)) ⟨_, Heap.get?_push_size _ rfl, rfl, rfl⟩ q)
    · exact wpAny_pyIter_ascii ha (pi_one (tk := s1.toks) I1 _ (turn_str _ x t "str_ascii_iterator" (.inl rfl)) ⟨_, Heap.get?_push_size _ rfl, rfl, rfl⟩ q)
theorem pi_D (he : PD X W e f) : PIs X W tg e (dItems f) := by
  refine piW (pi_any he) fun σ H Q h => ?_
  obtain ⟨B, G, fp, ρ, S, h⟩ := h
  refine tD_iff.mpr ⟨B, G, fp, ρ, S, Aft.bind h fun d e1 h => fun v H1 s1 d1 => ?_⟩
  cases d1 with
  | lst s q hz => exact .inl ⟨_, rfl, ⟨_, s.sq⟩, h _ H1 s1 (itd_list s q)⟩
  | tup s q hz => exact .inr (.inl ⟨_, rfl, ⟨_, s.sq⟩, h _ H1 s1 (itd_tup s q)⟩)
  | str z hz => exact .inr (.inr ⟨z, rfl, h _ H1 s1 (itd_str hz)⟩)
  | non => exact h.elim
  | bl _ => exact h.elim
  | int _ => exact h.elim
  | dct _ _ _ => exact h.elim
  | dcT _ _ _ => exact h.elim
  | shr _ _ _ _ _ _ => exact h.elim
theorem pi_range1D (hg : Gl X "range") (hm : X.mg "range" = none) (ha : PAs X W [e] fa) (hs : starEach [e] X.env = [(false, eval e X.env)] := by rfl) : PIs X W tg (.Call (.Name "range" p) [e] [] pos) (dRange1 fa) := by
  refine piW (pi_range1 hg hm ha hs) fun σ H Q h => ?_
  obtain ⟨B, G, fp, ρ, S, h⟩ := h
  refine tAD_iff.mpr ⟨B, G, fp, ρ, S, Aft.bind h fun d e1 h => fun v H1 s1 d1 => ?_⟩
  match d, d1, h with
  | [.int j], .cons (.int _) .nil, h =>
    dsimp only at h
    split at h
    · rename_i hj
      exact ⟨j, rfl, by omega, by omega, h _ H1 s1 (itd_range 0 _)⟩
    · exact h.elim
theorem pi_range2D (hg : Gl X "range") (hm : X.mg "range" = none) (ha : PAs X W [e, e2] fa) (hs : starEach [e, e2] X.env = [(false, eval e X.env), (false, eval e2 X.env)] := by rfl) (hs2 : starEach [e2] X.env = [(false, eval e2 X.env)] := by rfl) : PIs X W tg (.Call (.Name "range" p) [e, e2] [] pos) (dRange2 fa) := by
  refine piW (pi_range2 hg hm ha hs hs2) fun σ H Q h => ?_
  obtain ⟨B, G, fp, ρ, S, h⟩ := h
  refine tAD_iff.mpr ⟨B, G, fp, ρ, S, Aft.bind h fun d e1 h => fun v H1 s1 d1 => ?_⟩
  match d, d1, h with
  | [.int i, .int j], .cons (.int _) (.cons (.int _) .nil), h =>
    dsimp only at h
    split at h
    · rename_i hj
      exact ⟨i, j, rfl, ⟨by omega, by omega, by omega, by omega⟩, h _ H1 s1 (itd_range i _)⟩
    · exact h.elim
theorem pi_zipD {elts : List Expr} {kk : Nat} {tpos : Pos} (hg : Gl X "zip") (hm : X.mg "zip" = none) (ha : PAs X W [e, e2] fa)
    (hs : starEach [e, e2] X.env = (false, eval e X.env) :: starEach [e2] X.env := by rfl) (hpl : (backTo pos (starEach [e2] X.env)).any (·.1) = false := by rfl) : PIs X W (.Tuple elts kk tpos) (.Call (.Name "zip" p) [e, e2] [] pos) (dZip fa) := by
  refine piW (RZ.pi_zipA hg hm ha hs hpl) fun σ H Q h => ?_
  obtain ⟨B, G, fp, ρ, S, h⟩ := h
  refine tAD_iff.mpr ⟨B, G, fp, ρ, S, Aft.bind h fun d e1 h => fun v H1 s1 d1 => ?_⟩
  match d, d1, h with
  | [.list i, .list j], .cons (.lst s q _) (.cons (.lst s2 q2 _) .nil), h => exact ⟨_, _, _, _, rfl, .inl ⟨s.sq, s2.sq, h _ H1 s1 (itd_zipL s q s2 q2)⟩⟩
  | [.tuple i, .tuple j], .cons (.tup s q _) (.cons (.tup s2 q2 _) .nil), h => exact ⟨_, _, _, _, rfl, .inr ⟨s.sq, s2.sq, h _ H1 s1 (itd_zipT s q s2 q2)⟩⟩
theorem pi_enumD {elts : List Expr} {kk : Nat} {tpos : Pos} (hg : Gl X "enumerate") (hm : X.mg "enumerate" = none) (ha : PAs X W [e] fa) (hs : starEach [e] X.env = [(false, eval e X.env)] := by rfl) : PIs X W (.Tuple elts kk tpos) (.Call (.Name "enumerate" p) [e] [] pos) (dEnum fa) := by
  refine piW (pi_enumT hg hm ha hs) fun σ H Q h => ?_
  obtain ⟨B, G, fp, ρ, S, h⟩ := h
  refine tAD_iff.mpr ⟨B, G, fp, ρ, S, Aft.bind h fun d e1 h => fun v H1 s1 d1 => ?_⟩
  match d, d1, h with
  | [.list i], .cons (.lst s q _) .nil, h => exact ⟨_, _, rfl, .inl ⟨s.sq, h _ H1 s1 (itd_enumL s q)⟩⟩
  | [.tuple i], .cons (.tup s q _) .nil, h => exact ⟨_, _, rfl, .inr ⟨s.sq, h _ H1 s1 (itd_enumT s q)⟩⟩
def dZipM (f : Ro → R (List PyData)) : Ro → R (List PyData) := fun ρ => (f ρ).bind fun xs => match xs with
  | [.tuple a, .list b] => .ok (zipD a b)
  | _ => .no
theorem itd_zipM {K : PySem.W.Frag} {O : Addr → Prop} {H : Hp} {a b : Addr} {xs ys : List V} {ds es : List PyData} (s : QT K O H a xs) (q : DOs K O H xs ds) (s2 : QL O H b ys) (q2 : DOs K O H ys es) : ItD K O (ItzM K a b) H (zipD ds es) := fun O' H' e ht => by
  have s' := s.evo e
  have q' := DOs.evo e _ _ q
  have s2' := s2.evo e
  have q2' := DOs.evo e _ _ q2
  refine ⟨fun i d hd => ?_, ⟨xs, ys, s'.sq, s2'.sq, by rw [q'.length, q2'.length, zipD_len]⟩⟩
  obtain ⟨x, y, h1, h2, rfl⟩ := zipD_get _ _ _ _ hd
  obtain ⟨v, h3, h4⟩ := q'.get h1
  obtain ⟨w, h5, h6⟩ := q2'.get h2
  refine ⟨⟨xs, ys, v, w, s'.sq, s2'.sq, h3, h5⟩, fun z H2 hy => ?_⟩
  obtain ⟨T, x', y', rfl, hT, rfl, k1, k2⟩ := hy
  have := k1 xs s'.sq
  rw [h3] at this; cases this
  have := k2 ys s2'.sq
  rw [h5] at this; cases this
  exact ⟨same_new hT, pair_DO ht hT h4 h6⟩
theorem pi_zipMD {elts : List Expr} {kk : Nat} {tpos : Pos} (hg : Gl X "zip") (hm : X.mg "zip" = none) (ha : PAs X W [e, e2] fa) (hs : starEach [e, e2] X.env = (false, eval e X.env) :: starEach [e2] X.env := by rfl) (hpl : (backTo pos (starEach [e2] X.env)).any (·.1) = false := by rfl) : PIs X W (.Tuple elts kk tpos) (.Call (.Name "zip" p) [e, e2] [] pos) (dZipM fa) := by
  refine piW (pi_zipM hg hm ha hs hpl) fun σ H Q h => ?_
  obtain ⟨B, G, fp, ρ, S, h⟩ := h
  refine tAD_iff.mpr ⟨B, G, fp, ρ, S, Aft.bind h fun d e1 h => fun v H1 s1 d1 => ?_⟩
  match d, d1, h with
  | [.tuple i, .list j], .cons (.tup s q _) (.cons (.lst s2 q2 _) .nil), h => exact ⟨_, _, _, _, rfl, s.sq, s2.sq, h _ H1 s1 (itd_zipM s q s2 q2)⟩
theorem pi_L (he : PL X W e fa) : PIc X W tg e fa := by
  refine piW (pi_any he) fun σ H Q h => ?_
  obtain ⟨B, G, fp, ρ, S, h⟩ := h
  refine tL_iff.mpr ⟨B, G, fp, ρ, S, h.imp fun ds _ k a xs H1 s1 r1 d1 hz => ?_⟩
  exact .inl ⟨_, rfl, ⟨_, .inl r1⟩, k _ H1 s1 (itc_own r1 d1)⟩
theorem pi_enumL {elts : List Expr} {kk : Nat} {tpos : Pos} (hg : Gl X "enumerate") (hm : X.mg "enumerate" = none) (ha : PL X W e fa) (hs : starEach [e] X.env = [(false, eval e X.env)] := by rfl) : PIc X W (.Tuple elts kk tpos) (.Call (.Name "enumerate" p) [e] [] pos) (dEnumL fa) := by
  refine piW (pi_enumT hg hm (pa_cons ha pa_nil hs) hs) fun σ H Q h => ?_
  obtain ⟨B, G, fp, ρ, S, h⟩ := h
  unfold iEnumT tCons tNil
  refine tL_iff.mpr ⟨B, G, fp, ρ, S, Aft.bind h fun d e1 h => fun a xs H1 s1 r1 d1 hz => ?_⟩
  exact ⟨_, _, rfl, .inl ⟨.inl r1, h _ H1 s1 (itc_enumOwn r1 d1)⟩⟩
end
end Pu

namespace Pu
open PySem PySem.Spec PyProof.Rows L2
variable [MemoSpec]
/-! ### comprehensions -/
abbrev W0 : WX := fun _ _ _ _ => False
def lcGo (b : PyData → Ro → Option Ro) (ft : Ro → R Bool) (fe : Ro → R PyData) (ρ : Ro) : List PyData → Option (List PyData)
  | [] => some []
  | d :: ds => match b d ρ with
    | none => none
    | some ρ' => match ft ρ' with
      | .ok true => match fe ρ' with
        | .ok y => (lcGo b ft fe ρ ds).map (y :: ·)
        | _ => none
      | .ok false => lcGo b ft fe ρ ds
      | _ => none
def dLc (fi : Ro → R (List PyData)) (b : PyData → Ro → Option Ro) (ft : Ro → R Bool) (fe : Ro → R PyData) (vs : List Nat) : Ro → R (List PyData) := fun ρ => (fi ρ).bind fun ds => if ds.length ≤ 1000000 then R.of (lcGo b ft fe (wipeR ρ vs) ds) else .no
theorem lcGo_len {b : PyData → Ro → Option Ro} {ft : Ro → R Bool} {fe : Ro → R PyData} {ρ : Ro} : ∀ {ds ys : List PyData}, lcGo b ft fe ρ ds = some ys → ys.length ≤ ds.length
  | [], ys, h => by cases h; simp
  | d :: ds, ys, h => by
    unfold lcGo at h
    split at h
    · cases h
    · split at h
      · split at h
        · obtain ⟨zs, h1, rfl⟩ := Option.map_eq_some_iff.mp h
          have := lcGo_len h1
          simp; omega
        · cases h
      · have := lcGo_len h
        simp; omega
      · cases h
theorem tFr_lc {K : PySem.W.Frag} {mg : Str → Option Value} {W : WX} {σ : St} {H : Hp} {Q : VK} {fi : Ro → R (List PyData)} {b : PyData → Ro → Option Ro} {ft : Ro → R Bool} {fe : Ro → R PyData} {vs ix : List Nat} (hix : ∀ i ∈ ix, i ∈ vs)
    (h : tFr K mg W (dLc fi b ft fe vs) σ H Q) : tLc (tIC K mg W fi) (tGD K ix b) (tBD K mg W0 ft) (tD K mg W0 fe) vs σ H Q := by
  obtain ⟨B, G, fp, ρ, S, h⟩ := tFr_iff.mp h
  refine ⟨B, G, fp, ρ, S, Aft.bind h fun ds e1 h => fun J H1 s1 it => ?_⟩
  intro D hD
  split at h
  · rename_i hdl
    obtain ⟨ys, e2, q⟩ := h.of_some
    have hBD : B D = none := (S.same.trans s1).free hD
    have S1 := (S.mono s1).guard (o := .lst []) hD
    have srAt : ∀ Hc, Same H1 Hc → (∃ o, Hc D = some o) → SR K B (fun a => G a ∨ a = D) fp σ Hc ρ := fun Hc sc hc => by
      refine S1.off (fun c u hu ng ne => ?_) (fun c u hu => ?_) (fun K' a bk cs m => sc.memo K' a bk cs (m.unlaid hD rfl (ntL _))) (fun c xs hu => ?_) (fun a u ha hu ne => ?_)
      · have nd : c ≠ D := fun z => ng (.inr z)
        rw [upd_ne nd] at hu
        exact sc.keep c u hu ne
      · by_cases nd : c = D
        · subst nd; exact hc
        · rw [upd_ne nd] at hu; exact sc.dom c u hu
      · by_cases nd : c = D
        · subst nd; rw [upd_same] at hu; cases hu
        · rw [upd_ne nd] at hu; exact sc.keep c _ hu rfl
      · by_cases nd : a = D
        · subst nd; exact .inl hBD
        · rw [upd_ne nd] at hu; exact .inr (sc.keep a u hu ne)
    have ev : ∀ Hc, Same H1 Hc → Evo (Ow G fp) H1 (Ow (fun a => G a ∨ a = D) fp) Hc := fun Hc sc => ⟨fun a ha => by
      rcases ha with (ha | ha) | ha
      · exact .inl (.inl ha)
      · subst ha; exact .inr hD
      · exact .inl (.inr ha), fun b u hb _ ne => sc.keep b u hb ne, sc.dom, sc.memo, fun a xs h => sc.keep _ _ h rfl⟩
    refine ⟨fun i m Hc => m = ds.length - i ∧ i ≤ ds.length ∧ ∃ acc accD rest, Hc D = some (.lst acc) ∧ DOs K (Ow (fun a => G a ∨ a = D) fp) Hc acc accD ∧ Same H1 Hc ∧ lcGo b ft fe (wipeR ρ vs) (ds.drop i) = some rest ∧ accD ++ rest = ys ∧ accD.length ≤ i,
      ⟨ds.length, by simp, Nat.zero_le _, [], [], ys, upd_same, .nil, same_new hD, by simpa using e2, rfl, Nat.le_refl _⟩, ?_⟩
    rintro i m Hc ⟨rfl, hi, acc, accD, rest, hcD, hacc, sc, hgo, hys, hlen⟩
    have Sc := srAt Hc sc ⟨_, hcD⟩
    obtain ⟨itGo, itStop⟩ := it _ Hc (ev Hc sc) sc Sc.trk
    by_cases hlt : i < ds.length
    · right
      obtain ⟨d, hd⟩ : ∃ d, ds[i]? = some d := ⟨ds[i], by simp [hlt]⟩
      obtain ⟨hgo1, hyld⟩ := itGo i d hd
      have hdrop : ds.drop i = d :: ds.drop (i + 1) := by
        obtain ⟨h1, h2⟩ := List.getElem?_eq_some_iff.mp hd
        rw [← h2]
        exact List.drop_eq_getElem_cons h1
      rw [hdrop] at hgo
      unfold lcGo at hgo
      refine ⟨hgo1, _, fun H' hN => ⟨ds.length - (i + 1), by omega, hN⟩, fun x H' hy => ?_⟩
      obtain ⟨s2, dx⟩ := hyld x H' hy
      have S2 := (srAt H' (sc.trans s2) ⟨_, s2.keep _ _ hcD rfl⟩).wipe vs
      cases hb : b d (wipeR ρ vs) with
      | none => rw [hb] at hgo; cases hgo
      | some ρ' =>
        rw [hb] at hgo
        refine ⟨B, _, fp, _, d, ρ', S2, dx, hb, fun σ2 S3 hw => ⟨?_, ?_⟩⟩
        · rw [hw vs hix, wipe_wipe]
        · cases ht : ft ρ' with
          | no => dsimp only at hgo; rw [ht] at hgo; cases hgo
          | ex x => dsimp only at hgo; rw [ht] at hgo; cases hgo
          | ok bb =>
            dsimp only at hgo
            rw [ht] at hgo
            refine ⟨B, _, fp, ρ', S3, ?_⟩
            rw [ht]
            intro H3 s3
            cases bb with
            | false =>
              rw [if_neg Bool.false_ne_true]
              refine ⟨rfl, hlt, acc, accD, rest, s3.keep _ _ (s2.keep _ _ hcD rfl) rfl, (hacc.same s2).same s3, (sc.trans s2).trans s3, hgo, hys, by omega⟩
            | true =>
              rw [if_pos rfl]
              dsimp only at hgo
              refine ⟨B, _, fp, ρ', S3.mono s3, ?_⟩
              cases hf : fe ρ' with
              | no => rw [hf] at hgo; cases hgo
              | ex x => rw [hf] at hgo; cases hgo
              | ok y =>
                rw [hf] at hgo
                obtain ⟨zs, h1, rfl⟩ := Option.map_eq_some_iff.mp hgo
                intro v H4 s4 dv
                have hD4 : H4 D = some (.lst acc) := s4.keep _ _ (s3.keep _ _ (s2.keep _ _ hcD rfl) rfl) rfl
                have ha4 := ((hacc.same s2).same s3).same s4
                have e5 : Evo (Ow (fun a => G a ∨ a = D) fp) H4 (Ow (fun a => G a ∨ a = D) fp) (upd H4 D (.lst (acc ++ [v]))) := ⟨fun a h => .inl h, fun c u hu n _ => by
                  have nd : c ≠ D := fun z => n (.inl (.inr z))
                  rw [upd_ne nd]; exact hu, dom_upd, fun K' a bk cs m => m.upd hD4 rfl (ntL _), tup_upd hD4 (ntL _)⟩
                have hal := hacc.length
                refine ⟨acc, hD4, lineLt (by omega), rfl, hlt, acc ++ [v], accD ++ [y], zs, upd_same, DOs.evo e5 _ _ (ha4.append (.cons dv .nil)), (((sc.trans s2).trans s3).trans s4).upd hD hD4 rfl (ntL _), h1, by simpa using hys, by simp; omega⟩
    · left
      have ei : i = ds.length := by omega
      subst ei
      refine ⟨itStop, ?_⟩
      rw [List.drop_length] at hgo
      cases hgo
      rw [List.append_nil] at hys
      subst hys
      refine q D acc Hc (s1.free hD) (s1.trans sc) hcD (hacc.less fun a ha => ?_) (by omega)
      rcases ha with (ha | ha) | ha
      · exact .inl (.inl ha)
      · exact .inr ha
      · exact .inl (.inr ha)
  · exact h.elim
section
variable {X : Cx} {W : WX} {elt tg iter : Expr} {ifs : List Expr} {scope : Scope} {own : List (Str × Nat)} {pos : Pos} {fi : Ro → R (List PyData)} {b : PyData → Ro → Option Ro} {ft : Ro → R Bool} {fe : Ro → R PyData} {ix vs : List Nat}
def dYes : Ro → R Bool := fun _ => .ok true
theorem pts_nilD : PTs X [] (tBD X.K X.mg W dYes) := ⟨fun pins s σ H Q I h => pts_nil.run pins s σ H Q I (by
  obtain ⟨B, G, fp, ρ, S, h⟩ := h
  exact h H (Same.refl H))⟩
theorem pts_oneD {c : Expr} (h : PB X W c ft) : PTs X [c] (tBD X.K X.mg W ft) := pts_one h
theorem pf_lc (hc : X.calm = true) (hN : X.N.Nodup) (hi : PIc X W tg iter fi) (ok : BlkOk X.N X.env.scope scope own)
    (hg : ∀ (s : Shared) (H : Hp) (C : Addr) (cl : List (Str × Addr)) (fp : List Addr), PGd (X.blk s H scope (compEnvC scope cl C X.env) fp) tg ix b) (hix : ∀ i ∈ ix, i ∈ vs)
    (ht : ∀ (s : Shared) (H : Hp) (C : Addr) (cl : List (Str × Addr)) (fp : List Addr), PTs (X.blk s H scope (compEnvC scope cl C X.env) fp) ifs (tBD X.K X.mg W0 ft))
    (he : ∀ (s : Shared) (H : Hp) (C : Addr) (cl : List (Str × Addr)) (fp : List Addr), PD (X.blk s H scope (compEnvC scope cl C X.env) fp) W0 elt fe) (hs : ∀ x, foldedSetIterable iter X.env x = pure x := by intro _; rfl) (hv : own.map (·.2) = vs := by rfl) :
    PF X W (.ListComp elt [⟨tg, iter, ifs, 0⟩] scope pos) (dLc fi b ft fe vs) := by
  subst hv
  exact peW (pe_lc hc hN hi ok hg ht he hs) fun _ _ _ h => tFr_lc hix h
end
end Pu

namespace Pu
open PySem PySem.Spec PyProof.Rows L2
variable [MemoSpec]
/-! ### statements -/
inductive Fl where
  | nx (ρ : Ro)
  | bk (ρ : Ro)
  | ct (ρ : Ro)
  | rt (d : PyData)
  | ex (x : Xc) (ρ : Ro)
  | no
def SEnd (K : PySem.W.Frag) (mg : Str → Option Value) (W : WX) (B : Hp) (G : Addr → Prop) (O : Addr → Prop) (H : Hp) (D : Ends) : Fl → Prop
  | .nx ρ => ∀ σ' H' fp', SR K B G fp' σ' H' ρ → Evo O H (Ow G fp') H' → D.nx σ' H'
  | .bk ρ => ∀ σ' H' fp', SR K B G fp' σ' H' ρ → Evo O H (Ow G fp') H' → D.bk σ' H'
  | .ct ρ => ∀ σ' H' fp', SR K B G fp' σ' H' ρ → Evo O H (Ow G fp') H' → D.ct σ' H'
  | .rt d => ∀ v H', Same B H' → DO K G H' v d → D.rt v H'
  | .ex x ρ => ∀ cls dd σ' H' fp', SR K B G fp' σ' H' ρ → Evo O H (Ow G fp') H' → XR K mg (Ow G fp') H' x cls dd → W cls dd σ' H'
  | .no => False
def tSD (K : PySem.W.Frag) (mg : Str → Option Value) (W : WX) (f : Ro → Fl) : TS := fun D σ H => ∃ B G fp ρ, SR K B G fp σ H ρ ∧ SEnd K mg W B G (Ow G fp) H D (f ρ)
abbrev PSD (X : Cx) (W : WX) (st : Stmt) (f : Ro → Fl) : Prop := PS X st (tSD X.K X.mg W f)
abbrev PSDs (X : Cx) (W : WX) (st : List Stmt) (f : Ro → Fl) : Prop := PSs X st (tSD X.K X.mg W f)
theorem psW {X : Cx} {e : Stmt} {t t' : TS} (h : PS X e t) (i : ∀ D σ H, t' D σ H → t D σ H) : PS X e t' := ⟨fun pins s σ H D I q => h.run pins s σ H D I (i D σ H q)⟩
theorem pssW {X : Cx} {e : List Stmt} {t t' : TS} (h : PSs X e t) (i : ∀ D σ H, t' D σ H → t D σ H) : PSs X e t' := ⟨fun pins s σ H D I q => h.run pins s σ H D I (i D σ H q)⟩
/-- an expression's end, then a statement's -/
def Fl.of {α : Type} (ρ : Ro) (r : R α) (k : α → Fl) : Fl := match r with
  | .ok a => k a
  | .ex x => .ex x ρ
  | .no => .no
@[simp] theorem Fl.of_ok {α : Type} (ρ : Ro) (a : α) (k : α → Fl) : Fl.of ρ (.ok a) k = k a := rfl
@[simp] theorem Fl.of_ex {α : Type} (ρ : Ro) (x : Xc) (k : α → Fl) : Fl.of ρ (.ex x) k = .ex x ρ := rfl
@[simp] theorem Fl.of_no {α : Type} (ρ : Ro) (k : α → Fl) : Fl.of ρ .no k = .no := rfl
section
variable {K : PySem.W.Frag} {mg : Str → Option Value} {W : WX} {B : Hp} {G : Addr → Prop} {fp : Nat → List Addr} {σ : St} {H : Hp} {ρ : Ro} {D : Ends}
theorem SEnd.later {r : Fl} {O O1 : Addr → Prop} {H1 : Hp} (e : Evo O H O1 H1) (h : SEnd K mg W B G O H D r) : SEnd K mg W B G O1 H1 D r := by
  cases r with
  | nx ρ => exact fun σ' H' fp' S' e' => h σ' H' fp' S' (e.trans e')
  | bk ρ => exact fun σ' H' fp' S' e' => h σ' H' fp' S' (e.trans e')
  | ct ρ => exact fun σ' H' fp' S' e' => h σ' H' fp' S' (e.trans e')
  | rt d => exact h
  | ex x ρ => exact fun cls dd σ' H' fp' S' e' => h cls dd σ' H' fp' S' (e.trans e')
  | no => exact h
theorem SEnd.aft {α : Type} {r : R α} {k : α → Fl} (S : SR K B G fp σ H ρ) {P : α → Prop} (h : SEnd K mg W B G (Ow G fp) H D (Fl.of ρ r k)) (q : ∀ a, r = .ok a → SEnd K mg W B G (Ow G fp) H D (k a) → P a) : Aft K mg W (Ow G fp) σ H P r := by
  cases r with
  | ok a => exact q a rfl h
  | ex x => exact fun cls dd H' s x => h cls dd σ H' fp (S.mono s) (Evo.same s) x
  | no => exact h
end
def sSeq (f g : Ro → Fl) : Ro → Fl := fun ρ => match f ρ with
  | .nx ρ' => g ρ'
  | r => r
def sNil : Ro → Fl := fun ρ => .nx ρ
def sExpr (f : Ro → R PyData) : Ro → Fl := fun ρ => Fl.of ρ (f ρ) fun _ => .nx ρ
def sRet (f : Ro → R PyData) : Ro → Fl := fun ρ => Fl.of ρ (f ρ) fun d => .rt d
def sRetN : Ro → Fl := fun _ => .rt .none
def sAsg (f : Ro → R PyData) (b : PyData → Ro → Option Ro) : Ro → Fl := fun ρ => Fl.of ρ (f ρ) fun d => match b d ρ with
  | some ρ' => .nx ρ'
  | none => .no
def sAsgL (i : Nat) (f : Ro → R (List PyData)) : Ro → Fl := fun ρ => Fl.of ρ (f ρ) fun ds => if i < ρ.length then .nx (ρ.set i (some (.ow (.list ds)))) else .no
def sIf (c : Ro → R Bool) (f g : Ro → Fl) : Ro → Fl := fun ρ => Fl.of ρ (c ρ) fun b => if b then f ρ else g ρ
def sFrz (i : Nat) (f : Ro → Fl) : Ro → Fl := fun ρ => match ρ[i]? with
  | some (some (.ow d)) => f (ρ.set i (some (.fz d)))
  | _ => f ρ
section
variable {X : Cx} {W : WX} {st : Stmt} {rest : List Stmt} {f g : Ro → Fl} {e : Expr} {fe : Ro → R PyData} {pos : Pos}
theorem psds_nil : PSDs X W [] sNil := pssW pss_nil fun D σ H ⟨B, G, fp, ρ, S, h⟩ => h σ H fp S (Evo.refl _ _)
theorem psds_cons (h1 : PSD X W st f) (h2 : PSDs X W rest g) : PSDs X W (st :: rest) (sSeq f g) := by
  refine pssW (pss_cons h1 h2) fun D σ H ⟨B, G, fp, ρ, S, h⟩ => ?_
  refine ⟨B, G, fp, ρ, S, ?_⟩
  unfold sSeq at h
  cases e : f ρ with
  | nx ρ' => rw [e] at h; exact fun σ' H' fp' S' ev => ⟨B, G, fp', ρ', S', SEnd.later ev h⟩
  | bk ρ' => rw [e] at h; exact h
  | ct ρ' => rw [e] at h; exact h
  | rt ρ' => rw [e] at h; exact h
  | ex x ρ' => rw [e] at h; exact h
  | no => rw [e] at h; exact h
theorem psds_one (h1 : PSD X W st f) : PSDs X W [st] f := pss_one h1
theorem psd_pass : PSD X W (.Pass pos) sNil := psW ps_pass fun D σ H ⟨B, G, fp, ρ, S, h⟩ => h σ H fp S (Evo.refl _ _)
theorem psd_break : PSD X W (.Break pos) (fun ρ => .bk ρ) := psW ps_break fun D σ H ⟨B, G, fp, ρ, S, h⟩ => h σ H fp S (Evo.refl _ _)
theorem psd_expr (he : PD X W e fe) (hs : swapsWith e none pos.line X.env = pure false := by rfl) : PSD X W (.Expr e pos) (sExpr fe) := psW (ps_expr he hs) fun D σ H ⟨B, G, fp, ρ, S, h⟩ =>
  tD_iff.mpr ⟨B, G, fp, ρ, S, h.aft S fun a _ h v H' s _ => h σ H' fp (S.mono s) (Evo.same s)⟩
theorem psd_ret (he : PD X W e fe) : PSD X W (.Return (some e) pos) (sRet fe) := psW (ps_ret he) fun D σ H ⟨B, G, fp, ρ, S, h⟩ =>
  tD_iff.mpr ⟨B, G, fp, ρ, S, h.aft S fun a _ h v H' s d => h v H' (S.same.trans s) (d.less fun a ha => .inl ha)⟩
theorem psd_retN : PSD X W (.Return none pos) sRetN := psW ps_retN fun D σ H ⟨B, G, fp, ρ, S, h⟩ => h .non H S.same .non
theorem psd_asg {tg : Expr} {ix : List Nat} {b : PyData → Ro → Option Ro} (he : PD X W e fe) (hg : PGd X tg ix b) (hs : swapsWithSole [tg] e pos.line X.env = pure false := by rfl) (hw : swappedStores [tg] e X.env = pure none := by rfl)
    (h1 : (assignEach [tg] X.env).map (·.2) = [assign tg X.env] := by rfl) : PSD X W (.Assign [tg] e pos) (sAsg fe b) := by
  refine psW (ps_asg he hg hs hw h1) fun D σ H ⟨B, G, fp, ρ, S, h⟩ => ?_
  refine tD_iff.mpr ⟨B, G, fp, ρ, S, h.aft S fun a _ h v H' s d => ?_⟩
  cases k : b a ρ with
  | none => rw [k] at h; exact h.elim
  | some ρ' => rw [k] at h; exact ⟨B, G, fp, ρ, a, ρ', S.mono s, d, k, fun σ' S' _ => h σ' H' fp S' (Evo.same s)⟩
theorem psd_set {i : Nat} {x : Str} {pos' : Pos} (hN : X.N.Nodup) (hi : X.N[i]? = some x) (hx : Loc X.env.scope x) (he : PD X W e fe) (hs : swapsWith e (some (.Name x pos')) pos.line X.env = pure false := by rfl) (hf : X.fn x = true ∨ X.env.scope.names.lookup x = some .local := by first | exact .inl rfl | exact .inr rfl | assumption) :
    PSD X W (.Assign [.Name x pos'] e pos) (sAsg fe (bName i)) := by
  refine psW (ps_set hN hi hx he hs hf) fun D σ H ⟨B, G, fp, ρ, S, h⟩ => ?_
  refine tD_iff.mpr ⟨B, G, fp, ρ, S, h.aft S fun a _ h v H' s d => ?_⟩
  exact h _ H' fp ((S.mono s).set i d) (Evo.same s)
theorem psd_if {c : Expr} {a b : List Stmt} {tc : Ro → R Bool} (hc : PB X W c tc) (ha : PSDs X W a f) (hb : PSDs X W b g) : PSD X W (.If c a b pos) (sIf tc f g) := by
  refine psW (ps_if hc ha hb) fun D σ H ⟨B, G, fp, ρ, S, h⟩ => ?_
  refine tBD_iff.mpr ⟨B, G, fp, ρ, S, h.aft S fun b _ h H' s => ?_⟩
  cases b with
  | true =>
    rw [if_pos rfl]
    exact ⟨B, G, fp, ρ, S.mono s, SEnd.later (Evo.same s) h⟩
  | false =>
    rw [if_neg Bool.false_ne_true]
    exact ⟨B, G, fp, ρ, S.mono s, SEnd.later (Evo.same s) h⟩
end
/-! ### owned lists -/
def fpSet (fp : Nat → List Addr) (i : Nat) (as : List Addr) : Nat → List Addr := fun j => if j = i then as else fp j
section
variable {K : PySem.W.Frag} {mg : Str → Option Value} {W : WX} {B : Hp} {G : Addr → Prop} {fp : Nat → List Addr} {σ : St} {H H' : Hp} {ρ : Ro} {D : Ends}
/-- a new thing is owned by a slot -/
theorem SR.own (S : SR K B G fp σ H ρ) {i : Nat} {p : Addr} {o : HO} {c0 : Cel} (hp : H p = none) (s : Same H H') (ho : H' p = some o) (hd : CelR K (fun a => Ow G fp a ∨ a = p) H' (.ref p) [p] c0) (hi : i < ρ.length) :
    SR K B G (fpSet fp i [p]) (σ.set i (some (.ref p))) H' (ρ.set i (some c0)) ∧ Evo (Ow G fp) H (Ow G (fpSet fp i [p])) H' := by
  have sub : ∀ a, Ow G (fpSet fp i [p]) a → Ow G fp a ∨ a = p := fun a ha => by
    rcases ha with ha | ⟨j, ha⟩
    · exact .inl (.inl ha)
    · unfold fpSet at ha
      split at ha
      · exact .inr (by simpa using ha)
      · exact .inl (.inr ⟨j, ha⟩)
  have ev : Evo (Ow G fp) H (Ow G (fpSet fp i [p])) H' := ⟨fun a ha => by
    rcases sub a ha with h | h
    · exact .inl h
    · subst h; exact .inr hp, fun b u hb _ ne => s.keep b u hb ne, s.dom, s.memo, fun a xs h => s.keep _ _ h rfl⟩
  have nofp : ∀ j, p ∉ fp j := fun j hj => by obtain ⟨o', e⟩ := S.fpH j p hj; rw [hp] at e; cases e
  refine ⟨⟨by rw [List.length_set, List.length_set]; exact S.len, S.same.trans s, fun a ha => let ⟨o, e⟩ := S.gt a ha; s.dom _ _ e, fun j a ha => ?_, fun j a ha => ?_, fun j a ha => ?_, fun j k a ha hb => ?_, fun j c e => ?_⟩, ev⟩
  · unfold fpSet at ha
    split at ha
    · have : a = p := by simpa using ha
      subst this
      exact S.same.free hp
    · exact S.fpB j a ha
  · unfold fpSet at ha
    split at ha
    · have : a = p := by simpa using ha
      subst this
      intro z
      obtain ⟨o', e⟩ := S.gt a z; rw [hp] at e; cases e
    · exact S.fpG j a ha
  · unfold fpSet at ha
    split at ha
    · have : a = p := by simpa using ha
      subst this
      exact ⟨o, ho⟩
    · obtain ⟨o', e⟩ := S.fpH j a ha; exact s.dom _ _ e
  · unfold fpSet at ha hb
    split at ha
    · have : a = p := by simpa using ha
      subst this
      split at hb
      · simp_all
      · exact absurd hb (nofp k)
    · split at hb
      · have : a = p := by simpa using hb
        subst this
        exact absurd ha (nofp j)
      · exact S.dis j k a ha hb
  · by_cases hj : i = j
    · subst hj
      rw [List.getElem?_set_self hi] at e
      cases e
      refine ⟨.ref p, by rw [List.getElem?_set_self (by rw [S.len]; exact hi)], ?_⟩
      have e0 : fpSet fp i [p] i = [p] := by simp [fpSet]
      rw [e0]
      exact CelR.evo (Evo.less sub) (fun b _ u _ q => q) hd
    · rw [List.getElem?_set_ne hj] at e
      obtain ⟨w, h1, h2⟩ := S.slot j c e
      refine ⟨w, by rw [List.getElem?_set_ne hj]; exact h1, ?_⟩
      have e0 : fpSet fp i [p] j = fp j := by unfold fpSet; rw [if_neg (Ne.symm hj)]
      rw [e0]
      exact CelR.evo ev (fun b _ u ne q => s.keep _ _ q ne) h2
/-- an owned thing is changed -/
theorem SR.chg (S : SR K B G fp σ H ρ) {i : Nat} {a : Addr} {o : HO} {c0 : Cel} (ha : a ∈ fp i) (hi : i < ρ.length) (hs : σ[i]? = some (some (.ref a))) {u0 : HO} (h0 : H a = some u0) (ne0 : isExt u0 = false) (nt0 : ∀ xs, u0 ≠ .tup xs ∧ ∀ ob, u0 ≠ .frz ob (.tup xs)) (hd : CelR K (Ow G fp) (upd H a o) (.ref a) (fp i) c0) :
    SR K B G fp σ (upd H a o) (ρ.set i (some c0)) ∧ Evo (Ow G fp) H (Ow G fp) (upd H a o) := by
  have hO : Ow G fp a := .inr ⟨i, ha⟩
  have ev : Evo (Ow G fp) H (Ow G fp) (upd H a o) := ⟨fun _ h => .inl h, fun b u hb n _ => by
    have : b ≠ a := fun z => n (by rw [z]; exact hO)
    rw [upd_ne this]; exact hb, dom_upd, fun K' m bk cs q => q.upd h0 ne0 nt0, tup_upd h0 nt0⟩
  refine ⟨⟨by rw [List.length_set]; exact S.len, S.same.upd (S.fpB i a ha) h0 ne0 nt0, fun b hb => ?_, S.fpB, S.fpG, fun j b hb => ?_, S.dis, fun j c e => ?_⟩, ev⟩
  · have : b ≠ a := fun z => S.fpG i a ha (by rw [← z]; exact hb)
    rw [upd_ne this]; exact S.gt b hb
  · by_cases z : b = a
    · subst z; exact ⟨o, upd_same⟩
    · rw [upd_ne z]; exact S.fpH j b hb
  · by_cases hj : i = j
    · subst hj
      rw [List.getElem?_set_self hi] at e
      cases e
      exact ⟨.ref a, hs, hd⟩
    · rw [List.getElem?_set_ne hj] at e
      obtain ⟨w, h1, h2⟩ := S.slot j c e
      refine ⟨w, h1, CelR.evo ev (fun b hb u _ q => ?_) h2⟩
      have : b ≠ a := fun z => hj (S.dis i j a ha (by rw [← z]; exact hb))
      rw [upd_ne this]; exact q
/-- an owned thing is frozen -/
theorem SR.frz (S : SR K B G fp σ H ρ) {i : Nat} {d : PyData} (h : ρ[i]? = some (some (.ow d))) :
    SR K B G (fpSet fp i []) σ H (ρ.set i (some (.fz d))) ∧ Evo (Ow G fp) H (Ow G (fpSet fp i [])) H := by
  have sub : ∀ a, Ow G (fpSet fp i []) a → Ow G fp a ∧ a ∉ fp i ∨ G a := fun a ha => by
    rcases ha with ha | ⟨j, ha⟩
    · exact .inr ha
    · unfold fpSet at ha
      split at ha
      · simp at ha
      · rename_i hne
        exact .inl ⟨.inr ⟨j, ha⟩, fun z => hne (S.dis j i a ha z)⟩
  have ev : Evo (Ow G fp) H (Ow G (fpSet fp i [])) H := Evo.less fun a ha => (sub a ha).elim (·.1) .inl
  refine ⟨⟨by rw [List.length_set]; exact S.len, S.same, S.gt, fun j a ha => ?_, fun j a ha => ?_, fun j a ha => ?_, fun j k a ha hb => ?_, fun j c e => ?_⟩, ev⟩
  · unfold fpSet at ha; split at ha
    · simp at ha
    · exact S.fpB j a ha
  · unfold fpSet at ha; split at ha
    · simp at ha
    · exact S.fpG j a ha
  · unfold fpSet at ha; split at ha
    · simp at ha
    · exact S.fpH j a ha
  · unfold fpSet at ha hb; split at ha
    · simp at ha
    · split at hb
      · simp at hb
      · exact S.dis j k a ha hb
  · by_cases hj : i = j
    · subst hj
      have hi := (List.getElem?_eq_some_iff.mp h).1
      rw [List.getElem?_set_self hi] at e
      cases e
      obtain ⟨v, h1, a, rfl, h3, h4⟩ := S.slot i _ h
      refine ⟨.ref a, h1, ?_⟩
      have na : ¬ Ow G (fpSet fp i []) a := fun z => by
        rcases sub a z with z | z
        · exact z.2 h3
        · exact S.fpG i a h3 z
      cases d with
      | list ds => obtain ⟨xs, q1, q2, q3⟩ := h4; exact .lst ⟨.inl q1, na⟩ (DOs.evo ev _ _ q2) q3
      | dict ds => obtain ⟨xs, q1, q2, q3⟩ := h4; exact .dct q1 na (DKs.evo ev _ _ q2)
      | none => exact h4.elim
      | bool b => exact h4.elim
      | int b => exact h4.elim
      | str b => exact h4.elim
      | tuple b => exact h4.elim
    · rw [List.getElem?_set_ne hj] at e
      obtain ⟨w, h1, h2⟩ := S.slot j c e
      refine ⟨w, h1, ?_⟩
      have e0 : fpSet fp i [] j = fp j := by unfold fpSet; rw [if_neg (Ne.symm hj)]
      rw [e0]
      exact CelR.evo ev (fun b _ u _ q => q) h2
end
section
variable {X : Cx} {W : WX} {st : Stmt} {sts : List Stmt} {f g : Ro → Fl} {e : Expr} {fe : Ro → R PyData} {fl : Ro → R (List PyData)} {pos pos' : Pos}
theorem tSD_frz {K : PySem.W.Frag} {mg : Str → Option Value} {i : Nat} {D : Ends} {σ : St} {H : Hp} (h : tSD K mg W (sFrz i f) D σ H) : tSD K mg W f D σ H := by
  obtain ⟨B, G, fp, ρ, S, h⟩ := h
  unfold sFrz at h
  split at h
  · rename_i d e
    obtain ⟨S', ev⟩ := S.frz e
    exact ⟨B, G, _, _, S', SEnd.later ev h⟩
  · exact ⟨B, G, fp, ρ, S, h⟩
theorem psd_frz (i : Nat) (h : PSD X W st f) : PSD X W st (sFrz i f) := psW h fun _ _ _ => tSD_frz
theorem psds_frz (i : Nat) (h : PSDs X W sts f) : PSDs X W sts (sFrz i f) := pssW h fun _ _ _ => tSD_frz
/-- x = a new list, owned -/
theorem tSD_asgL {K : PySem.W.Frag} {mg : Str → Option Value} {i : Nat} {D : Ends} {σ : St} {H : Hp} (h : tSD K mg W (sAsgL i fl) D σ H) : tAsg (tFr K mg W fl) (gName i) D σ H := by
  obtain ⟨B, G, fp, ρ, S, h⟩ := h
  refine tFr_iff.mpr ⟨B, G, fp, ρ, S, h.aft S fun ds _ h p xs H' hp s hx d hl => ?_⟩
  split at h
  · rename_i hi
    obtain ⟨S', ev⟩ := S.own (o := .lst xs) (c0 := .ow (.list ds)) hp s hx ⟨p, rfl, by simp, xs, hx, d, hl⟩ hi
    exact h _ H' _ S' ev
  · exact h.elim
theorem psd_setL {i : Nat} {x : Str} (hN : X.N.Nodup) (hi : X.N[i]? = some x) (hx : Loc X.env.scope x) (he : PF X W e fl) (hs : swapsWith e (some (.Name x pos')) pos.line X.env = pure false := by rfl) (hf : X.fn x = true ∨ X.env.scope.names.lookup x = some .local := by first | exact .inl rfl | exact .inr rfl | assumption) :
    PSD X W (.Assign [.Name x pos'] e pos) (sAsgL i fl) := psW (ps_set hN hi hx he hs hf) fun _ _ _ => tSD_asgL
/-- x.append(e) -/
def ownL (ρ : Ro) (i : Nat) (k : List PyData → Fl) : Fl := match ρ[i]? with
  | some (some (.ow (.list ds))) => k ds
  | _ => .no
def sApp (i : Nat) (f : Ro → R PyData) : Ro → Fl := fun ρ => ownL ρ i fun ds => Fl.of ρ (f ρ) fun d => if ds.length < 1000000 then .nx (ρ.set i (some (.ow (.list (ds ++ [d]))))) else .no
def sExt (i : Nat) (f : Ro → R (List PyData)) : Ro → Fl := fun ρ => ownL ρ i fun ds => Fl.of ρ (f ρ) fun es => if ds.length + es.length ≤ 1000000 then .nx (ρ.set i (some (.ow (.list (ds ++ es))))) else .no
/-- y = x.pop() -/
def sPop (i j : Nat) : Ro → Fl := fun ρ => ownL ρ i fun ds => match ds[ds.length - 1]? with
  | some d => if i = j then .no else .nx ((ρ.set i (some (.ow (.list ds.dropLast)))).set j (some (.fz d)))
  | none => .no
def sPopX (i : Nat) : Ro → Fl := fun ρ => ownL ρ i fun ds => match ds[ds.length - 1]? with
  | some d => .nx (ρ.set i (some (.ow (.list ds.dropLast))))
  | none => .no
theorem SR.ownL {K : PySem.W.Frag} {B : Hp} {G : Addr → Prop} {fp : Nat → List Addr} {σ : St} {H : Hp} {ρ : Ro} {i : Nat} {ds : List PyData} (S : SR K B G fp σ H ρ) (h : ρ[i]? = some (some (.ow (.list ds)))) :
    ∃ a xs, σ[i]? = some (some (.ref a)) ∧ a ∈ fp i ∧ H a = some (.lst xs) ∧ DOs K (Ow G fp) H xs ds ∧ ds.length ≤ 1000000 ∧ i < ρ.length := by
  obtain ⟨v, h1, a, rfl, h3, xs, q1, q2, q3⟩ := S.slot i _ h
  exact ⟨a, xs, h1, h3, q1, q2, q3, (List.getElem?_eq_some_iff.mp h).1⟩
theorem ownL_inv {K : PySem.W.Frag} {mg : Str → Option Value} {B : Hp} {G O : Addr → Prop} {H : Hp} {D : Ends} {ρ : Ro} {i : Nat} {k : List PyData → Fl} (h : SEnd K mg W B G O H D (ownL ρ i k)) : ∃ ds, ρ[i]? = some (some (.ow (.list ds))) ∧ SEnd K mg W B G O H D (k ds) := by
  unfold ownL at h
  split at h
  · rename_i ds e
    exact ⟨ds, e, h⟩
  · exact h.elim
end
end Pu

namespace Pu
open PySem PySem.Spec PyProof.Rows L2
variable [MemoSpec]
section
variable {X : Cx} {W : WX} {st : Stmt} {sts : List Stmt} {f g : Ro → Fl} {e o : Expr} {fe : Ro → R PyData} {fl : Ro → R (List PyData)} {pos pos' apos : Pos}
theorem psd_app {i : Nat} (ho : PE X o (tVar i)) (ha : PD X W e fe)
    (hbase : attributeBase o "append" X.env (eval o X.env) = eval o X.env := by rfl)
    (hfew : ((backTo pos' (starEach [e] X.env)).all (fun x => !x.1) && (backToKw pos' (keywordEach [] X.env)).all (fun x => x.1.isSome)
      && decide (([e] : List Expr).length + ([] : List Keyword).length + (if ([] : List Keyword).isEmpty then 0 else 1) < 30)) = true := by rfl)
    (hline : (apos.endLine == pos'.line) = true := by rfl) (hs : starEach [e] X.env = (false, eval e X.env) :: starEach [] X.env := by rfl) (hplain : (backTo pos' (starEach [] X.env)).any (·.1) = false := by rfl)
    (hsw : swapsWith (.Call (.Attribute o "append" apos) [e] [] pos') none pos.line X.env = pure false := by rfl) :
    PSD X W (.Expr (.Call (.Attribute o "append" apos) [e] [] pos') pos) (sApp i fe) := by
  refine psW (ps_expr (pe_bm PySem.F.plainAttrs_list PySem.F.slot_list_append PySem.F.type_list_append mt_append ho (pa_cons ha pa_nil hs) hbase hfew hline hs hplain) hsw) fun D σ H h => ?_
  obtain ⟨B, G, fp, ρ, S, h⟩ := h
  obtain ⟨ds, e1, h⟩ := ownL_inv h
  obtain ⟨a, xs, h1, h2, h3, h4, h5, h6⟩ := S.ownL e1
  refine ⟨.ref a, h1, .inl ⟨rfl, xs, SqL.of h3⟩, ?_⟩
  refine tD_iff.mpr ⟨B, G, fp, ρ, S, h.aft S fun d _ h v H' s dv => ?_⟩
  split at h
  · rename_i hl
    have el := h4.length
    have S' := S.mono s
    have h3' := s.keep _ _ h3 rfl
    refine ⟨a, xs, v, rfl, rfl, h3', lineLt (by omega), ?_⟩
    have evo : Evo (Ow G fp) H' (Ow G fp) (upd H' a (.lst (xs ++ [v]))) := Evo.chg (.inr ⟨i, h2⟩) h3' rfl (ntL _)
    obtain ⟨S2, ev⟩ := S'.chg (o := .lst (xs ++ [v])) (c0 := .ow (.list (ds ++ [d]))) h2 h6 h1 h3' rfl (ntL _) ⟨a, rfl, h2, _, upd_same, DOs.evo evo _ _ ((h4.same s).append (.cons dv .nil)), by simp; omega⟩
    exact h σ _ fp S2 ((Evo.same s).trans ev)
  · exact h.elim
theorem psd_ext {i : Nat} (ho : PE X o (tVar i)) (ha : PL X W e fl)
    (hbase : attributeBase o "extend" X.env (eval o X.env) = eval o X.env := by rfl)
    (hfew : ((backTo pos' (starEach [e] X.env)).all (fun x => !x.1) && (backToKw pos' (keywordEach [] X.env)).all (fun x => x.1.isSome)
      && decide (([e] : List Expr).length + ([] : List Keyword).length + (if ([] : List Keyword).isEmpty then 0 else 1) < 30)) = true := by rfl)
    (hline : (apos.endLine == pos'.line) = true := by rfl) (hs : starEach [e] X.env = (false, eval e X.env) :: starEach [] X.env := by rfl) (hplain : (backTo pos' (starEach [] X.env)).any (·.1) = false := by rfl)
    (hsw : swapsWith (.Call (.Attribute o "extend" apos) [e] [] pos') none pos.line X.env = pure false := by rfl) :
    PSD X W (.Expr (.Call (.Attribute o "extend" apos) [e] [] pos') pos) (sExt i fl) := by
  refine psW (ps_expr (pe_bm PySem.F.plainAttrs_list PySem.F.slot_list_extend PySem.F.type_list_extend mt_extR ho (pa_cons ha pa_nil hs) hbase hfew hline hs hplain) hsw) fun D σ H h => ?_
  obtain ⟨B, G, fp, ρ, S, h⟩ := h
  obtain ⟨ds, e1, h⟩ := ownL_inv h
  obtain ⟨a, xs, h1, h2, h3, h4, h5, h6⟩ := S.ownL e1
  refine ⟨.ref a, h1, .inl ⟨rfl, xs, SqL.of h3⟩, ?_⟩
  unfold tCons tNil
  refine tL_iff.mpr ⟨B, G, fp, ρ, S, h.aft S fun es _ h p ys H' s rp dp hp => ?_⟩
  split at h
  · rename_i hl
    have el := h4.length
    have el2 := dp.length
    have S' := S.mono s
    have h3' := s.keep _ _ h3 rfl
    refine ⟨a, p, xs, ys, rfl, rfl, h3', rp, lineLe (by omega), ?_⟩
    have evo : Evo (Ow G fp) H' (Ow G fp) (upd H' a (.lst (xs ++ ys))) := Evo.chg (.inr ⟨i, h2⟩) h3' rfl (ntL _)
    obtain ⟨S2, ev⟩ := S'.chg (o := .lst (xs ++ ys)) (c0 := .ow (.list (ds ++ es))) h2 h6 h1 h3' rfl (ntL _) ⟨a, rfl, h2, _, upd_same, DOs.evo evo _ _ ((h4.same s).append dp), by simp; omega⟩
    exact h σ _ fp S2 ((Evo.same s).trans ev)
  · exact h.elim
/-- x.pop(), its value stored in slot j -/
theorem psd_pop {i j : Nat} {y : Str} {pos'' : Pos} (ho : PE X o (tVar i)) (hN : X.N.Nodup) (hi : X.N[j]? = some y) (hx : Loc X.env.scope y)
    (hbase : attributeBase o "pop" X.env (eval o X.env) = eval o X.env := by rfl) (hline : (apos.endLine == pos'.line) = true := by rfl)
    (hs : swapsWith (.Call (.Attribute o "pop" apos) [] [] pos') (some (.Name y pos'')) pos.line X.env = pure false := by rfl) (hf : X.fn y = true ∨ X.env.scope.names.lookup y = some .local := by first | exact .inl rfl | exact .inr rfl | assumption) :
    PSD X W (.Assign [.Name y pos''] (.Call (.Attribute o "pop" apos) [] [] pos') pos) (sPop i j) := by
  refine psW (ps_set hN hi hx (pe_bm0 PySem.F.plainAttrs_list PySem.F.slot_list_pop PySem.F.type_list_pop mt_pop ho hbase hline) hs hf) fun D σ H h => ?_
  obtain ⟨B, G, fp, ρ, S, h⟩ := h
  obtain ⟨ds, e1, h⟩ := ownL_inv h
  obtain ⟨a, xs, h1, h2, h3, h4, h5, h6⟩ := S.ownL e1
  refine ⟨.ref a, h1, .inl ⟨rfl, xs, SqL.of h3⟩, ?_⟩
  have el := h4.length
  split at h
  · rename_i d hd
    split at h
    · exact h.elim
    · rename_i hij
      obtain ⟨v, hv, dv⟩ := h4.get hd
      have h3' := h3
      refine ⟨a, xs, v, rfl, rfl, h3, by rw [el]; exact hv, ?_⟩
      have evo : Evo (Ow G fp) H (Ow G fp) (upd H a (.lst xs.dropLast)) := Evo.chg (.inr ⟨i, h2⟩) h3' rfl (ntL _)
      have hdl : DOs X.K (Ow G fp) H xs.dropLast ds.dropLast := by
        rw [List.dropLast_eq_take, List.dropLast_eq_take, el]
        exact h4.take _
      obtain ⟨S2, ev⟩ := S.chg (o := .lst xs.dropLast) (c0 := .ow (.list ds.dropLast)) h2 h6 h1 h3' rfl (ntL _) ⟨a, rfl, h2, _, upd_same, DOs.evo evo _ _ hdl, by simp; omega⟩
      exact h _ _ fp (S2.set j (DO.evo evo _ _ dv)) ev
  · exact h.elim
end
/-! ### loops -/
def forGo (b : PyData → Ro → Option Ro) (body : Ro → Fl) : Ro → List PyData → Fl
  | ρ, [] => .nx ρ
  | ρ, d :: ds => match b d ρ with
    | none => .no
    | some ρ1 => match body ρ1 with
      | .nx ρ2 => forGo b body ρ2 ds
      | .ct ρ2 => forGo b body ρ2 ds
      | .bk ρ2 => .nx ρ2
      | r => r
def sFor (fi : Ro → R (List PyData)) (b : PyData → Ro → Option Ro) (body : Ro → Fl) : Ro → Fl := fun ρ => Fl.of ρ (fi ρ) fun ds => forGo b body ρ ds
def whileGo (c : Ro → R Bool) (body : Ro → Fl) : Nat → Ro → Fl
  | 0, _ => .no
  | n + 1, ρ => Fl.of ρ (c ρ) fun t => if t then match body ρ with
      | .nx ρ2 => whileGo c body n ρ2
      | .ct ρ2 => whileGo c body n ρ2
      | .bk ρ2 => .nx ρ2
      | r => r
    else .nx ρ
section
variable {X : Cx} {W : WX} {tg iter : Expr} {body : List Stmt} {fi : Ro → R (List PyData)} {b : PyData → Ro → Option Ro} {fb : Ro → Fl} {ix : List Nat} {pos : Pos}
theorem psd_for (hp : PassesOwn (model X.prog X.w) X.A X.env X.xe) (hc : X.calm = true) (hi : PIs X W tg iter fi) (hg : PGd X tg ix b) (hb : PSDs X W body fb)
    (hs : ∀ x, foldedSetIterable iter X.env x = pure x := by intro _; rfl) : PSD X W (.For tg iter body [] pos) (sFor fi b fb) := by
  refine psW (ps_for hp hc hi hg hb hs) fun D σ H h => ?_
  obtain ⟨B, G, fp, ρ, S, h⟩ := h
  refine ⟨B, G, fp, ρ, S, h.aft S fun ds _ h J H1 s1 it => ?_⟩
  refine ⟨fun i m σc Hc => m = ds.length - i ∧ i ≤ ds.length ∧ ∃ fpc ρc, SR X.K B G fpc σc Hc ρc ∧ Evo (Ow G fp) H1 (Ow G fpc) Hc ∧ SEnd X.K X.mg W B G (Ow G fpc) Hc D (forGo b fb ρc (ds.drop i)),
    ⟨ds.length, by simp, Nat.zero_le _, fp, ρ, S.mono s1, Evo.refl _ _, SEnd.later (Evo.same s1) (by simpa using h)⟩, ?_⟩
  rintro i m σc Hc ⟨rfl, hi, fpc, ρc, Sc, ev, hgo⟩
  obtain ⟨itGo, itStop⟩ := it _ Hc ev Sc.trk
  by_cases hlt : i < ds.length
  · right
    obtain ⟨d, hd⟩ : ∃ d, ds[i]? = some d := ⟨ds[i], by simp [hlt]⟩
    obtain ⟨hgo1, hyld⟩ := itGo i d hd
    have hdrop : ds.drop i = d :: ds.drop (i + 1) := by
      obtain ⟨h1, h2⟩ := List.getElem?_eq_some_iff.mp hd
      rw [← h2]
      exact List.drop_eq_getElem_cons h1
    rw [hdrop] at hgo
    unfold forGo at hgo
    refine ⟨hgo1, _, fun σ' H' hN => ⟨ds.length - (i + 1), by omega, hN⟩, fun x H' hy => ?_⟩
    obtain ⟨s2, dx⟩ := hyld x H' hy
    cases hb1 : b d ρc with
    | none => rw [hb1] at hgo; exact hgo.elim
    | some ρ1 =>
      rw [hb1] at hgo
      dsimp only at hgo
      refine ⟨B, G, fpc, ρc, d, ρ1, Sc.mono s2, dx, hb1, fun σ2 S2 _ => ⟨B, G, fpc, ρ1, S2, ?_⟩⟩
      have ev2 : Evo (Ow G fpc) Hc (Ow G fpc) H' := Evo.same s2
      cases hf : fb ρ1 with
      | nx ρ2 => rw [hf] at hgo; exact fun σ3 H3 fp3 S3 e3 => ⟨rfl, hlt, fp3, ρ2, S3, (ev.trans ev2).trans e3, SEnd.later (ev2.trans e3) hgo⟩
      | ct ρ2 => rw [hf] at hgo; exact fun σ3 H3 fp3 S3 e3 => ⟨rfl, hlt, fp3, ρ2, S3, (ev.trans ev2).trans e3, SEnd.later (ev2.trans e3) hgo⟩
      | bk ρ2 => rw [hf] at hgo; exact fun σ3 H3 fp3 S3 e3 => hgo σ3 H3 fp3 S3 (ev2.trans e3)
      | rt d => rw [hf] at hgo; exact hgo
      | ex x ρ2 => rw [hf] at hgo; exact fun cls dd σ3 H3 fp3 S3 e3 => hgo cls dd σ3 H3 fp3 S3 (ev2.trans e3)
      | no => rw [hf] at hgo; exact hgo
  · left
    have ei : i = ds.length := by omega
    subst ei
    rw [List.drop_length] at hgo
    exact ⟨itStop, hgo σc Hc fpc Sc (Evo.refl _ _)⟩
theorem psd_while {c : Expr} {fc : Ro → R Bool} (n : Nat) (hp : PassesOwn (model X.prog X.w) X.A X.env X.xe) (hc : PB X W c fc) (hb : PSDs X W body fb) : PSD X W (.While c body [] pos) (whileGo fc fb n) := by
  refine psW (ps_while hp hc hb) fun D σ H h => ?_
  obtain ⟨B, G, fp, ρ, S, h⟩ := h
  refine ⟨fun m σc Hc => ∃ fpc ρc, SR X.K B G fpc σc Hc ρc ∧ SEnd X.K X.mg W B G (Ow G fpc) Hc D (whileGo fc fb m ρc), ⟨n, fp, ρ, S, h⟩, ?_⟩
  rintro m σc Hc ⟨fpc, ρc, Sc, hgo⟩
  cases m with
  | zero => exact hgo.elim
  | succ m =>
    unfold whileGo at hgo
    refine ⟨B, G, fpc, ρc, Sc, hgo.aft Sc fun t _ hgo H1 s1 => ?_⟩
    cases t with
    | false =>
      rw [if_neg Bool.false_ne_true]
      exact hgo σc H1 fpc (Sc.mono s1) (Evo.same s1)
    | true =>
      rw [if_pos rfl]
      rw [if_pos rfl] at hgo
      refine ⟨_, fun σ' H' hN => ⟨m, by omega, hN⟩, B, G, fpc, ρc, Sc.mono s1, ?_⟩
      have ev2 : Evo (Ow G fpc) Hc (Ow G fpc) H1 := Evo.same s1
      cases hf : fb ρc with
      | nx ρ2 => rw [hf] at hgo; exact fun σ3 H3 fp3 S3 e3 => ⟨fp3, ρ2, S3, SEnd.later (ev2.trans e3) hgo⟩
      | ct ρ2 => rw [hf] at hgo; exact fun σ3 H3 fp3 S3 e3 => ⟨fp3, ρ2, S3, SEnd.later (ev2.trans e3) hgo⟩
      | bk ρ2 => rw [hf] at hgo; exact fun σ3 H3 fp3 S3 e3 => hgo σ3 H3 fp3 S3 (ev2.trans e3)
      | rt d => rw [hf] at hgo; exact hgo
      | ex x ρ2 => rw [hf] at hgo; exact fun cls dd σ3 H3 fp3 S3 e3 => hgo cls dd σ3 H3 fp3 S3 (ev2.trans e3)
      | no => rw [hf] at hgo; exact hgo
end
/-! ### raise -/
section
variable {X : Cx} {W : WX} {pos p p2 pos2 : Pos} {x m : Str} {j : Nat} {C : Addr}
theorem psd_raise (hc : X.calm = true) (tk : L2N.Takes X W) (q : PySem.W.excIn X.K C He.veBase "ValueError.__new__" = true) (gC : X.mg x = some (.ref C)) (kC : PySem.W.keepIn X.K (.ref C) = true) (hb : PySem.W.subIn X.K (.ref C) (.type "BaseException") = some true) (ht : PySem.W.typeIn X.K (.ref C) = some (.type "type"))
    (hg : Gl X x) (hdb : (x == ("__debug__" : Str)) = false := by decide) : PSD X W (.Raise (some (.Call (.Name x p) [.Constant (.str m) j p2] [] pos)) none pos2) (fun ρ => .ex ⟨x, none⟩ ρ) :=
  psW (L2N.ps_raise hc tk (L2N.pmk_own PySem.F.excBase_ValueError q gC kC (raises_own hb ht) hg hdb)) fun D σ H ⟨B, G, fp, ρ, S, h⟩ => h (.ref C) none σ H fp S (Evo.refl _ _) ⟨gC, rfl⟩
end
/-! ### defs -/
def spD (K : PySem.W.Frag) (mg : Str → Option Value) (n : Nat) (F : List PyData → R PyData) : Sp := fun vs H Q E => vs.length = n ∧ ∃ G ds, (∀ a, G a → ∃ o, H a = some o) ∧ DOs K G H vs ds ∧ match F ds with
  | .ok d => ∀ v H', Same H H' → DO K G H' v d → Q v H'
  | .ex x => ∀ cls dd H', Same H H' → XR K mg G H' x cls dd → E cls dd H'
  | .no => False
def startR (n : Nat) (ds : List PyData) : Ro := ds.map (fun d => some (.fz d)) ++ List.replicate (n - ds.length) none
def runD (n : Nat) (f : Ro → Fl) (ds : List PyData) : R PyData := match f (startR n ds) with
  | .rt d => .ok d
  | .nx _ => .ok .none
  | .ex x _ => .ex x
  | _ => .no
theorem SR.start {K : PySem.W.Frag} {G : Addr → Prop} {H : Hp} {N : List Str} {vs : List V} {ds : List PyData} (hG : ∀ a, G a → ∃ o, H a = some o) (h : DOs K G H vs ds) : SR K H G (fun _ => []) (L2.start N vs) H (startR N.length ds) := by
  have hl := h.length
  refine ⟨by simp [L2.start, startR, hl], Same.refl H, hG, fun i a ha => by simp at ha, fun i a ha => by simp at ha, fun i a ha => by simp at ha, fun i j a ha => by simp at ha, fun i c e => ?_⟩
  unfold startR at e
  have hi : i < ds.length := by
    by_cases hi : i < ds.length
    · exact hi
    · rw [List.getElem?_append_right (by simpa using hi), List.getElem?_replicate] at e
      split at e <;> cases e
  rw [List.getElem?_append_left (by simpa using hi), List.getElem?_map] at e
  obtain ⟨d, e1, e2⟩ := Option.map_eq_some_iff.mp e
  cases e2
  obtain ⟨v, h1, h2⟩ := h.get e1
  refine ⟨v, ?_, h2.less fun a ha => ?_⟩
  · unfold L2.start
    rw [List.getElem?_append_left (by rw [List.length_map, hl]; exact hi), List.getElem?_map, h1]
    rfl
  · rcases ha with ha | ⟨i, ha⟩
    · exact ha
    · simp at ha
/-- a def as the head tells it -/
abbrev FnP (K : PySem.W.Frag) (x : Str) (st : Stmt) (f : Addr) (fd : FuncData) : Prop := FunD K x x (defArgs st) (defBody st) (defScope st) [] [] f fd
/-- what callers need of a def -/
structure FnD (P : Program) (w : World) (K : PySem.W.Frag) (mg : Str → Option Value) (base : Heap) (k : Nat) (x : Str) (n : Nat) (F : List PyData → R PyData) : Prop where
  ex : ∃ f fd ps, mg x = some (.ref f) ∧ PySem.W.keepIn K (.ref f) = true ∧ Binds K fd ps [] ∧ FnOk P w K mg base (L2N.CX P w) k f fd ps (spD K mg n F)
theorem FnD.mono {P : Program} {w : World} {K : PySem.W.Frag} {mg : Str → Option Value} {base : Heap} {k k' : Nat} {x : Str} {n : Nat} {F : List PyData → R PyData} (h : FnD P w K mg base k x n F) (l : k ≤ k') : FnD P w K mg base k' x n F := by
  obtain ⟨f, fd, ps, h1, h2, h3, h4⟩ := h.ex
  exact ⟨f, fd, ps, h1, h2, h3, h4.mono l⟩
/-- another function that says less -/
theorem FnD.imp {P : Program} {w : World} {K : PySem.W.Frag} {mg : Str → Option Value} {base : Heap} {k : Nat} {x : Str} {n : Nat} {F F' : List PyData → R PyData} (h : FnD P w K mg base k x n F) (l : ∀ ds, F' ds ≠ .no → F ds = F' ds) : FnD P w K mg base k x n F' := by
  obtain ⟨f, fd, ps, h1, h2, h3, h4⟩ := h.ex
  refine ⟨f, fd, ps, h1, h2, h3, h4.imp fun vs H Q E q => ?_⟩
  obtain ⟨q1, G, ds, q2, q3, q4⟩ := q
  refine ⟨q1, G, ds, q2, q3, ?_⟩
  have hn : F' ds ≠ .no := fun z => by rw [z] at q4; exact q4
  rw [l ds hn]
  exact q4
def dCallF (n : Nat) (F : List PyData → R PyData) (fa : Ro → R (List PyData)) : Ro → R PyData := fun ρ => (fa ρ).bind fun ds => if ds.length = n then F ds else .no
section
variable {X : Cx} {W : WX} {x : Str} {n k : Nat} {F : List PyData → R PyData} {fa : Ro → R (List PyData)} {p pos : Pos} {e : Expr} {es : List Expr}
theorem pd_call (FD : FnD X.prog X.w X.K X.mg X.base k x n F) (hr : Room k X.A) (tk : L2N.Takes X W) (hg : Gl X x) (ha : PAs X W (e :: es) fa)
    (hdb : (x == ("__debug__" : Str)) = false := by decide) (he : starEach (e :: es) X.env = (false, eval e X.env) :: starEach es X.env := by rfl) (hpl : (backTo pos (starEach es X.env)).any (·.1) = false := by rfl) :
    PD X W (.Call (.Name x p) (e :: es) [] pos) (dCallF n F fa) := by
  obtain ⟨f, fd, ps, h1, h2, h3, h4⟩ := FD.ex
  refine peW (pe_callS (E := WE W) h4 hr hg h1 h2 h3 (fun σ => L2N.passAt tk σ) ha hdb he hpl) fun σ H Q h => ?_
  obtain ⟨B, G, fp, ρ, S, h⟩ := tD_iff.mp h
  refine tAD_iff.mpr ⟨B, G, fp, ρ, S, Aft.bind h fun ds _ h => fun vs H1 s1 d1 => ?_⟩
  split at h
  · rename_i hl
    refine ⟨d1.length.trans hl, Ow G fp, ds, (S.mono s1).trk, d1, ?_⟩
    cases k : F ds with
    | ok d => rw [k] at h; exact fun v H' s' dv => h v H' (s1.trans s') dv
    | ex x => rw [k] at h; exact fun cls dd H' s' xr => h cls dd H' (s1.trans s') xr
    | no => rw [k] at h; exact h
  · exact h.elim
end
theorem tk0 {X : Cx} : L2N.Takes X W0 := fun _ _ x => by
  obtain ⟨_, _, _, _, _, _, _, _, _, _, _, _, _, _, _, _, z⟩ := x
  exact z.elim
theorem hu65 {A : Around} {k : Nat} (hr : Room k A) : A.units + 65 < cLine := by have := hr.un; omega
/-- what a body may use -/
structure Bd (X : Cx) (W : WX) (k : Nat) : Prop where
  hr : Room k X.A
  tk : L2N.Takes X W
  hp : PassesOwn (model X.prog X.w) X.A X.env X.xe
section
variable {P : Program} {w : World} {K : PySem.W.Frag} {mg : Str → Option Value} {base : Heap}
theorem fn_pureX {x : Str} {st : Stmt} {f : Addr} {fd : FuncData} {N ps : List Str} {k : Nat} {fb : Ro → Fl} (F : FnP K x st f fd) (S : FnScope N ps (defScope st))
    (body : ∀ (cdv : Value) (A : Around) (outer : List Env) (s : Shared) (H : Hp) (E : XK), Bd (cxOf (L2N.CX P w) P w K mg base N x (defScope st) f cdv A outer s H E) (fun cls d _ H => E cls d H) k →
      PSDs (cxOf (L2N.CX P w) P w K mg base N x (defScope st) f cdv A outer s H E) (fun cls d _ H => E cls d H) (defBody st) fb) : FnOk P w K mg base (L2N.CX P w) (k + 1) f fd ps (spD K mg ps.length (runD N.length fb)) := by
  refine F.ok S (fun vs H Q E h => h.1) fun cdv A outer s H vs Q E hr h => ?_
  obtain ⟨hl, G, ds, hG, hd, hF⟩ := h
  refine ⟨_, body cdv A outer s H E ⟨hr, L2N.takes_of rfl rfl rfl rfl, passes_of rfl⟩, H, G, fun _ => [], startR N.length ds, SR.start hG hd, ?_⟩
  unfold runD at hF
  have gl : ∀ {fp' : Nat → List Addr} (a : Addr), G a → Ow G fp' a := fun a ha => .inl ha
  cases e : fb (startR N.length ds) with
  | nx ρ => rw [e] at hF; exact fun σ' H' fp' S' _ => hF .non H' S'.same .non
  | bk ρ => rw [e] at hF; exact hF.elim
  | ct ρ => rw [e] at hF; exact hF.elim
  | rt d => rw [e] at hF; exact fun v H' s' dv => hF v H' s' dv
  | ex x ρ =>
    rw [e] at hF
    refine fun cls dd σ' H' fp' S' _ xr => hF cls dd H' S'.same ⟨xr.1, ?_⟩
    obtain ⟨c, arg⟩ := x
    cases arg with
    | none => exact xr.2
    | some d => obtain ⟨a, v, q1, q2, q3⟩ := xr.2; exact ⟨a, v, q1, q2, q3.less gl⟩
  | no => rw [e] at hF; exact hF.elim
theorem fn_pure {x : Str} {st : Stmt} {f : Addr} {fd : FuncData} {N ps : List Str} {k : Nat} {fb : Ro → Fl} (F : FnP K x st f fd) (S : FnScope N ps (defScope st)) (gm : mg x = some (.ref f)) (hb : Binds K fd ps [])
    (body : ∀ (cdv : Value) (A : Around) (outer : List Env) (s : Shared) (H : Hp) (E : XK), Bd (cxOf (L2N.CX P w) P w K mg base N x (defScope st) f cdv A outer s H E) (fun cls d _ H => E cls d H) k →
      PSDs (cxOf (L2N.CX P w) P w K mg base N x (defScope st) f cdv A outer s H E) (fun cls d _ H => E cls d H) (defBody st) fb) : FnD P w K mg base (k + 1) x ps.length (runD N.length fb) := ⟨f, fd, ps, gm, F.kp, hb, fn_pureX F S body⟩
end
def negD : PyData → Option PyData
  | .int i => some (.int (-i))
  | _ => none
theorem uo_neg {K : PySem.W.Frag} : UnOk K (rU fun i => .int (-i)) negD := by
  intro O H x d z Q ht hx h q
  cases hx <;> first | (cases h; done) | skip
  · cases h; exact ⟨_, rfl, q _ H (Same.refl H) (.int _)⟩
/-! ### x = [..] -/
section
variable {X : Cx} {W : WX} {elt tg iter : Expr} {ifs : List Expr} {scope : Scope} {own : List (Str × Nat)} {pos spos py : Pos} {fi : Ro → R (List PyData)} {b : PyData → Ro → Option Ro} {ft : Ro → R Bool} {fe : Ro → R PyData} {ix vs : List Nat} {i : Nat} {y : Str}
theorem tSD_asgF {K : PySem.W.Frag} {mg : Str → Option Value} {fl : Ro → R (List PyData)} {D : Ends} {σ : St} {H : Hp} (h : tSD K mg W (sAsg (dAsL fl) (bName i)) D σ H) : tAsg (tFr K mg W fl) (gName i) D σ H := by
  obtain ⟨B, G, fp, ρ, S, h⟩ := h
  refine tFr_iff.mpr ⟨B, G, fp, ρ, S, ?_⟩
  unfold sAsg dAsL at h
  cases k : fl ρ with
  | no => rw [k] at h; exact h
  | ex x => rw [k] at h; exact fun cls dd H' s x => h cls dd σ H' fp (S.mono s) (Evo.same s) x
  | ok ds =>
    rw [k] at h
    exact fun p xs H' hp s hx d hl => h _ H' fp ((S.mono s).set i (.lst ⟨.inl hx, S.new hp⟩ (d.less fun a ha => .inl ha) hl)) (Evo.same s)
theorem psd_setLc (hc : X.calm = true) (hN : X.N.Nodup) (hy : X.N[i]? = some y) (hyl : X.env.scope.names.lookup y = some .local)
    (hsw : swapsWith (.ListComp elt [⟨tg, iter, ifs, 0⟩] scope pos) (some (.Name y py)) spos.line X.env = pure true) (hi : PIc X W tg iter fi) (ok : BlkOk X.N X.env.scope scope own)
    (hg : ∀ (s : Shared) (H : Hp) (C : Addr) (cl : List (Str × Addr)) (fp : List Addr), PGd (X.blk s H scope (compEnvC scope cl C X.env) fp) tg ix b) (hix : ∀ i ∈ ix, i ∈ vs)
    (ht : ∀ (s : Shared) (H : Hp) (C : Addr) (cl : List (Str × Addr)) (fp : List Addr), PTs (X.blk s H scope (compEnvC scope cl C X.env) fp) ifs (tBD X.K X.mg W0 ft))
    (he : ∀ (s : Shared) (H : Hp) (C : Addr) (cl : List (Str × Addr)) (fp : List Addr), PD (X.blk s H scope (compEnvC scope cl C X.env) fp) W0 elt fe) (hs : ∀ x, foldedSetIterable iter X.env x = pure x := by intro _; rfl) (hv : own.map (·.2) = vs := by rfl) :
    PSD X W (.Assign [.Name y py] (.ListComp elt [⟨tg, iter, ifs, 0⟩] scope pos) spos) (sAsg (dAsL (dLc fi b ft fe vs)) (bName i)) := by
  subst hv
  exact psW (ps_setLc hc hN hy hyl hsw hi ok hg ht he hs) fun _ _ _ h => tFr_lc hix (tSD_asgF h)
theorem psd_setLcL (hc : X.calm = true) (hN : X.N.Nodup) (hy : X.N[i]? = some y) (hyl : X.env.scope.names.lookup y = some .local)
    (hsw : swapsWith (.ListComp elt [⟨tg, iter, ifs, 0⟩] scope pos) (some (.Name y py)) spos.line X.env = pure true) (hi : PIc X W tg iter fi) (ok : BlkOk X.N X.env.scope scope own)
    (hg : ∀ (s : Shared) (H : Hp) (C : Addr) (cl : List (Str × Addr)) (fp : List Addr), PGd (X.blk s H scope (compEnvC scope cl C X.env) fp) tg ix b) (hix : ∀ i ∈ ix, i ∈ vs)
    (ht : ∀ (s : Shared) (H : Hp) (C : Addr) (cl : List (Str × Addr)) (fp : List Addr), PTs (X.blk s H scope (compEnvC scope cl C X.env) fp) ifs (tBD X.K X.mg W0 ft))
    (he : ∀ (s : Shared) (H : Hp) (C : Addr) (cl : List (Str × Addr)) (fp : List Addr), PD (X.blk s H scope (compEnvC scope cl C X.env) fp) W0 elt fe) (hs : ∀ x, foldedSetIterable iter X.env x = pure x := by intro _; rfl) (hv : own.map (·.2) = vs := by rfl) :
    PSD X W (.Assign [.Name y py] (.ListComp elt [⟨tg, iter, ifs, 0⟩] scope pos) spos) (sAsgL i (dLc fi b ft fe vs)) := by
  subst hv
  exact psW (ps_setLc hc hN hy hyl hsw hi ok hg ht he hs) fun _ _ _ h => tFr_lc hix (tSD_asgL h)
end
/-! ### an owned list compared, asked -/
section
variable {X : Cx} {W : WX} {a b : Expr} {f : Ro → R (List PyData)} {f' : Ro → R PyData} {pos : Pos}
def dBinL (g : PyData → PyData → Option PyData) (f : Ro → R (List PyData)) (f' : Ro → R PyData) : Ro → R PyData := fun ρ => (f ρ).bind fun xs => (f' ρ).bind fun y => R.of (g (.list xs) y)
def dBinR (g : PyData → PyData → Option PyData) (f' : Ro → R PyData) (f : Ro → R (List PyData)) : Ro → R PyData := fun ρ => (f' ρ).bind fun y => (f ρ).bind fun xs => R.of (g y (.list xs))
/-- an operation that only reads its operands and tells a flat thing -/
def ReadOk (K : PySem.W.Frag) (r : R2) (g : PyData → PyData → Option PyData) : Prop := ∀ (H : Hp) (x y : V) (d e z : PyData) (Q : VK), DO K (fun _ => False) H x d → DO K (fun _ => False) H y e → g d e = some z → ∃ v, flatD v z ∧ (Q v H → r x y H Q)
theorem ro_of {K : PySem.W.Frag} {r : R2} {g : PyData → PyData → Option PyData} (h : ReadOk K r g) {σ : St} {H : Hp} {mg : Str → Option Value} {Q : VK} (q : tD K mg W (dBinL g f f') σ H Q) : tOp r (tL K mg W f) (tD K mg W f') σ H Q := by
  obtain ⟨B, G, fp, ρ, S, q⟩ := tD_iff.mp q
  unfold tOp
  refine tL_iff.mpr ⟨B, G, fp, ρ, S, Aft.bind q fun ds _ q => fun p xs H1 s1 r1 d1 hz => ?_⟩
  refine tD_iff.mpr ⟨B, G, fp, ρ, S.mono s1, Aft.later s1 (Aft.bind q fun d' e2 q => fun v' H2 s2 d2 => ?_)⟩
  obtain ⟨z, e3, q⟩ := q.of_some
  obtain ⟨v, fv, k⟩ := h H2 (.ref p) v' (.list ds) d' z Q (.lst ⟨rd_same s2 r1, fun z => z⟩ ((d1.same s2).less fun _ z => z.elim) hz) (d2.less fun _ z => z.elim) e3
  exact k (q v H2 (s1.trans s2) (fv.DO _ _ _))
theorem ro_ofR {K : PySem.W.Frag} {r : R2} {g : PyData → PyData → Option PyData} (h : ReadOk K r g) {σ : St} {H : Hp} {mg : Str → Option Value} {Q : VK} (q : tD K mg W (dBinR g f' f) σ H Q) : tOp r (tD K mg W f') (tL K mg W f) σ H Q := by
  obtain ⟨B, G, fp, ρ, S, q⟩ := tD_iff.mp q
  unfold tOp
  refine tD_iff.mpr ⟨B, G, fp, ρ, S, Aft.bind q fun d' _ q => fun v' H1 s1 d2 => ?_⟩
  refine tL_iff.mpr ⟨B, G, fp, ρ, S.mono s1, Aft.later s1 (Aft.bind q fun ds e2 q => fun p xs H2 s2 r1 d1 hz => ?_)⟩
  obtain ⟨z, e3, q⟩ := q.of_some
  obtain ⟨v, fv, k⟩ := h H2 v' (.ref p) d' (.list ds) z Q ((d2.same s2).less fun _ z => z.elim) (.lst ⟨r1, fun z => z⟩ (d1.less fun _ z => z.elim) hz) e3
  exact k (q v H2 (s1.trans s2) (fv.DO _ _ _))
theorem ro_eq {K : PySem.W.Frag} : ReadOk K (rEqD K) eqD := by
  intro H x y d e z Q hx hy h
  unfold eqD at h
  split at h
  · rename_i k
    obtain ⟨k1, k2⟩ := Bool.and_eq_true_iff.mp k
    obtain ⟨a1, a2⟩ := okd_shaped hx k1
    obtain ⟨b1, b2⟩ := okd_shaped hy k2
    cases h
    exact ⟨.bl _, rfl, fun q => ⟨d, e, a1, b1, a2, b2, q⟩⟩
  · cases h
theorem ro_ne {K : PySem.W.Frag} : ReadOk K (rNeD K) neD := by
  intro H x y d e z Q hx hy h
  unfold neD at h
  split at h
  · rename_i k
    obtain ⟨k1, k2⟩ := Bool.and_eq_true_iff.mp k
    obtain ⟨a1, a2⟩ := okd_shaped hx k1
    obtain ⟨b1, b2⟩ := okd_shaped hy k2
    cases h
    exact ⟨.bl _, rfl, fun q => ⟨d, e, a1, b1, a2, b2, q⟩⟩
  · cases h
theorem ro_in {K : PySem.W.Frag} : ReadOk K (rInA K) inD := by
  intro H x y d e z Q hx hy h
  obtain ⟨b, rfl⟩ := inD_bool h
  exact ⟨.bl b, rfl, fun q => inA_of hx hy h fun b' e => by cases e; exact q⟩
theorem ro_nin {K : PySem.W.Frag} : ReadOk K (rNinA K) ninD := by
  intro H x y d e z Q hx hy h
  unfold ninD at h
  cases k : inD d e with
  | none => rw [k] at h; cases h
  | some w =>
    obtain ⟨b, rfl⟩ := inD_bool k
    rw [k] at h
    cases h
    exact ⟨.bl (!b), rfl, fun q => ninA_of hx hy k fun b' e => by cases e; exact q⟩
theorem pd_cmpL {op : CmpOp} {r : R2} {g : PyData → PyData → Option PyData} (ho : OpR X (compareOp op) r) (hr : ReadOk X.K r g) (ha : PL X W a f) (hb : PD X W b f') (hm : behindInMarks op b = false := by first | exact nomark _ | rfl) : PD X W (.Compare a [op] [b] pos) (dBinL g f f') :=
  peW (pe_cmpR ho ha hb hm) fun _ _ _ => ro_of hr
theorem pd_cmpRt {op : CmpOp} {r : R2} {g : PyData → PyData → Option PyData} (ho : OpR X (compareOp op) r) (hr : ReadOk X.K r g) (ha : PD X W a f') (hb : PL X W b f) (hm : behindInMarks op b = false := by first | exact nomark _ | rfl) : PD X W (.Compare a [op] [b] pos) (dBinR g f' f) :=
  peW (pe_cmpR ho ha hb hm) fun _ _ _ => ro_ofR hr
theorem test_of {K : PySem.W.Frag} {mg : Str → Option Value} {σ : St} {H : Hp} {f : Ro → R PyData} {Q : Bool → Hp → Prop} (h : tBD K mg W (dTest f) σ H Q) : tD K mg W f σ H fun x H' => ∃ k, x = .bl k ∧ Q k H' := tBD_test h
theorem pb_cmpL {op : CmpOp} {r : R2} {g : PyData → PyData → Option PyData} (ho : OpR X (compareOp op) r) (hr : ReadOk X.K r g) (ha : PL X W a f) (hb : PD X W b f') (hm : behindInMarks op b = false := by first | exact nomark _ | rfl) : PB X W (.Compare a [op] [b] pos) (dTest (dBinL g f f')) :=
  ptW (pt_cmpR ho ha hb hm) fun _ _ _ h => ro_of hr (test_of h)
theorem pb_cmpRt {op : CmpOp} {r : R2} {g : PyData → PyData → Option PyData} (ho : OpR X (compareOp op) r) (hr : ReadOk X.K r g) (ha : PD X W a f') (hb : PL X W b f) (hm : behindInMarks op b = false := by first | exact nomark _ | rfl) : PB X W (.Compare a [op] [b] pos) (dTest (dBinR g f' f)) :=
  ptW (pt_cmpR ho ha hb hm) fun _ _ _ h => ro_ofR hr (test_of h)
end
end Pu

namespace Pu
open PySem PySem.Spec PyProof.Rows L2
variable [MemoSpec]
/-! ### the law's end -/
theorem sq_rd {K : PySem.W.Frag} (nl : (K.all fun q => !(q.2.cls == Value.type "list")) = true) {H : Hp} {a : Addr} {xs : List V} (h : SqL K H a xs) : Rd H a (.lst xs) := by
  rcases h with h | ⟨o, its, n, h1, h2, _⟩
  · exact h
  · have hq := He.lookup_mem h1
    have := List.all_eq_true.mp nl _ hq
    rw [h2] at this
    simp at this
theorem ints_DO {K : PySem.W.Frag} {O : Addr → Prop} {H : Hp} : ∀ ns : List Int, DOs K O H (ns.map V.int) (ns.map PyData.int)
  | [] => .nil
  | n :: ns => .cons (.int n) (ints_DO ns)
theorem end_law {P : Program} {w : World} {K : PySem.W.Frag} {mg : Str → Option Value} {h : Heap} {fa : Addr} {fd : FuncData} {st : Stmt} {k : Nat} {F : List PyData → R PyData} (hF : ∀ ns : List Int, ns.length ≤ 63 → F [.list (ns.map PyData.int)] = .ok (.bool true))
    (nl : (K.all fun q => !(q.2.cls == Value.type "list")) = true) (FP : FnP K "law" st fa fd)
    (hb : ∀ (kV doc pm : Value) (an : Option Addr) (cdv ct : Value) (us : List Value), us.length = (["script"] : List Str).length → bindArgs (PySem.W.fnOf "law" "law" (defArgs st) (defBody st) (defScope st) .none kV doc pm an cdv ct) ⟨us, []⟩ = pure ((["script"] : List Str).zip us))
    (ok : ∀ base : Heap, FnOk P w K mg base (L2N.CX P w) k fa fd ["script"] (spD K mg 1 F)) (KX : K.In h) :
    ∃ (K : PySem.W.Frag) (fd : FuncData) (sp : Sp), K.In h ∧ (∀ (s : Shared) (u : Value), BindsTo s fd ⟨[u], []⟩ [("script", u)]) ∧
        (∀ (H : Hp) (a : Addr) (ns : List Int), ns.length ≤ 63 → Only H → SqL K H a (ns.map V.int) → sp [.ref a] H (fun v _ => v = .bl true) fun _ _ _ => False) ∧
        ∀ base : Heap, K.In base → base.Ns mainGlobals mg → FnOk P w K mg base (fun _ _ _ _ _ _ => False) k fa fd ["script"] sp := by
  refine ⟨K, fd, fun vs H Q _ => spD K mg 1 F vs H Q (fun _ _ _ => False), KX, fun s u => FunD.bindsA FP hb s [u] rfl, fun H a ns hl _ hS => ?_, fun base _ _ => ⟨fun vs H Q E q => q.1, fun A outer s H args us vs Q E hr e0 hb r hsp => ?_⟩⟩
  · refine ⟨rfl, fun _ => False, [.list (ns.map PyData.int)], fun _ z => z.elim, .cons (.lst ⟨sq_rd nl hS, fun z => z⟩ (ints_DO ns) (by simp; omega)) .nil, ?_⟩
    rw [hF ns hl]
    intro v H' _ d
    cases d
    rfl
  · refine codeAny_mono ((ok base).run A outer s H args us vs Q (fun _ _ _ => False) hr e0 hb r hsp) fun r s' hq => ?_
    cases r with
    | error e => obtain ⟨_, _, _, _, _, _, _, _, _, _, _, _, z⟩ := hq; exact z.elim
    | ok fl => cases fl <;> exact hq
end Pu

namespace Pu
open PySem PySem.Spec PyProof.Rows L2
variable [MemoSpec]
/-! ### methods of built-in types, by data -/
def MtOk (K : PySem.W.Frag) (T : String) (r : V → List V → Hp → VK → Prop) (pre : PyData → Bool) (g : PyData → List PyData → Option PyData) : Prop := ∀ (O : Addr → Prop) (H : Hp) (x : V) (d : PyData), DO K O H x d → pre d = true →
  tyV K T x H ∧ ∀ (H' : Hp) (xs : List V) (ds : List PyData) (z : PyData) (Q : VK), Same H H' → (∀ a, O a → ∃ o, H' a = some o) → DOs K O H' xs ds → g d ds = some z → (∀ v H2, Same H' H2 → DO K O H2 v z → Q v H2) → r x xs H' Q
def dMeth (pre : PyData → Bool) (g : PyData → List PyData → Option PyData) (f : Ro → R PyData) (fa : Ro → R (List PyData)) : Ro → R PyData := fun ρ => (f ρ).bind fun d => if pre d then (fa ρ).bind fun xs => R.of (g d xs) else .no
section
variable {X : Cx} {W : WX} {o e : Expr} {es : List Expr} {f : Ro → R PyData} {fa : Ro → R (List PyData)} {T name id : String} {apos cpos : Pos} {r : V → List V → Hp → VK → Prop} {pre : PyData → Bool} {g : PyData → List PyData → Option PyData}
theorem pd_meth {m : Str} (pa : PlainAttrs T) (slot : Slot T m id) (hty : typeOf (.builtin id) = pure (.type "method_descriptor")) (hm : MtR X id r) (hr : MtOk X.K T r pre g) (ho : PD X W o f) (ha : PAs X W (e :: es) fa)
    (hbase : attributeBase o m X.env (eval o X.env) = eval o X.env := by rfl)
    (hfew : ((backTo cpos (starEach (e :: es) X.env)).all (fun x => !x.1) && (backToKw cpos (keywordEach [] X.env)).all (fun x => x.1.isSome)
      && decide ((e :: es).length + ([] : List Keyword).length + (if ([] : List Keyword).isEmpty then 0 else 1) < 30)) = true := by rfl)
    (hline : (apos.endLine == cpos.line) = true := by rfl) (hs : starEach (e :: es) X.env = (false, eval e X.env) :: starEach es X.env := by rfl) (hplain : (backTo cpos (starEach es X.env)).any (·.1) = false := by rfl) :
    PD X W (.Call (.Attribute o m apos) (e :: es) [] cpos) (dMeth pre g f fa) := by
  refine peW (pe_bm pa slot hty hm ho ha hbase hfew hline hs hplain) fun σ H Q h => ?_
  obtain ⟨B, G, fp, ρ, S, h⟩ := tD_iff.mp h
  refine tD_iff.mpr ⟨B, G, fp, ρ, S, Aft.bind h fun d e1 h => fun v H1 s1 d1 => ?_⟩
  split at h
  · rename_i hp
    obtain ⟨k1, k2⟩ := hr _ H1 v d d1 hp
    refine ⟨k1, tAD_iff.mpr ⟨B, G, fp, ρ, S.mono s1, Aft.later s1 (Aft.bind h fun ds e2 h => fun vs H2 s2 d2 => ?_)⟩⟩
    obtain ⟨z, e3, q⟩ := h.of_some
    exact k2 H2 vs ds z Q s2 ((S.mono s1).mono s2).trk d2 e3 fun u H3 s3 d3 => q u H3 ((s1.trans s2).trans s3) d3
  · exact h.elim
end
/-! ### count, index of flat things -/
section
variable {X : Cx}
def rCntF (K : PySem.W.Frag) : V → List V → Hp → VK → Prop := fun x xs H Q => ∃ (p : Addr) (ys : List V) (y : V), x = .ref p ∧ xs = [y] ∧ SqL K H p ys ∧ flatV y = true ∧ ys.all flatV = true ∧ Q (.int (ys.countP fun z => eqV z y : Nat)) H
theorem countP_eqU {y : V} : ∀ {ys : List V} {us : List Value}, Vals ys us → ys.all flatV = true → us.countP (eqU y) = ys.countP fun z => eqV z y
  | _, _, .nil, _ => rfl
  | z :: ys, u :: us, .cons r t, f => by
    rw [List.all_cons, Bool.and_eq_true] at f
    rw [List.countP_cons, List.countP_cons, countP_eqU t f.2, eqU_of r f.1]
theorem mt_cntF : MtR X "list.count" (rCntF X.K) := by
  intro pins s σ H x xs v us Q I rx rxs h
  obtain ⟨p, ys, y, rfl, rfl, hs, fy, fys, q⟩ := h
  cases rx
  obtain ⟨u, rfl, ru⟩ := rxs.one
  obtain ⟨its, rv, ⟨⟨cls, dd, data, sl⟩, n, ho, hc, hdn, hd⟩, hlen⟩ := I.list hs
  simp only at hc hd
  subst hc hd
  refine call_meets PySem.F.slot_list_count ⟨_, ho, rfl⟩ PySem.F.entry_list_count (PySem.F.args_list_count_2 _ _)
    (SeqAt.list_countAt p its.toArray n dd sl u (eqU y)) ⟨ho, fun u' hu' => mem_eqAt ru fy rv fys u' (by simpa using hu'), ?_⟩
  have ec : its.toArray.toList.countP (eqU y) = ys.countP fun z => eqV z y := by simpa using countP_eqU rv fys
  refine ⟨.int (ys.countP fun z => eqV z y : Nat), H, I.tok _, ⟨s.toks, ?_⟩, q⟩
  rw [ec]
end
def cntD : PyData → List PyData → Option PyData
  | .list ds, [y] => if flatP y && ds.all flatP then some (.int (ds.countP fun z => PyData.eqv z y : Nat)) else none
  | _, _ => none
def idxD : PyData → List PyData → Option PyData
  | .list ds, [y] => if flatP y && ds.all flatP then (ds.findIdx? fun z => PyData.eqv z y).map fun j => .int (j : Nat) else none
  | _, _ => none
theorem cnt_P {K : PySem.W.Frag} {O : Addr → Prop} {H : Hp} {x : PyData} {v : V} (hx : DO K O H v x) (fx : flatP x = true) : ∀ {ds : List PyData} {vs : List V}, DOs K O H vs ds → ds.all flatP = true → (vs.countP fun z => eqV z v) = ds.countP fun z => PyData.eqv z x
  | [], _, h, _ => by cases h; rfl
  | d :: ds, _, h, f => by
    cases h with
    | cons a b =>
      rw [List.all_cons, Bool.and_eq_true] at f
      rw [List.countP_cons, List.countP_cons, cnt_P hx fx b f.2, eqV_P a hx f.1 fx]
theorem mo_cnt {K : PySem.W.Frag} : MtOk K "list" (rCntF K) isLst cntD := by
  intro O H x d hx hp
  cases hx with
  | @lst a xs es s q hz =>
    refine ⟨.inl ⟨rfl, _, s.sq⟩, fun H' ws ds z Q sm ht hd h k => ?_⟩
    match ds, hd, h with
    | [y], .cons (v := w) dy .nil, h =>
      have h' : (if flatP y && es.all flatP then some (PyData.int (es.countP fun z => PyData.eqv z y : Nat)) else none) = some z := h
      split at h'
      · rename_i hf
        obtain ⟨f1, f2⟩ := Bool.and_eq_true_iff.mp hf
        cases h'
        refine ⟨a, xs, w, rfl, rfl, (s.evo (Evo.same sm)).sq, (flatP_V dy).trans f1, (flatPs_V q).trans f2, k _ H' (Same.refl _) ?_⟩
        rw [cnt_P dy f1 (q.same sm) f2]
        exact .int _
      · cases h'
  | non => cases hp
  | bl _ => cases hp
  | int _ => cases hp
  | str _ _ => cases hp
  | tup _ _ _ => cases hp
  | dct _ _ _ => cases hp
  | dcT _ _ _ => cases hp
  | shr _ _ _ _ _ _ => cases hp
theorem mo_idx {K : PySem.W.Frag} : MtOk K "list" (rIndex K) isLst idxD := by
  intro O H x d hx hp
  cases hx with
  | @lst a xs es s q hz =>
    refine ⟨.inl ⟨rfl, _, s.sq⟩, fun H' ws ds z Q sm ht hd h k => ?_⟩
    match ds, hd, h with
    | [y], .cons (v := w) dy .nil, h =>
      have h' : (if flatP y && es.all flatP then (es.findIdx? fun z => PyData.eqv z y).map (fun j => PyData.int (j : Nat)) else none) = some z := h
      split at h'
      · rename_i hf
        obtain ⟨f1, f2⟩ := Bool.and_eq_true_iff.mp hf
        obtain ⟨j, hj, rfl⟩ := Option.map_eq_some_iff.mp h'
        have q' := q.same sm
        obtain ⟨hjl, hjt, hjn⟩ := List.findIdx?_eq_some_iff_getElem.mp hj
        obtain ⟨vz, hvz, dz⟩ := q'.get (show es[j]? = some es[j] from by simp [hjl])
        have fat : ∀ (m : Nat) (hm : m < es.length), flatP es[m] = true := fun m hm => List.all_eq_true.mp f2 _ (List.getElem_mem hm)
        refine ⟨a, xs, w, j, vz, rfl, rfl, (s.evo (Evo.same sm)).sq, (flatP_V dy).trans f1, (flatPs_V q).trans f2, hvz, ?_, fun m z' hm hz' => ?_, k _ H' (Same.refl _) (.int _)⟩
        · rw [eqV_P dz dy (fat j hjl) f1]; exact hjt
        · obtain ⟨dm, hdm, ddm⟩ := q'.getV hz'
          obtain ⟨hml, hme⟩ := List.getElem?_eq_some_iff.mp hdm
          have fm := fat m hml
          rw [hme] at fm
          rw [eqV_P ddm dy fm f1]
          have := hjn m hm
          rw [hme] at this
          simpa using this
      · cases h'
  | non => cases hp
  | bl _ => cases hp
  | int _ => cases hp
  | str _ _ => cases hp
  | tup _ _ _ => cases hp
  | dct _ _ _ => cases hp
  | dcT _ _ _ => cases hp
  | shr _ _ _ _ _ _ => cases hp
/-! ### a dict displayed, its keys written texts -/
def dVals : List (Str × (Ro → R PyData)) → Ro → R (List (PyData × PyData))
  | [], _ => .ok []
  | (k, f) :: r, ρ => (f ρ).bind fun d => (dVals r ρ).bind fun ds => .ok ((.str k, d) :: ds)
def dDict (kfs : List (Str × (Ro → R PyData))) : Ro → R PyData := fun ρ => (dVals kfs ρ).bind fun ds => if (kfs.map (·.1)).Nodup ∧ kfs.length ≤ 15 then .ok (.dict ds) else .no
def trsOf (K : PySem.W.Frag) (mg : Str → Option Value) (W : WX) (kfs : List (Str × (Ro → R PyData))) : List (TE × TE) := kfs.map fun p => (tC (.str p.1), tD K mg W p.2)
theorem mergeK_nodup : ∀ (more kvs : List (Key × V)), (kvs.map (·.1) ++ more.map (·.1)).Nodup → mergeK kvs more = kvs ++ more
  | [], kvs, _ => by simp [mergeK]
  | (k, v) :: more, kvs, h => by
    have hk : valV kvs k = none := by
      unfold valV
      have hn : ¬ k ∈ kvs.map (·.1) := fun hm => by
        rw [List.nodup_append] at h
        exact h.2.2 k hm k (by simp) rfl
      have : kvs.find? (fun kv => decide (kv.1 = k)) = none := by
        rw [List.find?_eq_none]
        intro x hx e
        exact hn (by rw [← of_decide_eq_true e]; exact List.mem_map_of_mem hx)
      first
        | (rw [this]; rfl)
        | simp [this]
    have e : mergeK kvs ((k, v) :: more) = mergeK (putK kvs k v) more := rfl
    rw [e, putK_new v hk, mergeK_nodup more (kvs ++ [(k, v)]) (by simpa [List.append_assoc] using h)]
    simp
theorem pairs_run {K : PySem.W.Frag} {mg : Str → Option Value} {W : WX} {B : Hp} {G : Addr → Prop} {fp : Nat → List Addr} {ρ : Ro} {σ : St} : ∀ (kfs : List (Str × (Ro → R PyData))) {H : Hp} {Q : List (V × V) → Hp → Prop}, SR K B G fp σ H ρ →
    Aft K mg W (Ow G fp) σ H (fun ds => ∀ (kvs : List (Key × V)) H', Same H H' → kvs.map (·.1) = kfs.map (fun p => Sum.inr p.1) → DKs K (Ow G fp) H' kvs ds → Q (kvs.map fun kv => (kV kv.1, kv.2)) H') (dVals kfs ρ) → tPairs (trsOf K mg W kfs) σ H Q
  | [], H, Q, S, h => h [] H (Same.refl H) rfl .nil
  | (k, f) :: r, H, Q, S, h => by
    show tD K mg W f σ H _
    refine tD_iff.mpr ⟨B, G, fp, ρ, S, Aft.bind h fun d _ h => fun v H1 s1 d1 => ?_⟩
    refine pairs_run r (S.mono s1) (Aft.later s1 (Aft.bind h fun ds _ h => fun kvs H2 s2 hk hd => ?_))
    exact h ((Sum.inr k, v) :: kvs) H2 (s1.trans s2) (by simp [hk]) (.cons (k := Sum.inr k) (d1.same s2) hd)
theorem DKs.evo' {K : PySem.W.Frag} {O O' : Addr → Prop} {H H' : Hp} {ds : List (PyData × PyData)} {vs : List (Key × V)} (h : DKs K O H vs ds) (e : Evo O H O' H') : DKs K O' H' vs ds := DKs.evo e ds vs h
section
variable {X : Cx} {W : WX} {pos : Pos} {keys : List (Option Expr)} {values : List Expr} {kfs : List (Str × (Ro → R PyData))}
theorem pd_dict (h : PPs X pos keys values (trsOf X.K X.mg W kfs)) (hall : keys.all (·.isSome) = true := by rfl) (hl : keys.length = values.length := by rfl) (h0 : keys ≠ [] := by intro h; cases h) (h15 : keys.length ≤ 15 := by decide) : PD X W (.Dict keys values pos) (dDict kfs) := by
  refine peW (pe_disp h hall hl h0 h15) fun σ H Q h => ?_
  obtain ⟨B, G, fp, ρ, S, h⟩ := tD_iff.mp h
  intro p hp
  have Sg := S.guard (o := .dK []) hp
  refine pairs_run kfs Sg ?_
  unfold dDict at h
  cases e : dVals kfs ρ with
  | no => rw [e] at h; exact h
  | ex x =>
    rw [e] at h
    refine fun cls dd H' s xr => h cls dd H' ((same_new hp).trans s) ⟨xr.1, ?_⟩
    obtain ⟨c, arg⟩ := x
    cases arg with
    | none => exact xr.2
    | some d => obtain ⟨a, v, q1, q2, q3⟩ := xr.2; exact ⟨a, v, q1, q2, q3.less fun a ha => ha.elim (fun z => .inl (.inl z)) .inr⟩
  | ok ds =>
    rw [e] at h
    intro kvs H' s hk hd
    dsimp only [R.bind] at h
    split at h
    · rename_i hn
      have hlen : kvs.length = kfs.length := by
        have := congrArg List.length hk
        simpa using this
      have hs0 := s.keep _ _ (upd_same (H := H) (a := p) (o := .dK [])) rfl
      refine ⟨hs0, kvs, rfl, by omega, ?_⟩
      have nd : (([] : List (Key × V)).map (·.1) ++ kvs.map (·.1)).Nodup := by
        simp only [List.map_nil, List.nil_append]
        rw [hk]
        have : (kfs.map fun p => (Sum.inr p.1 : Key)) = (kfs.map (·.1)).map Sum.inr := by simp
        rw [this]
        exact List.Pairwise.map _ (fun a b hab e => hab (Sum.inr.inj e)) hn.1
      rw [mergeK_nodup kvs [] nd, List.nil_append]
      have npH : H p = none := hp
      have sm : Same H (upd H' p (.dK kvs)) := ((same_new hp).trans s).upd hp hs0 rfl (ntK _)
      refine h _ _ sm (.dct upd_same (S.new hp) (hd.evo' ⟨fun a ha => .inl (ha.elim (fun z => .inl (.inl z)) .inr), fun b u hb n _ => ?_, dom_upd, fun K' a bk cs m => m.upd hs0 rfl (ntK _), tup_upd hs0 (ntK _)⟩))
      have nb : b ≠ p := fun z => n (.inl (.inr z))
      rw [upd_ne nb]; exact hb
    · exact h.elim
theorem ppd_nil : PPs X pos [] [] (trsOf X.K X.mg W []) := pps_nil
theorem ppd_cons {k : Str} {j : Nat} {p : Pos} {v : Expr} {f : Ro → R PyData} {ks : List (Option Expr)} {vs : List Expr} (hv : PD X W v f) (hr : PPs X pos ks vs (trsOf X.K X.mg W kfs)) : PPs X pos (some (.Constant (.str k) j p) :: ks) (v :: vs) (trsOf X.K X.mg W ((k, f) :: kfs)) := pps_cons pe_str hv hr
end
end Pu

namespace Pu
open PySem PySem.Spec PyProof.Rows L2 L2H HotX
variable [MemoSpec]
/-! ### defs called in an except suite, of the exception that is handled there -/
structure FnW (P : Program) (w : World) (K : PySem.W.Frag) (mg : Str → Option Value) (base : Heap) (CX : CXT) (k : Nat) (f : Addr) (fd : FuncData) (ps : List Str) (Zp : Addr × Obj → Prop) (sp : Sp) : Prop where
  len : ∀ vs H Q E, sp vs H Q E → vs.length = ps.length
  run : ∀ (A : Around) (outer : List Env) (s : Shared) (H : Hp) (args : Args) (us : List Value) (vs : List V) (Q : VK) (E : XK) (p : Addr × Obj), Zp p → RoomH k A → Hot1 A p → PinOk outer H s p → Env0 P w K mg base A outer s H → BindsTo s fd args (ps.zip us) → Vals vs us → sp vs H Q E →
    codeAny (model P w) A (.call (.ref f) args) (CR CX outer P w H s Q E) s
theorem fn_ofW {CX : CXT} {P : Program} {w : World} {K : PySem.W.Frag} {mg : Str → Option Value} {base : Heap} {k : Nat} {f : Addr} {name qual : Str} {params : Arguments} {body : List Stmt} {scope : Scope} {dV kV doc pm cdv ct oc : Value} {an od : Option Addr}
    {osl : Array (Option Value)} {N ps : List Str} {Zp : Addr × Obj → Prop} {sp : Sp} (lk : K.lookup f = some ⟨oc, od, .func (PySem.W.fnOf name qual params body scope dV kV doc pm an cdv ct), osl⟩) (hcd : PySem.W.codeIn K cdv qual = true) (S : FnScope N ps scope)
    (len : ∀ vs H Q E, sp vs H Q E → vs.length = ps.length)
    (hbody : ∀ (A : Around) (outer : List Env) (s : Shared) (H : Hp) (vs : List V) (Q : VK) (E : XK) (p : Addr × Obj), Zp p → Hot1 A p → RoomH k (A.deeper (envOfC qual scope s.heap.objs.size f cdv)) → sp vs H Q E →
      ∃ t, PSs (cxH CX P w K mg base N qual scope f cdv A outer s H E p) body t ∧ t { nx := fun _ H' => Q .non H', rt := Q } (L2.start N vs) H) :
    FnW P w K mg base CX (k + 1) f (PySem.W.fnOf name qual params body scope dV kV doc pm an cdv ct) ps Zp sp := by
  refine ⟨len, fun A outer s H args us vs Q E p hz hr hot hpin e0 hb r hsp => ?_⟩
  have hl := len _ _ _ _ hsp
  have KX : K.In s.heap := e0.mod.kin.keeps fun b o e => (e0.bs b o e).1
  have lim : s.heap.NoLimit := e0.mod.nolimit.keeps fun b o e => (e0.bs b o e).1
  have hkind : ∀ y ∈ ps.zip us, scope.names.lookup y.1 = some .local ∨ (scope.names.lookup y.1 = some .cell ∧ ((cellsFrom (s.heap.objs.size + 1) scope.names []).lookup y.1).isSome = true) := fun ⟨n, v⟩ hy => by
    rcases S.par n (List.of_mem_zip hy).1 with q | q
    · exact .inl q
    · exact .inr ⟨q, PySem.W.cellsFrom_some _ _ _ (.inl q)⟩
  refine codeAny_call_function hr.depth (KX _ _ lk) rfl S.co S.gen rfl (PySem.W.codeRec_of KX hcd) (hb _ _ _ _ ?_)
  refine wpAny_newFunctionEnv_cells S.kind hkind fun env he s1 x => ?_
  subst he
  refine ⟨lim.keeps x.toInCall.keep, codeAny_func ?_⟩
  obtain ⟨t, ht, hq⟩ := hbody A outer s H vs Q E p hz hot (hr.deeper _) hsp
  have I : Inv (cxH CX P w K mg base N qual scope f cdv A outer s H E p) [] (L2.start N vs) H s1 := inv_startH S hpin e0 hl r x
  refine wpAny_mono (ht.run [] s1 (L2.start N vs) H _ I hq) (fun fl s' hs => ?_) fun e s' hs => hs
  have fin : ∀ {σ' : St} {H' : Hp} {v : V} {u : Value}, Inv (cxH CX P w K mg base N qual scope f cdv A outer s H E p) [] σ' H' s' → RelV v u → Q v H' → CE outer P w H s Q u s' :=
    fun {σ' H' v u} J rv q => ⟨v, H', J.os, J.bare, J.base, J.hok, rv, q⟩
  cases fl with
  | ret u =>
    obtain ⟨v, σ', H', J, rv, q⟩ := hs
    exact fin J rv q
  | next =>
    obtain ⟨σ', H', J, q⟩ := hs
    exact fin (v := V.non) (u := Value.none) J rfl q
  | brk =>
    obtain ⟨_, _, _, q⟩ := hs
    exact False.elim q
  | cont =>
    obtain ⟨_, _, _, q⟩ := hs
    exact False.elim q
section
variable {X : Cx} {CX : CXT} {k : Nat} {f C : Addr} {fd : FuncData} {ps : List Str} {sp : Sp} {E : St → XK} {x m : Str} {q pos apos : Pos} {e o : Expr} {es : List Expr} {ta : TE} {t : TA} {Zp : Addr × Obj → Prop}
theorem run_fnW {pins : List (Addr × Obj)} {σ : St} {H : Hp} {s : Shared} {Q : VK} {us : List Value} {vs : List V} (F : FnW X.prog X.w X.K X.mg X.base CX k f fd ps Zp sp) (hr : RoomH k X.A) (hc : ∃ p : Addr × Obj, Zp p ∧ Hot1 X.A p ∧ p ∈ X.pn) (hb : Binds X.K fd ps []) (hx : PassesAt CX X σ (E σ))
    (I : Inv X pins σ H s) (r : Vals vs us) (h : sp vs H Q (E σ)) : wpAny (model X.prog X.w) X.A (call (.ref f) us) (EP X pins σ Q) X.xe s := by
  obtain ⟨p, hz, hot, hp⟩ := hc
  have hl : us.length = ps.length := by rw [← r.length]; exact F.len _ _ _ _ h
  have b := hb s us I.kIn (by rw [List.append_nil]; exact hl)
  rw [List.append_nil] at b
  have P1 := I.pin p (List.mem_append_left _ hp)
  have hpin : PinOk X.stack H s p := ⟨P1.1, P1.2.1, fun hm => (List.mem_cons.mp (I.stkSub p.1 hm)).elim P1.2.2.1 P1.2.2.2.1, P1.2.2.2.2⟩
  refine wpAny_call (codeAny_mono (F.run X.A X.stack s H ⟨us, []⟩ us vs Q (E σ) p hz hr hot hpin I.env0 b r h) fun r s' hq => ?_)
  cases r with
  | error e => exact hx pins H s e s' I hq
  | ok fl =>
    cases fl with
    | ret u => exact I.after hq
    | next => exact False.elim hq
    | brk => exact False.elim hq
    | cont => exact False.elim hq
theorem pe_callW (F : FnW X.prog X.w X.K X.mg X.base CX k f fd ps Zp sp) (hr : RoomH k X.A) (hc : ∃ p : Addr × Obj, Zp p ∧ Hot1 X.A p ∧ p ∈ X.pn) (hg : Gl X x) (hm : X.mg x = some (.ref f)) (hk : PySem.W.keepIn X.K (.ref f) = true) (hb : Binds X.K fd ps []) (hx : ∀ σ, PassesAt CX X σ (E σ))
    (ha : PA X (e :: es) t) (hdb : (x == ("__debug__" : Str)) = false := by decide) (he : starEach (e :: es) X.env = (false, eval e X.env) :: starEach es X.env := by rfl) (hpl : (backTo pos (starEach es X.env)).any (·.1) = false := by rfl) :
    PE X (.Call (.Name x q) (e :: es) [] pos) (tCallS sp E t) := by
  refine ⟨fun pins s σ H Q I h => ?_⟩
  refine wpAny_Call_Name_kw (ld_glob I hg hm ?_ hdb)
  refine PySem.W.callWith_K (h₀ := X.base) I.ok.mod.kin hk (thn (ha.run pos pins s σ H _ I h) fun us s1 ⟨vs, H1, I1, r, q⟩ => ⟨I1.kIn, ?_⟩) he hpl
  exact run_fnW F hr hc hb (hx σ) I1 r q
end
/-! ### isinstance of the exception -/
theorem call_isEx {X : Cx} {a D : Addr} {oe : Obj} (C : ExcC X.K D) (hz : Zc (.ref D) none oe) (hf : ∃ vs, oe.data = .fields vs) (hp : (a, oe) ∈ X.pn) : CallR X (.builtin "isinstance") (rIsE X.K D a) := by
  intro pins s σ H xs us Q I r h
  obtain ⟨c, cv, b, rfl, hcv, e, q⟩ := h
  cases r with
  | cons rx rr =>
    cases rr with
    | cons rt rr =>
      cases rr
      cases rx
      have ec := hcv _ rt
      subst ec
      obtain ⟨hget, _⟩ := I.pin (a, oe) (List.mem_append.mpr (.inl hp))
      obtain ⟨vs, hv⟩ := hf
      have J : PySem.W.InstAt s.heap a oe D none := by
        obtain ⟨oc, od, oda, osl⟩ := oe
        obtain ⟨h1, h2⟩ := hz
        dsimp only at h1 h2 hv
        subst h1 h2 hv
        exact ⟨hget, rfl, rfl, trivial⟩
      exact PySem.W.kia_one (PySem.W.handS_kitx_exc C.hg C.hk C.hs C.hd C.ha C.hn C.ht C.hm) I.kIn J e (fun z => nomatch z) fun tk => ⟨.bl b, H, I.kept (t' := tk) fun _ _ z => z, rfl, q⟩
def dIsE (i : Nat) (a : Addr) (b : Bool) : Ro → R PyData := fun ρ => match ρ[i]? with
  | some (some (.rf a')) => if a' = a then .ok (.bool b) else .no
  | _ => .no
theorem tD_isE {K : PySem.W.Frag} {mg : Str → Option Value} {W : WX} {σ : St} {H : Hp} {Q : VK} {i : Nat} {a D : Addr} {c : V} {cv : Value} {b : Bool} (hcv : ∀ u, RelV c u → u = cv) (e : PySem.W.kitOne K (.ref D) cv = some b) (h : tD K mg W (dIsE i a b) σ H Q) :
    tCB (rIsE K D a) (tCons (tVar i) (tCons (tC c) tNil)) σ H Q := by
  obtain ⟨B, G, fp, ρ, S, hh⟩ := tD_iff.mp h
  clear h
  unfold dIsE at hh
  split at hh
  · rename_i a' ea
    split at hh
    · rename_i eq
      subst eq
      obtain ⟨v, h1, h2⟩ := S.slot i _ ea
      exact ⟨v, h1, c, cv, b, by rw [show v = .ref a' from h2], hcv, e, hh _ H (Same.refl H) (.bl b)⟩
    · exact hh.elim
  · exact hh.elim
section
variable {X : Cx} {W : WX} {i : Nat} {x n : Str} {a D : Addr} {oe : Obj} {p p1 p2 pos : Pos} {b : Bool}
theorem pd_isE {C : Addr} (EC : ExcC X.K D) (hz : Zc (.ref D) none oe) (hf : ∃ vs, oe.data = .fields vs) (hp : (a, oe) ∈ X.pn) (hg : Gl X "isinstance") (hm : X.mg "isinstance" = none) (hv : PE X (.Name n p1) (tVar i)) (hgC : Gl X x) (hmC : X.mg x = some (.ref C)) (e : PySem.W.kitOne X.K (.ref D) (.ref C) = some b) (hd : (x == ("__debug__" : Str)) = false := by decide)
    (hs1 : starEach [.Name n p1, .Name x p2] X.env = (false, eval (.Name n p1) X.env) :: starEach [.Name x p2] X.env := by rfl) (hs2 : starEach [.Name x p2] X.env = (false, eval (.Name x p2) X.env) :: starEach [] X.env := by rfl)
    (hpl : (backTo pos (starEach [.Name x p2] X.env)).any (·.1) = false := by rfl) : PD X W (.Call (.Name "isinstance" p) [.Name n p1, .Name x p2] [] pos) (dIsE i a b) := by
  have hC : PE X (.Name x p2) (tC (.ref C)) := pe_glob hgC hmC rfl hd
  exact peW (pe_callB (x := "isinstance") (call_isEx EC hz hf hp) hg hm (by decide +kernel) (pa_cons hv (pa_cons hC pa_nil hs2) hs1) (by decide) (by decide) hs1 hpl) fun σ H Q h => tD_isE (c := .ref C) (fun u r => r) e h
theorem pd_isEV {T : String} (EC : ExcC X.K D) (hz : Zc (.ref D) none oe) (hf : ∃ vs, oe.data = .fields vs) (hp : (a, oe) ∈ X.pn) (hg : Gl X "isinstance") (hm : X.mg "isinstance" = none) (hv : PE X (.Name n p1) (tVar i)) (hgC : Gl X x) (hmC : X.mg x = none) (hb : bootBuiltins x = some (.type T)) (e : PySem.W.kitOne X.K (.ref D) (.type T) = some b) (hd : (x == ("__debug__" : Str)) = false := by decide) (hn : x ≠ "__name__" := by decide)
    (hs1 : starEach [.Name n p1, .Name x p2] X.env = (false, eval (.Name n p1) X.env) :: starEach [.Name x p2] X.env := by rfl) (hs2 : starEach [.Name x p2] X.env = (false, eval (.Name x p2) X.env) :: starEach [] X.env := by rfl)
    (hpl : (backTo pos (starEach [.Name x p2] X.env)).any (·.1) = false := by rfl) : PD X W (.Call (.Name "isinstance" p) [.Name n p1, .Name x p2] [] pos) (dIsE i a b) := by
  have hC : PE X (.Name x p2) (tC (.ty T)) := pe_bltn hgC hmC hb rfl hn hd
  exact peW (pe_callB (x := "isinstance") (call_isEx EC hz hf hp) hg hm (by decide +kernel) (pa_cons hv (pa_cons hC pa_nil hs2) hs1) (by decide) (by decide) hs1 hpl) fun σ H Q h => tD_isE (c := .ty T) (fun u r => r) e h
end
theorem hu64H {A : Around} {k : Nat} (hr : RoomH k A) : A.units + 64 < cLine := by have := hr.un; omega
/-! ### what such a def tells -/
def spW (K : PySem.W.Frag) (a : Addr) (z : PyData) : Sp := fun vs H Q _ => vs = [.ref a] ∧ ∃ G : Addr → Prop, (∀ b, G b → ∃ o, H b = some o) ∧ ∀ v H', Same H H' → DO K G H' v z → Q v H'
theorem SR.startW {K : PySem.W.Frag} {G : Addr → Prop} {H : Hp} {N : List Str} {a : Addr} (hN : 0 < N.length) (hG : ∀ a, G a → ∃ o, H a = some o) : SR K H G (fun _ => []) (L2.start N [.ref a]) H (some (.rf a) :: List.replicate (N.length - 1) none) := by
  refine ⟨by simp [L2.start], Same.refl H, hG, fun i a ha => by simp at ha, fun i a ha => by simp at ha, fun i a ha => by simp at ha, fun i j a ha => by simp at ha, fun i c e => ?_⟩
  cases i with
  | zero => cases e; exact ⟨.ref a, rfl, rfl⟩
  | succ i =>
    rw [List.getElem?_cons_succ, List.getElem?_replicate] at e
    split at e <;> cases e
/-- an exception of the class D (by name xn) is told as z by the def at f -/
structure Which (P : Program) (w : World) (K : PySem.W.Frag) (mg : Str → Option Value) (base : Heap) (k : Nat) (x xn : Str) (z : PyData) : Prop where
  ex : ∃ (D : Addr) (f : Addr) (fd : FuncData) (ps : List Str), mg xn = some (.ref D) ∧ mg x = some (.ref f) ∧ PySem.W.keepIn K (.ref f) = true ∧ Binds K fd ps [] ∧ ∀ a, FnW P w K mg base (L2N.CX P w) k f fd ps (fun p => p.1 = a ∧ Zc (.ref D) none p.2 ∧ ∃ vs, p.2.data = .fields vs) (spW K a z)
theorem fn_which {P : Program} {w : World} {K : PySem.W.Frag} {mg : Str → Option Value} {base : Heap} {x xn : Str} {st : Stmt} {f D : Addr} {fd : FuncData} {N ps : List Str} {k : Nat} {fb : Addr → Ro → Fl} {z : PyData} (F : FnP K x st f fd) (S : FnScope N ps (defScope st)) (hN : 0 < N.length) (hps : ps.length = 1) (gD : mg xn = some (.ref D)) (gm : mg x = some (.ref f)) (hb : Binds K fd ps [])
    (hz : ∀ a, fb a (some (.rf a) :: List.replicate (N.length - 1) none) = .rt z)
    (body : ∀ (cdv : Value) (A : Around) (outer : List Env) (s : Shared) (H : Hp) (E : XK) (p : Addr × Obj), Zc (.ref D) none p.2 → (∃ vs, p.2.data = .fields vs) → RoomH k (A.deeper (envOfC x (defScope st) s.heap.objs.size f cdv)) →
      PSDs (cxH (L2N.CX P w) P w K mg base N x (defScope st) f cdv A outer s H E p) W0 (defBody st) (fb p.1)) : Which P w K mg base (k + 1) x xn z := by
  refine ⟨D, f, fd, ps, gD, gm, F.kp, hb, fun a => ?_⟩
  obtain ⟨oc, od, dV, kV, doc, pm, an, cdv, ct, osl, rfl, lk, hcd, _, _⟩ := F.ex
  refine fn_ofW lk hcd S (fun vs H Q E h => by rw [h.1, hps]; rfl) fun A outer s H vs Q E p hp hot hr h => ?_
  obtain ⟨rfl, h2, h3⟩ := hp
  obtain ⟨rfl, G, hG, q⟩ := h
  refine ⟨_, body cdv A outer s H E p h2 h3 hr, H, G, fun _ => [], _, SR.startW hN hG, ?_⟩
  rw [hz]
  exact fun v H' s' d => q v H' s' d
/-! ### try: return call; except StandError as e: return which(e) -/
def sTry (i : Nat) (wh : Xc → Option PyData) (f : Ro → R PyData) : Ro → Fl := fun ρ => if i < ρ.length then match f ρ with
  | .ok d => .rt d
  | .ex x => match wh x with
    | some z => .rt z
    | none => .no
  | .no => .no
  else .no
section
variable {X : Cx} {W : WX} {call : Expr} {f : Ro → R PyData} {i k : Nat} {n x y : Str} {Sd : Addr} {np pos pos' p1 p2 q1 q2 q3 : Pos} {wh : Xc → Option PyData}
theorem psd_try (hs : X.stack = X.env :: X.outer) (hf : X.env.frame = some X.env.locals) (hN : X.N.Nodup) (hi : X.N[i]? = some n) (hln : X.env.kindOf n = some .local) (hc : Names X y (.ref Sd)) (tk : L2N.Takes X W) (hr : Room k X.A)
    (hb : ∀ (W' : WX) (pn : List (Addr × Obj)) (xe : Value → Shared → Prop), L2N.Takes (X.tr pn xe) W' → PassesOwn (model X.prog X.w) X.A X.env xe → PD (X.tr pn xe) W' call f)
    (hw : ∀ xc z, wh xc = some z → xc.arg = none ∧ Which X.prog X.w X.K X.mg X.base k x xc.cls z ∧ ∀ C, X.mg xc.cls = some C → PySem.W.exmOne X.K C (.ref Sd) = some true)
    (hg : Gl X x) (hdb : (x == ("__debug__" : Str)) = false := by decide) (hnd : (n == ("__debug__" : Str)) = false := by decide) (hcd : (n == ("__classdict__" : Str)) = false := by decide)
    (he : starEach [.Name n q2] X.env = (false, eval (.Name n q2) X.env) :: starEach [] X.env := by rfl) (hpl : (backTo q3 (starEach [] X.env)).any (·.1) = false := by rfl) :
    PSD X W (.Try [.Return (some call) p1] [.ExceptHandler (some (.Name y np)) (some n) [.Return (some (.Call (.Name x q1) [.Name n q2] [] q3)) p2] pos'] [] [] pos) (sTry i wh f) := by
  refine psW (L2N.ps_try_as (i := i) (tb := fun W' => tRet (tD X.K X.mg W' f))
    (ts := fun a cls d D σ H => ∃ xn z, X.mg xn = some cls ∧ d = none ∧ Which X.prog X.w X.K X.mg X.base k x xn z ∧ σ[i]? = some (some (.ref a)) ∧ ∃ G : Addr → Prop, (∀ b, G b → ∃ o, H b = some o) ∧ ∀ v H', Same H H' → DO X.K G H' v z → D.rt v H')
    (Wout := W) hs hf hN hi hln hc tk (fun W' pn xe tk' hp' => pss_one (ps_ret (hb W' pn xe tk' hp'))) (fun a oe cls d pn hz hfl => ?_)) fun D σ H h => ?_
  · refine pss_one ⟨fun pins s σ H D I h => ?_⟩
    obtain ⟨xn, z, hm, hd, hwh, hsl, G, hG, q⟩ := h
    subst hd
    obtain ⟨C, f', fd, ps, gC, gm, kp, bd, FW⟩ := hwh.ex
    have ec : cls = .ref C := by rw [hm] at gC; exact Option.some.inj gC
    subst ec
    have hot : Hot1 (X.suite a ((a, oe) :: pn)).A (a, oe) := by
      obtain ⟨vs, hv⟩ := hfl
      exact ⟨rfl, vs, hv, hz.2.2 vs hv⟩
    have hv : PE (X.suite a ((a, oe) :: pn)) (.Name n q2) (tVar i) := pe_var hi (.inl hln) hnd hcd
    refine (ps_ret (pe_callW (X := X.suite a ((a, oe) :: pn)) (E := fun _ _ _ _ => False) (FW a) ⟨hr.dp, hr.un⟩ ⟨(a, oe), ⟨rfl, hz.zc, hfl⟩, hot, List.mem_cons_self⟩ hg gm kp bd (fun σ _ _ _ e s' _ c => ?_) (pa_cons hv pa_nil he) hdb he hpl)).run pins s σ H D I ?_
    · obtain ⟨_, _, _, _, _, _, _, _, _, _, _, _, zz⟩ := c
      exact zz.elim
    · exact ⟨.ref a, hsl, rfl, G, hG, q⟩
  · obtain ⟨B, G, fp, ρ, S, h⟩ := h
    refine tD_iff.mpr ⟨B, G, fp, ρ, S, ?_⟩
    unfold sTry at h
    split at h
    rotate_left
    · exact h.elim
    rename_i hil
    cases e : f ρ with
    | no => rw [e] at h; exact h
    | ok d => rw [e] at h; exact fun v H' s dv => h v H' (S.same.trans s) (dv.less fun a ha => .inl ha)
    | ex xc =>
      rw [e] at h
      dsimp only at h
      cases e2 : wh xc with
      | none => rw [e2] at h; exact h.elim
      | some z =>
        rw [e2] at h
        obtain ⟨h1, h2, h3⟩ := hw xc z e2
        intro cls dd H' s xr
        refine ⟨true, h3 cls xr.1, fun _ a ha => ⟨xc.cls, z, xr.1, ?_, h2, ?_, G, fun b hb => (S.mono s).gt b hb, fun v H2 s2 dv => h v H2 ((S.same.trans s).trans s2) dv⟩, fun z => Bool.noConfusion z⟩
        · have := xr.2
          rw [h1] at this
          exact this
        · rw [List.getElem?_set_self (by rw [S.len]; exact hil)]
end
end Pu

namespace Pu
open PySem PySem.Spec PyProof.Rows L2 L2H HotX
variable [MemoSpec]
/-! ### facts of own exception classes -/
def excB (K : PySem.W.Frag) (x : Str) : Bool :=
  He.eqO (PySem.W.findIn K (.ref (He.ga K x)) "__getattribute__") (some (some (.builtin "BaseException.__getattribute__"))) && (He.eqO (PySem.W.findIn K (.ref (He.ga K x)) "__getattr__") (some none) && (decide (PySem.W.subIn K (.ref (He.ga K x)) (.type "BaseException") = some true) && (PySem.W.hasDictIn K (He.ga K x) &&
  (He.eqO (PySem.W.findIn K (.ref (He.ga K x)) "__class__") (some (some (.builtin "object.__class__"))) && (He.eqO (PySem.W.specialIn K (.builtin "object.__class__") "__get__") (some (some (.builtin "getset_descriptor.__get__"))) && (decide (PySem.W.takesIn K (.builtin "object.__class__") = some true) && decide (PySem.W.mroIn K (He.ga K x) (.type "object") = some true)))))))
theorem excB_ok {K : PySem.W.Frag} {x : Str} (h : excB K x = true) : ExcC K (He.ga K x) := by
  unfold excB at h
  obtain ⟨h1, h⟩ := He.ba h
  obtain ⟨h2, h⟩ := He.ba h
  obtain ⟨h3, h⟩ := He.ba h
  obtain ⟨h4, h⟩ := He.ba h
  obtain ⟨h5, h⟩ := He.ba h
  obtain ⟨h6, h⟩ := He.ba h
  obtain ⟨h7, h8⟩ := He.ba h
  exact ⟨He.eqO_ok h1, He.eqO_ok h2, of_decide_eq_true h3, h4, He.eqO_ok h5, He.eqO_ok h6, of_decide_eq_true h7, of_decide_eq_true h8⟩
/-- isinstance of the exceptions xs against the classes ys and ValueError -/
def kitsB (K : PySem.W.Frag) (xs ys : List Str) : Bool := xs.all fun x => excB K x && (decide (PySem.W.kitOne K (.ref (He.ga K x)) (.type "ValueError") = some true) && ys.all fun y => decide (PySem.W.kitOne K (.ref (He.ga K x)) (.ref (He.ga K y)) = some (decide (x = y))))
theorem kitsB_ok {K : PySem.W.Frag} {xs ys : List Str} (h : kitsB K xs ys = true) {x : Str} (hx : x ∈ xs) : ExcC K (He.ga K x) ∧ PySem.W.kitOne K (.ref (He.ga K x)) (.type "ValueError") = some true ∧ ∀ y ∈ ys, PySem.W.kitOne K (.ref (He.ga K x)) (.ref (He.ga K y)) = some (decide (x = y)) := by
  have h0 := List.all_eq_true.mp h x hx
  obtain ⟨h1, h⟩ := He.ba h0
  obtain ⟨h2, h3⟩ := He.ba h
  exact ⟨excB_ok h1, of_decide_eq_true h2, fun y hy => of_decide_eq_true (List.all_eq_true.mp h3 y hy)⟩
def excNames : List Str := ["NoValue", "NoLikeness", "NoCall", "NoBook", "Unwished", "Broken", "NoText", "TooMany"]
/-- what _law_which tells of a class -/
def whichD (x : Str) : PyData := .tuple [.str "refused", .int ((excNames.findIdx fun y => decide (x = y) : Nat) : Int)]
def raised : List Str := ["NoValue", "NoLikeness", "NoCall", "NoBook", "Unwished", "NoText", "TooMany"]
def whX (x : Xc) : Option PyData := if x.arg.isNone && raised.contains x.cls then some (whichD x.cls) else none
theorem whX_inv {x : Xc} {z : PyData} (h : whX x = some z) : x.arg = none ∧ x.cls ∈ raised ∧ z = whichD x.cls := by
  unfold whX at h
  split at h
  · rename_i k
    obtain ⟨k1, k2⟩ := Bool.and_eq_true_iff.mp k
    cases h
    exact ⟨Option.isNone_iff_eq_none.mp k1, by simpa using k2, rfl⟩
  · cases h
/-! ### a def whose first argument is a def -/
def spT (K : PySem.W.Frag) (mg : Str → Option Value) (g : Addr) (n : Nat) (F : List PyData → R PyData) : Sp := fun vs H Q E => ∃ ws, vs = .ref g :: ws ∧ spD K mg n F ws H Q E
def startT (n : Nat) (g : Addr) (ds : List PyData) : Ro := some (.rf g) :: startR (n - 1) ds
def runT (n : Nat) (g : Addr) (f : Ro → Fl) (ds : List PyData) : R PyData := match f (startT n g ds) with
  | .rt d => .ok d
  | .nx _ => .ok .none
  | .ex x _ => .ex x
  | _ => .no
theorem SR.startT {K : PySem.W.Frag} {G : Addr → Prop} {H : Hp} {N : List Str} {vs : List V} {ds : List PyData} {g : Addr} (hN : 0 < N.length) (hG : ∀ a, G a → ∃ o, H a = some o) (h : DOs K G H vs ds) : SR K H G (fun _ => []) (L2.start N (.ref g :: vs)) H (startT N.length g ds) := by
  cases N with
  | nil => simp at hN
  | cons n N =>
    have S := SR.start (N := N) hG h
    have e : L2.start (n :: N) (.ref g :: vs) = some (.ref g) :: L2.start N vs := by simp [L2.start]
    rw [e]
    refine ⟨by simp [Pu.startT, S.len], S.same, S.gt, S.fpB, S.fpG, S.fpH, S.dis, fun i c ec => ?_⟩
    cases i with
    | zero => cases ec; exact ⟨.ref g, rfl, rfl⟩
    | succ i => exact S.slot i c ec
/-- the def x, its first argument the def y -/
structure FnT (P : Program) (w : World) (K : PySem.W.Frag) (mg : Str → Option Value) (base : Heap) (k : Nat) (x y : Str) (n : Nat) (F : List PyData → R PyData) : Prop where
  ex : ∃ f fd ps g, mg x = some (.ref f) ∧ mg y = some (.ref g) ∧ PySem.W.keepIn K (.ref f) = true ∧ Binds K fd ps [] ∧ FnOk P w K mg base (L2N.CX P w) k f fd ps (spT K mg g n F)
theorem FnT.mono {P : Program} {w : World} {K : PySem.W.Frag} {mg : Str → Option Value} {base : Heap} {k k' : Nat} {x y : Str} {n : Nat} {F : List PyData → R PyData} (h : FnT P w K mg base k x y n F) (l : k ≤ k') : FnT P w K mg base k' x y n F := by
  obtain ⟨f, fd, ps, g, h1, h2, h3, h4, h5⟩ := h.ex
  exact ⟨f, fd, ps, g, h1, h2, h3, h4, h5.mono l⟩
theorem fn_told {P : Program} {w : World} {K : PySem.W.Frag} {mg : Str → Option Value} {base : Heap} {x y : Str} {st : Stmt} {f g : Addr} {fd : FuncData} {N ps : List Str} {k n : Nat} {fb : Ro → Fl} {F' : List PyData → R PyData} (F : FnP K x st f fd) (S : FnScope N ps (defScope st)) (hN : 0 < N.length) (hn : ps.length = n + 1) (gm : mg x = some (.ref f)) (gy : mg y = some (.ref g)) (hb : Binds K fd ps [])
    (hF : ∀ ds, F' ds ≠ .no → runT N.length g fb ds = F' ds)
    (body : ∀ (cdv : Value) (A : Around) (outer : List Env) (s : Shared) (H : Hp) (E : XK), Bd (cxOf (L2N.CX P w) P w K mg base N x (defScope st) f cdv A outer s H E) (fun cls d _ H => E cls d H) k →
      PSDs (cxOf (L2N.CX P w) P w K mg base N x (defScope st) f cdv A outer s H E) (fun cls d _ H => E cls d H) (defBody st) fb) : FnT P w K mg base (k + 1) x y n F' := by
  refine ⟨f, fd, ps, g, gm, gy, F.kp, hb, ?_⟩
  refine F.ok S (fun vs H Q E h => ?_) fun cdv A outer s H vs Q E hr h => ?_
  · obtain ⟨ws, rfl, h1, _⟩ := h
    simp [h1, hn]
  · obtain ⟨ws, rfl, hl, G, ds, hG, hd, hF'⟩ := h
    have hne : F' ds ≠ .no := fun z => by rw [z] at hF'; exact hF'
    rw [← hF ds hne] at hF'
    refine ⟨_, body cdv A outer s H E ⟨hr, L2N.takes_of rfl rfl rfl rfl, passes_of rfl⟩, H, G, fun _ => [], startT N.length g ds, SR.startT hN hG hd, ?_⟩
    unfold runT at hF'
    have gl : ∀ {fp' : Nat → List Addr} (a : Addr), G a → Ow G fp' a := fun a ha => .inl ha
    cases e : fb (startT N.length g ds) with
    | nx ρ => rw [e] at hF'; exact fun σ' H' fp' S' _ => hF' .non H' S'.same .non
    | bk ρ => rw [e] at hF'; exact hF'.elim
    | ct ρ => rw [e] at hF'; exact hF'.elim
    | rt d => rw [e] at hF'; exact fun v H' s' dv => hF' v H' s' dv
    | ex x ρ =>
      rw [e] at hF'
      refine fun cls dd σ' H' fp' S' _ xr => hF' cls dd H' S'.same ⟨xr.1, ?_⟩
      obtain ⟨c, arg⟩ := x
      cases arg with
      | none => exact xr.2
      | some d => obtain ⟨a, v, q1, q2, q3⟩ := xr.2; exact ⟨a, v, q1, q2, q3.less gl⟩
    | no => rw [e] at hF'; exact hF'.elim
section
variable {X : Cx} {W : WX} {x y : Str} {n k i : Nat} {F : List PyData → R PyData} {fa : Ro → R (List PyData)} {p p' pos : Pos} {e : Expr} {es : List Expr}
/-- a call x(y, e, ..), y a def -/
theorem pd_callT (FD : FnT X.prog X.w X.K X.mg X.base k x y n F) (hr : Room k X.A) (tk : L2N.Takes X W) (hg : Gl X x) (hgy : Gl X y) (ha : PAs X W es fa)
    (hdb : (x == ("__debug__" : Str)) = false := by decide) (hdy : (y == ("__debug__" : Str)) = false := by decide) (he : starEach (.Name y p' :: es) X.env = (false, eval (.Name y p') X.env) :: starEach es X.env := by rfl) (hpl : (backTo pos (starEach es X.env)).any (·.1) = false := by rfl) :
    PD X W (.Call (.Name x p) (.Name y p' :: es) [] pos) (dCallF n F fa) := by
  obtain ⟨f, fd, ps, g, h1, h2, h3, h4, h5⟩ := FD.ex
  have hy : PE X (.Name y p') (tC (.ref g)) := pe_glob hgy h2 rfl hdy
  refine peW (pe_callS (E := WE W) h5 hr hg h1 h3 h4 (fun σ => L2N.passAt tk σ) (pa_cons hy ha he) hdb he hpl) fun σ H Q h => ?_
  obtain ⟨B, G, fp, ρ, S, h⟩ := tD_iff.mp h
  show tAD X.K X.mg W fa σ H _
  refine tAD_iff.mpr ⟨B, G, fp, ρ, S, Aft.bind h fun ds _ h => fun vs H1 s1 d1 => ?_⟩
  split at h
  · rename_i hl
    refine ⟨vs, rfl, d1.length.trans hl, Ow G fp, ds, (S.mono s1).trk, d1, ?_⟩
    cases k : F ds with
    | ok d => rw [k] at h; exact fun v H' s' dv => h v H' (s1.trans s') dv
    | ex x => rw [k] at h; exact fun cls dd H' s' xr => h cls dd H' (s1.trans s') xr
    | no => rw [k] at h; exact h
  · exact h.elim
/-- a call of the def that the i-th slot holds -/
def dCallR (i : Nat) (g : Addr) (n : Nat) (F : List PyData → R PyData) (fa : Ro → R (List PyData)) : Ro → R PyData := fun ρ => match ρ[i]? with
  | some (some (.rf a)) => if a = g then dCallF n F fa ρ else .no
  | _ => .no
theorem pd_callR {g : Addr} (FD : FnD X.prog X.w X.K X.mg X.base k y n F) (gy : X.mg y = some (.ref g)) (hr : Room k X.A) (tk : L2N.Takes X W) (hN : X.N[i]? = some x) (hv : Vis X.env.scope x) (ha : PAs X W (e :: es) fa)
    (hdb : (x == ("__debug__" : Str)) = false := by decide) (hcd : (x == ("__classdict__" : Str)) = false := by decide) (he : starEach (e :: es) X.env = (false, eval e X.env) :: starEach es X.env := by rfl) (hpl : (backTo pos (starEach es X.env)).any (·.1) = false := by rfl) :
    PD X W (.Call (.Name x p) (e :: es) [] pos) (dCallR i g n F fa) := by
  obtain ⟨f, fd, ps, h1, h2, h3, h4⟩ := FD.ex
  have ef : f = g := by rw [h1] at gy; cases gy; rfl
  subst ef
  refine ⟨fun pins s σ H Q I h0 => ?_⟩
  obtain ⟨B, G, fp, ρ, S, h⟩ := tD_iff.mp h0
  clear h0
  unfold dCallR at h
  split at h
  rotate_left
  · exact h.elim
  rename_i a ea
  split at h
  rotate_left
  · exact h.elim
  rename_i eq
  subst eq
  obtain ⟨v, hs, hvv⟩ := S.slot i _ ea
  have ev : v = .ref a := hvv
  subst ev
  refine wpAny_Call_Name_kw (thn ((pe_var (pos := p) hN hv hdb hcd).run pins s σ H (fun v H1 => v = .ref a ∧ H1 = H) I ⟨.ref a, hs, rfl, rfl⟩) fun u s1 ⟨v, H1, I1, r1, q1⟩ => ?_)
  obtain ⟨rfl, rfl⟩ := q1
  cases r1
  have ht : tAD X.K X.mg W fa σ H1 fun vs H2 => spD X.K X.mg n F vs H2 Q (WE W σ) := by
    refine tAD_iff.mpr ⟨B, G, fp, ρ, S, Aft.bind h fun ds _ h => fun vs H1 s1 d1 => ?_⟩
    split at h
    · rename_i hl
      refine ⟨d1.length.trans hl, Ow G fp, ds, (S.mono s1).trk, d1, ?_⟩
      cases k : F ds with
      | ok d => rw [k] at h; exact fun v H' s' dv => h v H' (s1.trans s') dv
      | ex x => rw [k] at h; exact fun cls dd H' s' xr => h cls dd H' (s1.trans s') xr
      | no => rw [k] at h; exact h
    · exact h.elim
  refine PySem.W.callWith_K (h₀ := X.base) I.ok.mod.kin h2 (thn (ha.run pos pins s1 σ _ _ I1 ht) fun us s2 ⟨vs, H2, I2, r, q⟩ => ⟨I2.kIn, ?_⟩) he hpl
  exact run_fnS (E := WE W) h4 hr h3 (L2N.passAt tk σ) I2 r q
end
/-- what a def that catches is worth -/
def toldF (wh : Xc → Option PyData) (F : List PyData → R PyData) : List PyData → R PyData := fun ds => match F ds with
  | .ok d => .ok d
  | .ex x => R.of (wh x)
  | .no => .no
end Pu

namespace Pu
open PySem PySem.Spec PyProof.Rows L2
/-! ### the combinators, computed -/
@[simp] theorem dVar_0 (d : PyData) (r : Ro) : dVar 0 (some (.fz d) :: r) = .ok d := rfl
@[simp] theorem dVar_s (i : Nat) (c : Option Cel) (r : Ro) : dVar (i + 1) (c :: r) = dVar i r := rfl
@[simp] theorem dOwL_0 (d : List PyData) (r : Ro) : dOwL 0 (some (.ow (.list d)) :: r) = .ok d := rfl
@[simp] theorem dOwL_s (i : Nat) (c : Option Cel) (r : Ro) : dOwL (i + 1) (c :: r) = dOwL i r := rfl
@[simp] theorem dC_ap (d : PyData) (ρ : Ro) : dC d ρ = .ok d := rfl
@[simp] theorem dBin_ap (g : PyData → PyData → Option PyData) (f f' : Ro → R PyData) (ρ : Ro) : dBin g f f' ρ = (f ρ).bind fun x => (f' ρ).bind fun y => R.of (g x y) := rfl
@[simp] theorem dUn_ap (g : PyData → Option PyData) (f : Ro → R PyData) (ρ : Ro) : dUn g f ρ = (f ρ).bind fun x => R.of (g x) := rfl
@[simp] theorem dCall_ap (g : List PyData → Option PyData) (f : Ro → R (List PyData)) (ρ : Ro) : dCall g f ρ = (f ρ).bind fun x => R.of (g x) := rfl
@[simp] theorem dNil_ap (ρ : Ro) : dNil ρ = .ok [] := rfl
@[simp] theorem dCons_ap (f : Ro → R PyData) (g : Ro → R (List PyData)) (ρ : Ro) : dCons f g ρ = (f ρ).bind fun x => (g ρ).bind fun xs => .ok (x :: xs) := rfl
@[simp] theorem dTest_ap (f : Ro → R PyData) (ρ : Ro) : dTest f ρ = (f ρ).bind asB := rfl
@[simp] theorem asB_b (b : Bool) : asB (.bool b) = .ok b := rfl
@[simp] theorem dAndV_ap (f g : Ro → R PyData) (ρ : Ro) : dAndV f g ρ = (f ρ).bind fun x => (asB x).bind fun b => if b then g ρ else .ok (.bool false) := rfl
@[simp] theorem dOrV_ap (f g : Ro → R PyData) (ρ : Ro) : dOrV f g ρ = (f ρ).bind fun x => (asB x).bind fun b => if b then .ok (.bool true) else g ρ := rfl
@[simp] theorem dNotV_ap (f : Ro → R PyData) (ρ : Ro) : dNotV f ρ = (f ρ).bind fun x => (asB x).bind fun b => .ok (.bool (!b)) := rfl
@[simp] theorem dAnd_ap (f g : Ro → R Bool) (ρ : Ro) : dAnd f g ρ = (f ρ).bind fun b => if b then g ρ else .ok false := rfl
@[simp] theorem dOr_ap (f g : Ro → R Bool) (ρ : Ro) : dOr f g ρ = (f ρ).bind fun b => if b then .ok true else g ρ := rfl
@[simp] theorem dNot_ap (f : Ro → R Bool) (ρ : Ro) : dNot f ρ = (f ρ).bind fun b => .ok (!b) := rfl
@[simp] theorem dIf_ap (c : Ro → R Bool) (f g : Ro → R PyData) (ρ : Ro) : dIf c f g ρ = (c ρ).bind fun b => if b then f ρ else g ρ := rfl
@[simp] theorem dChain_ap (g g' : PyData → PyData → Option PyData) (f1 f2 f3 : Ro → R PyData) (ρ : Ro) : dChain g g' f1 f2 f3 ρ = (f1 ρ).bind fun x => (f2 ρ).bind fun y => (R.of (g x y)).bind fun z => (asB z).bind fun b => if b then (f3 ρ).bind fun w => R.of (g' y w) else .ok (.bool false) := rfl
@[simp] theorem dTup_ap (f : Ro → R (List PyData)) (ρ : Ro) : dTup f ρ = (f ρ).bind fun xs => if xs.length ≤ 1000000 then .ok (.tuple xs) else .no := rfl
@[simp] theorem dLst_ap (f : Ro → R (List PyData)) (ρ : Ro) : dLst f ρ = (f ρ).bind fun xs => if xs.length ≤ 1000000 then .ok xs else .no := rfl
@[simp] theorem dAsL_ap (f : Ro → R (List PyData)) (ρ : Ro) : dAsL f ρ = (f ρ).bind fun xs => .ok (.list xs) := rfl
@[simp] theorem dOfD_ap (f : Ro → R PyData) (ρ : Ro) : dOfD f ρ = (f ρ).bind listOf := rfl
@[simp] theorem listOf_l (xs : List PyData) : listOf (.list xs) = .ok xs := rfl
@[simp] theorem ixD_l (ds : List PyData) (i : Int) : ixD (.list ds) (.int i) = atI ds i := rfl
@[simp] theorem ixD_t (ds : List PyData) (i : Int) : ixD (.tuple ds) (.int i) = atI ds i := rfl
@[simp] theorem dIxL_ap (f : Ro → R (List PyData)) (f' : Ro → R PyData) (ρ : Ro) : dIxL f f' ρ = (f ρ).bind fun xs => (f' ρ).bind fun y => R.of (ixD (.list xs) y) := rfl
@[simp] theorem optI_n (ρ : Ro) : optI none ρ = .ok none := rfl
@[simp] theorem optI_s (f : Ro → R PyData) (ρ : Ro) : optI (some f) ρ = (f ρ).bind fun d => match d with | .int i => .ok (some i) | _ => .no := rfl
@[simp] theorem dSl_ap (f : Ro → R PyData) (lo hi : Option (Ro → R PyData)) (ρ : Ro) : dSl f lo hi ρ = (f ρ).bind fun d => (optI lo ρ).bind fun l => (optI hi ρ).bind fun h => R.of (slD d l h) := rfl
@[simp] theorem dSlL_ap (f : Ro → R (List PyData)) (lo hi : Option (Ro → R PyData)) (ρ : Ro) : dSlL f lo hi ρ = (f ρ).bind fun d => (optI lo ρ).bind fun l => (optI hi ρ).bind fun h => .ok (cutD d l h) := rfl
@[simp] theorem dListOf_ap (f : Ro → R PyData) (ρ : Ro) : dListOf f ρ = (f ρ).bind fun d => match d with | .list ds => .ok ds | .tuple ds => .ok ds | _ => .no := rfl
@[simp] theorem dCat_ap (f g : Ro → R (List PyData)) (ρ : Ro) : dCat f g ρ = (f ρ).bind fun xs => (g ρ).bind fun ys => if xs.length + ys.length ≤ 1000000 then .ok (xs ++ ys) else .no := rfl
@[simp] theorem dLenL_ap (f : Ro → R (List PyData)) (ρ : Ro) : dLenL f ρ = (f ρ).bind fun xs => .ok (.int xs.length) := rfl
@[simp] theorem dBinL_ap (g : PyData → PyData → Option PyData) (f : Ro → R (List PyData)) (f' : Ro → R PyData) (ρ : Ro) : dBinL g f f' ρ = (f ρ).bind fun xs => (f' ρ).bind fun y => R.of (g (.list xs) y) := rfl
@[simp] theorem dBinR_ap (g : PyData → PyData → Option PyData) (f' : Ro → R PyData) (f : Ro → R (List PyData)) (ρ : Ro) : dBinR g f' f ρ = (f' ρ).bind fun y => (f ρ).bind fun xs => R.of (g y (.list xs)) := rfl
@[simp] theorem bName_ap (i : Nat) (d : PyData) (ρ : Ro) : bName i d ρ = some (ρ.set i (some (.fz d))) := rfl
@[simp] theorem bNil_ap (ρ : Ro) : bNil [] ρ = some ρ := rfl
@[simp] theorem bCons_ap (b : PyData → Ro → Option Ro) (bs : List PyData → Ro → Option Ro) (d : PyData) (ds : List PyData) (ρ : Ro) : bCons b bs (d :: ds) ρ = (b d ρ).bind (bs ds) := rfl
@[simp] theorem bTup_ap (n : Nat) (bs : List PyData → Ro → Option Ro) (ds : List PyData) (ρ : Ro) : bTup n bs (.tuple ds) ρ = if ds.length = n then bs ds ρ else none := rfl
@[simp] theorem dItems_ap (f : Ro → R PyData) (ρ : Ro) : dItems f ρ = (f ρ).bind itemsD := rfl
@[simp] theorem itemsD_l (ds : List PyData) : itemsD (.list ds) = .ok ds := rfl
@[simp] theorem itemsD_t (ds : List PyData) : itemsD (.tuple ds) = .ok ds := rfl
@[simp] theorem itemsD_s (z : Str) : itemsD (.str z) = .ok (z.cps.toList.map fun c => .str ⟨#[c]⟩) := rfl
@[simp] theorem dYes_ap (ρ : Ro) : dYes ρ = .ok true := rfl
@[simp] theorem dLc_ap (fi : Ro → R (List PyData)) (b : PyData → Ro → Option Ro) (ft : Ro → R Bool) (fe : Ro → R PyData) (vs : List Nat) (ρ : Ro) : dLc fi b ft fe vs ρ = (fi ρ).bind fun ds => if ds.length ≤ 1000000 then R.of (lcGo b ft fe (wipeR ρ vs) ds) else .no := rfl
@[simp] theorem wipeR_n (ρ : Ro) : wipeR ρ [] = ρ := rfl
@[simp] theorem wipeR_c (ρ : Ro) (v : Nat) (vs : List Nat) : wipeR ρ (v :: vs) = (wipeR ρ vs).set v none := rfl
@[simp] theorem lcGo_n (b : PyData → Ro → Option Ro) (ft : Ro → R Bool) (fe : Ro → R PyData) (ρ : Ro) : lcGo b ft fe ρ [] = some [] := rfl
@[simp] theorem sSeq_ap (f g : Ro → Fl) (ρ : Ro) : sSeq f g ρ = (match f ρ with | .nx ρ' => g ρ' | r => r) := rfl
@[simp] theorem sNil_ap (ρ : Ro) : sNil ρ = .nx ρ := rfl
@[simp] theorem sExpr_ap (f : Ro → R PyData) (ρ : Ro) : sExpr f ρ = Fl.of ρ (f ρ) fun _ => .nx ρ := rfl
@[simp] theorem sRet_ap (f : Ro → R PyData) (ρ : Ro) : sRet f ρ = Fl.of ρ (f ρ) fun d => .rt d := rfl
@[simp] theorem sRetN_ap (ρ : Ro) : sRetN ρ = .rt .none := rfl
@[simp] theorem sAsg_ap (f : Ro → R PyData) (b : PyData → Ro → Option Ro) (ρ : Ro) : sAsg f b ρ = Fl.of ρ (f ρ) fun d => match b d ρ with | some ρ' => .nx ρ' | none => .no := rfl
@[simp] theorem sAsgL_ap (i : Nat) (f : Ro → R (List PyData)) (ρ : Ro) : sAsgL i f ρ = Fl.of ρ (f ρ) fun ds => if i < ρ.length then .nx (ρ.set i (some (.ow (.list ds)))) else .no := rfl
@[simp] theorem sIf_ap (c : Ro → R Bool) (f g : Ro → Fl) (ρ : Ro) : sIf c f g ρ = Fl.of ρ (c ρ) fun b => if b then f ρ else g ρ := rfl
@[simp] theorem sFrz_0 (d : PyData) (r : Ro) (f : Ro → Fl) : sFrz 0 f (some (.ow d) :: r) = f (some (.fz d) :: r) := rfl
@[simp] theorem sFor_ap (fi : Ro → R (List PyData)) (b : PyData → Ro → Option Ro) (body : Ro → Fl) (ρ : Ro) : sFor fi b body ρ = Fl.of ρ (fi ρ) fun ds => forGo b body ρ ds := rfl
@[simp] theorem forGo_n (b : PyData → Ro → Option Ro) (body : Ro → Fl) (ρ : Ro) : forGo b body ρ [] = .nx ρ := rfl
@[simp] theorem dCallF_ap (n : Nat) (F : List PyData → R PyData) (fa : Ro → R (List PyData)) (ρ : Ro) : dCallF n F fa ρ = (fa ρ).bind fun ds => if ds.length = n then F ds else .no := rfl
@[simp] theorem dMeth_ap (pre : PyData → Bool) (g : PyData → List PyData → Option PyData) (f : Ro → R PyData) (fa : Ro → R (List PyData)) (ρ : Ro) : dMeth pre g f fa ρ = (f ρ).bind fun d => if pre d then (fa ρ).bind fun xs => R.of (g d xs) else .no := rfl
@[simp] theorem addD_i (i j : Int) : addD (.int i) (.int j) = some (.int (i + j)) := rfl
@[simp] theorem subD_i (i j : Int) : subD (.int i) (.int j) = some (.int (i - j)) := rfl
@[simp] theorem negD_i (i : Int) : negD (.int i) = some (.int (-i)) := rfl
@[simp] theorem ltD_i (i j : Int) : ltD (.int i) (.int j) = some (.bool (decide (i < j))) := rfl
@[simp] theorem leD_i (i j : Int) : leD (.int i) (.int j) = some (.bool (decide (i ≤ j))) := rfl
@[simp] theorem gtD_i (i j : Int) : gtD (.int i) (.int j) = some (.bool (decide (j < i))) := rfl
@[simp] theorem geD_i (i j : Int) : geD (.int i) (.int j) = some (.bool (decide (j ≤ i))) := rfl
@[simp] theorem lenD_s (z : Str) : lenD [.str z] = some (.int z.length) := rfl
@[simp] theorem lenD_l (z : List PyData) : lenD [.list z] = some (.int z.length) := rfl
@[simp] theorem lenD_t (z : List PyData) : lenD [.tuple z] = some (.int z.length) := rfl
@[simp] theorem tupleD_l (z : List PyData) : tupleD [.list z] = some (.tuple z) := rfl
@[simp] theorem intD_b (b : Bool) : intD [.bool b] = some (.int (if b then 1 else 0)) := rfl
@[simp] theorem min2D_i (i j : Int) : min2D [.int i, .int j] = some (.int (if j < i then j else i)) := rfl
@[simp] theorem isND_n (d : PyData) : isND d .none = some (.bool (isNone d)) := rfl
@[simp] theorem ntND_n (d : PyData) : ntND d .none = some (.bool (!isNone d)) := rfl
@[simp] theorem isBD_b (a b : Bool) : isBD (.bool a) (.bool b) = some (.bool (decide (a = b))) := rfl
@[simp] theorem ntBD_b (a b : Bool) : ntBD (.bool a) (.bool b) = some (.bool (!decide (a = b))) := rfl
theorem runD_rt {n : Nat} {f : Ro → Fl} {ds : List PyData} {d : PyData} (h : f (startR n ds) = .rt d) : runD n f ds = .ok d := by unfold runD; rw [h]
theorem runD_nx {n : Nat} {f : Ro → Fl} {ds : List PyData} {ρ : Ro} (h : f (startR n ds) = .nx ρ) : runD n f ds = .ok .none := by unfold runD; rw [h]
theorem runD_ex {n : Nat} {f : Ro → Fl} {ds : List PyData} {ρ : Ro} {x : Xc} (h : f (startR n ds) = .ex x ρ) : runD n f ds = .ex x := by unfold runD; rw [h]
/-- a comprehension that keeps every item -/
theorem lcGo_map {b : PyData → Ro → Option Ro} {fe : Ro → R PyData} {ρ : Ro} {g : PyData → PyData} : ∀ {ds : List PyData}, (∀ d ∈ ds, ∃ ρ', b d ρ = some ρ' ∧ fe ρ' = .ok (g d)) → lcGo b dYes fe ρ ds = some (ds.map g)
  | [], _ => rfl
  | d :: ds, h => by
    obtain ⟨ρ', h1, h2⟩ := h d (by simp)
    have ih := lcGo_map (b := b) (fe := fe) (ρ := ρ) (g := g) (ds := ds) fun x hx => h x (by simp [hx])
    unfold lcGo
    rw [h1]
    simp [h2, ih]
theorem bools_map (g : PyData → Bool) : ∀ ds : List PyData, bools (ds.map fun d => .bool (g d)) = some (ds.map g)
  | [] => rfl
  | d :: ds => by simp [bools, bools_map g ds]
end Pu

namespace Pu
open PySem PySem.Spec PyProof.Rows L2
variable [MemoSpec]
/-- a def of which nothing is asked: the foot of a recursion -/
theorem fn_none {P : Program} {w : World} {K : PySem.W.Frag} {mg : Str → Option Value} {base : Heap} {x : Str} {st : Stmt} {f : Addr} {fd : FuncData} {ps : List Str} {k : Nat} (F : FnP K x st f fd) (gm : mg x = some (.ref f)) (hb : Binds K fd ps []) : FnD P w K mg base k x ps.length (fun _ => .no) :=
  ⟨f, fd, ps, gm, F.kp, hb, ⟨fun _ _ _ _ h => h.1, fun _ _ _ _ _ _ _ _ _ _ _ _ _ h => by obtain ⟨_, _, _, _, _, q⟩ := h; exact q.elim⟩⟩
end Pu

namespace Pu
open PySem PySem.Spec PyProof.Rows L2
variable [MemoSpec]
/-! ### startswith, tuples multiplied, max -/
def startsD : PyData → List PyData → Option PyData
  | .str a, [.str b] => some (.bool (Txt.startswith a b))
  | _, _ => none
theorem mo_starts {K : PySem.W.Frag} : MtOk K "str" (fun x xs H Q => ∃ a b, x = .str a ∧ xs = [.str b] ∧ Q (.bl (Txt.startswith a b)) H) isStr startsD := by
  intro O H x d hx hp
  cases hx with
  | str a hz =>
    refine ⟨rfl, fun H' ws ds z Q sm ht hd h k => ?_⟩
    match ds, hd, h with
    | [.str b], .cons (.str _ _) .nil, h => cases h; exact ⟨a, b, rfl, rfl, k _ H' (Same.refl H') (.bl _)⟩
  | _ => cases hp
def tmulD : PyData → PyData → Option PyData
  | .tuple xs, .int k => if xs ≠ [] ∧ 2 ≤ k ∧ k ≤ 1000 ∧ xs.length ≤ 1000 then some (.tuple (List.replicate k.toNat xs).flatten) else none
  | _, _ => none
theorem DOs.rep {K : PySem.W.Frag} {O : Addr → Prop} {H : Hp} {vs : List V} {ds : List PyData} (h : DOs K O H vs ds) : ∀ n : Nat, DOs K O H (List.replicate n vs).flatten (List.replicate n ds).flatten
  | 0 => .nil
  | n + 1 => by
    rw [List.replicate_succ, List.replicate_succ, List.flatten_cons, List.flatten_cons]
    exact h.append (DOs.rep h n)
theorem bo_tupmul {K : PySem.W.Frag} : BinOk K (rRepT K) tmulD := by
  intro O H x y d e z Q ht hx hy h q
  cases d <;> cases e <;> simp only [tmulD] at h <;> first | cases h; done | skip
  rename_i ds k
  split at h
  · rename_i c
    obtain ⟨c1, c2, c3, c4⟩ := c
    cases h
    cases hx with
    | @tup a xs _ s1 q1 l1 =>
      cases hy
      have e1 := q1.length
      refine ⟨a, k, xs, rfl, rfl, s1.sq, fun hn => c1 (by subst hn; cases q1; rfl), c2, c3, by omega, fun p hp => ?_⟩
      have sm : Same H (upd H p (.tup (List.replicate k.toNat xs).flatten)) := same_new hp
      have np : ¬ O p := fun z => by obtain ⟨o, e⟩ := ht p z; rw [hp] at e; cases e
      refine q _ _ sm (.tup (.inl upd_same) ((q1.rep _).same sm) ?_)
      rw [List.length_flatten, List.map_replicate, List.sum_replicate_nat]
      have : k.toNat ≤ 1000 := by omega
      exact Nat.le_trans (Nat.mul_le_mul this c4) (by decide)
  · cases h
def max2D : List PyData → Option PyData
  | [.int i, .int j] => some (.int (if j > i then j else i))
  | _ => none
theorem co_max2 {K : PySem.W.Frag} : CallOk K (fun xs H Q => ∃ i j, xs = [.int i, .int j] ∧ Q (.int (if j > i then j else i)) H) max2D := by
  intro O H xs ds z Q ht hx h q
  match ds, hx, h with
  | [.int i, .int j], .cons (.int _) (.cons (.int _) .nil), h => cases h; exact ⟨i, j, rfl, q _ H (Same.refl H) (.int _)⟩
/-- [..] * n -/
def dRep (f : Ro → R (List PyData)) (fb : Ro → R PyData) : Ro → R (List PyData) := fun ρ => (f ρ).bind fun xs => (fb ρ).bind fun d => match d with
  | .int k => if 0 ≤ k ∧ k ≤ 1000 ∧ xs.length ≤ 1000 then .ok (List.replicate k.toNat xs).flatten else .no
  | _ => .no
theorem rep_len {α : Type} (xs : List α) (n : Nat) : (List.replicate n xs).flatten.length = n * xs.length := by
  rw [List.length_flatten, List.map_replicate, List.sum_replicate_nat]
theorem pf_rep {X : Cx} {W : WX} {a b : Expr} {f : Ro → R (List PyData)} {fb : Ro → R PyData} {pos : Pos} (ha : PF X W a f) (hb : PD X W b fb) : PF X W (.BinOp a .Mult b pos) (dRep f fb) := by
  refine peW (pe_op op_rep ha hb) fun σ H Q h => ?_
  obtain ⟨B, G, fp, ρ, S, h⟩ := tFr_iff.mp h
  refine tFr_iff.mpr ⟨B, G, fp, ρ, S, Aft.bind h fun ds e1 h => fun l xs H1 hl s1 r1 d1 hz => ?_⟩
  refine tD_iff.mpr ⟨B, G, fp, ρ, S.mono s1, Aft.later s1 (Aft.bind h fun d e2 h => fun v H2 s2 d2 => ?_)⟩
  cases d2 with
  | int k =>
    dsimp only at h
    split at h
    · rename_i c
      obtain ⟨c1, c2, c3⟩ := c
      have l1 := d1.length
      have hm : (List.replicate k.toNat ds).flatten.length ≤ 1000000 := by
        rw [rep_len]
        exact Nat.le_trans (Nat.mul_le_mul (show k.toNat ≤ 1000 by omega) c3) (by decide)
      refine ⟨l, k, xs, rfl, rfl, s2.keep _ _ r1 rfl, by omega, by omega, lineLe (by rw [Nat.mul_comm, l1, ← rep_len]; exact hm), fun p hp => ?_⟩
      have sm := s1.trans s2
      exact h p _ _ (sm.free hp) (sm.trans (same_new hp)) upd_same ((((d1.less fun a ha => .inl ha).same s2).rep _).laid hp) hm
    · exact h.elim
  | non => exact h.elim
  | bl _ => exact h.elim
  | str _ _ => exact h.elim
  | lst _ _ _ => exact h.elim
  | tup _ _ _ => exact h.elim
  | dct _ _ _ => exact h.elim
  | dcT _ _ _ => exact h.elim
  | shr _ _ _ _ _ _ => exact h.elim
/-- a module's tuple of texts -/
theorem paired_strs : ∀ {zs : List Str}, (zs.all fun z => PyData.canLay0 (.str z) && decide (z.length ≤ 1000000)) = true → Paired flatD (zs.map V.str) (zs.map PyData.str)
  | [], _ => .nil
  | z :: zs, h => by
    rw [List.all_cons] at h
    obtain ⟨h1, h2⟩ := Bool.and_eq_true_iff.mp h
    exact .cons ⟨rfl, txtOk_lit h1⟩ (paired_strs h2)
theorem pd_gstrs {X : Cx} {W : WX} {x : Str} {a : Addr} {zs : List Str} {pos : Pos} (hg : Gl X x) (h : X.mg x = some (.ref a) ∧ ∀ H, SqT X.K H a (zs.map V.str)) (hz : (zs.all fun z => PyData.canLay0 (.str z) && decide (z.length ≤ 1000000)) = true := by decide +kernel) (hl : zs.length ≤ 1000000 := by decide) (hne : zs.isEmpty = false := by rfl) (hd : (x == ("__debug__" : Str)) = false := by decide) :
    PD X W (.Name x pos) (dC (.tuple (zs.map PyData.str))) := pd_gtup hg h.1 h.2 (paired_strs hz) (by rw [List.length_map]; exact hl) (by cases zs with | nil => cases hne | cons z zs => exact ⟨z, zs, rfl⟩) hd
@[simp] theorem startsD_s (a b : Str) : startsD (.str a) [.str b] = some (.bool (Txt.startswith a b)) := rfl
@[simp] theorem max2D_i (i j : Int) : max2D [.int i, .int j] = some (.int (if j > i then j else i)) := rfl
end Pu

namespace Pu
open PySem PySem.Spec PyProof.Rows L2
variable [MemoSpec]
/-! ### min, sorted of a list of data -/
def alikeB (ds : List PyData) : Bool := ds.all fun x => ds.all fun y => PySem.W.alike x y
theorem alikeB_iff {ds : List PyData} (h : alikeB ds = true) : ∀ x ∈ ds, ∀ y ∈ ds, PySem.W.alike x y = true := fun x hx y hy => List.all_eq_true.mp (List.all_eq_true.mp h x hx) y hy
def notNone : PyData → Bool
  | .none => false
  | _ => true
def cmpB (ds : List PyData) : Bool := alikeB ds && (nodicts ds && (decide (PyData.depthAll ds ≤ 60) && ds.all notNone))
def minL : List PyData → Option PyData
  | [.list (x :: xs)] => if cmpB (x :: xs) then some (PySem.W.minD x xs) else none
  | _ => none
theorem cmpB_inv {ds : List PyData} (h : cmpB ds = true) : (∀ x ∈ ds, ∀ y ∈ ds, PySem.W.alike x y = true) ∧ nodicts ds = true ∧ PyData.depthAll ds ≤ 60 ∧ ∀ x ∈ ds, x ≠ .none := by
  unfold cmpB at h
  simp only [Bool.and_eq_true, decide_eq_true_eq] at h
  refine ⟨alikeB_iff h.1, h.2.1, h.2.2.1, fun x hx e => ?_⟩
  have := List.all_eq_true.mp h.2.2.2 x hx
  rw [e] at this
  cases this
def rMinD (K : PySem.W.Frag) : List V → Hp → VK → Prop := fun vs H Q => ∃ (a : Addr) (ys : List V) (x : PyData) (xs : List PyData), vs = [V.ref a] ∧ SqL K H a ys ∧ DpAll K H ys (x :: xs) ∧ cmpB (x :: xs) = true ∧
  ∀ (i : Nat) (y : V), ys[i]? = some y → (x :: xs)[i]? = some (PySem.W.minD x xs) → Q y H
section
variable {X : Cx}
theorem vals_at : ∀ {xs : List V} {us : List Value} {i : Nat} {u : Value}, Vals xs us → us[i]? = some u → ∃ x, xs[i]? = some x ∧ RelV x u
  | _, _, _, _, .nil, e => by simp at e
  | _, _, 0, _, .cons r _, e => by simp at e; subst e; exact ⟨_, rfl, r⟩
  | _, _, i + 1, u, .cons _ t, e => by
    obtain ⟨x, h1, h2⟩ := vals_at (i := i) (u := u) t (by simpa using e)
    exact ⟨x, by simpa using h1, h2⟩
theorem cr_minD (hc : X.calm = true) (hu : X.A.units + 65 < cLine) : CallR X (.builtin "min") (rMinD X.K) := by
  intro pins s σ H vs us Q I r h
  obtain ⟨a, ys, x, xs, rfl, hs, hd, hb, q⟩ := h
  obtain ⟨h1, h2, h3, h4⟩ := cmpB_inv hb
  obtain ⟨its, rv, hl, _⟩ := I.list hs
  obtain ⟨as, hr⟩ := Dp.readsAll I (x :: xs) _ its hd rv
  rw [Vals.ref1 r]
  have hr' : ReadsAll s.heap its.toArray.toList (x :: xs) as := by simpa using hr
  have hn : its.toArray.size = xs.length + 1 := PySem.W.readsAll_len hr'
  have hu' : X.A.units + 1 + PyData.depthAll (x :: xs) < cLine := by omega
  refine PySem.call_min_walkH (PySem.W.iter_listW (A := X.A.in1) (I.ok.hd hc) hl.isList fun s₂ e W st hfp hw hk => ?_)
  refine ⟨_, _, _, _, _, _, _, s.heap, _, rfl, W, st, hfp, by omega, hw, hk, PySem.W.cmpIn_lt (A := X.A.in1) hr' ⟨h1, h4⟩ (by show X.A.units + 1 + _ < _; exact hu'), fun v s' hP m => ?_⟩
  obtain ⟨h', tk, rfl, hk'⟩ := PySem.W.moved_old e rfl m
  have e1 : its.toArray.size - 1 = xs.length := by omega
  have e2 := PySem.W.argBest_fold PySem.W.dataLt PyData.none x xs xs.length (Nat.le_refl _)
  rw [List.take_length] at e2
  rw [e1] at hP
  generalize hj : argBest (fun i j => PySem.W.dataLt ((x :: xs).getD i .none) ((x :: xs).getD j .none)) xs.length = j at hP e2
  have hP' : its[j]? = some v := by
    have q9 : its.toArray[j]? = some v := hP
    simpa using q9
  obtain ⟨y, hy, ry⟩ := vals_at rv hP'
  refine ⟨y, H, I.kept hk', ry, q _ y hy ?_⟩
  have lt : j < (x :: xs).length := by rw [List.length_cons]; omega
  have g : (x :: xs)[j]? = some ((x :: xs).getD j .none) := by
    rw [List.getD_eq_getElem?_getD, List.getElem?_eq_getElem lt]; rfl
  rw [g, e2.2]
  rfl
end
theorem minL_inv {ds : List PyData} {z : PyData} (h : minL ds = some z) : ∃ x xs, ds = [.list (x :: xs)] ∧ cmpB (x :: xs) = true ∧ z = PySem.W.minD x xs := by
  unfold minL at h
  split at h
  · rename_i x xs
    by_cases hc : cmpB (x :: xs) = true
    · rw [if_pos hc] at h
      exact ⟨x, xs, rfl, hc, (Option.some.inj h).symm⟩
    · rw [if_neg hc] at h
      cases h
  · cases h
theorem co_minD {K : PySem.W.Frag} : CallOk K (rMinD K) minL := by
  intro O H xs ds z Q hO hx h q
  obtain ⟨x, ds, rfl, hc, rfl⟩ := minL_inv h
  cases hx with
  | cons h1 h2 =>
    cases h2
    cases h1 with
    | lst s d hz =>
      obtain ⟨c1, c2, c3, c4⟩ := cmpB_inv hc
      refine ⟨_, _, x, ds, rfl, s.sq, (DOs.dp _ _ d c2).1, hc, fun i y hy he => ?_⟩
      obtain ⟨e, h3, h4⟩ := DOs.getV d hy
      rw [he] at h3
      cases h3
      exact q y H (Same.refl H) h4
/-! sorted -/
def tup1 : PyData → Bool
  | .tuple (_ :: _) => true
  | _ => false
def noTup : PyData → Bool
  | .none => false
  | .tuple _ => false
  | _ => true
def sortB (ds : List PyData) : Bool := alikeB ds && (nodicts ds && (decide (PyData.depthAll ds ≤ 60) && (ds.all tup1 || ds.all noTup)))
def sortD (ds : List PyData) : List PyData := ds.mergeSort (PySem.W.dataLe false id)
theorem sortB_inv {ds : List PyData} (h : sortB ds = true) : PySem.W.AllAlike ds ∧ nodicts ds = true ∧ PyData.depthAll ds ≤ 60 ∧ PySem.W.Sortable ds := by
  unfold sortB at h
  simp only [Bool.and_eq_true, decide_eq_true_eq, Bool.or_eq_true] at h
  refine ⟨alikeB_iff h.1, h.2.1, h.2.2.1, ?_⟩
  rcases h.2.2.2 with k | k
  · refine .inl fun d hd => ?_
    have := List.all_eq_true.mp k d hd
    unfold tup1 at this
    split at this
    · exact ⟨_, _, rfl⟩
    · cases this
  · refine .inr fun d hd => ?_
    have := List.all_eq_true.mp k d hd
    unfold noTup at this
    split at this
    · cases this
    · cases this
    · rename_i n1 n2
      exact ⟨n1, n2⟩
theorem depth_mem : ∀ {ds : List PyData} {d : PyData}, d ∈ ds → d.depth ≤ PyData.depthAll ds
  | [], _, h => by cases h
  | x :: xs, d, h => by
    unfold PyData.depthAll
    rcases List.mem_cons.mp h with e | e
    · subst e; exact Nat.le_max_left _ _
    · exact Nat.le_trans (depth_mem e) (Nat.le_max_right _ _)
def rSorted (K : PySem.W.Frag) : List V → Hp → VK → Prop := fun vs H Q => ∃ (a : Addr) (ys : List V) (ds : List PyData), vs = [V.ref a] ∧ SqL K H a ys ∧ DpAll K H ys ds ∧ sortB ds = true ∧
  ∀ (p : Addr) (bs : List (V × PyData)), H p = none → (∀ b ∈ bs, b ∈ ys.zip ds) → bs.map Prod.snd = sortD ds → Q (.ref p) (upd H p (.lst (bs.map Prod.fst)))
theorem each_pairs {h : Heap} : ∀ {ys : List V} {us : List Value} {ds : List PyData} {as : List Addr}, Vals ys us → ReadsAll h us ds as → PySem.W.EachIs (fun (v : Value) (b : V × PyData) => RelV b.1 v) us (ys.zip ds) ∧ PySem.W.EachIs (fun (v : Value) (b : V × PyData) => ∃ as, Reads h v b.2 as) us (ys.zip ds)
  | _, _, [], _, .nil, _ => ⟨.nil, .nil⟩
  | _, _, d :: ds, _, .cons r t, h => by
    cases h with
    | cons h1 h2 =>
      obtain ⟨i1, i2⟩ := each_pairs t h2
      exact ⟨.cons r i1, .cons ⟨_, h1⟩ i2⟩
  | _, _, [], _, .cons r t, h => by cases h
  | _, _, _ :: _, _, .nil, h => by cases h
theorem each_vals : ∀ {us : List Value} {bs : List (V × PyData)}, PySem.W.EachIs (fun (v : Value) (b : V × PyData) => RelV b.1 v) us bs → Vals (bs.map Prod.fst) us
  | _, _, .nil => .nil
  | _, _, .cons h t => .cons h (each_vals t)
theorem zip_snd : ∀ {ys : List V} {ds : List PyData}, ys.length = ds.length → (ys.zip ds).map Prod.snd = ds
  | [], [], _ => rfl
  | y :: ys, d :: ds, h => by simp at h ⊢; exact zip_snd h
section
variable {X : Cx}
theorem cr_sortedD (hu : X.A.units + 65 < cLine) : CallR X (.builtin "sorted") (rSorted X.K) := by
  intro pins s σ H vs us Q I r h
  obtain ⟨a, ys, ds, rfl, hs, hd, hb, q⟩ := h
  obtain ⟨h1, h2, h3, h4⟩ := sortB_inv hb
  obtain ⟨its, rv, hl, hz⟩ := I.list hs
  obtain ⟨as, hr⟩ := Dp.readsAll I ds _ its hd rv
  rw [Vals.ref1 r]
  obtain ⟨p1, p2⟩ := each_pairs rv hr
  have ln : ys.length = ds.length := by rw [rv.length]; exact SeqAt.ReadsAll.length ds its as hr
  have hm := zip_snd ln
  refine PySem.W.sorted_data (enc := Prod.snd) hl.isList p1 p2 (by rw [hm]; exact h1) (by rw [hm]; exact h4) (by rw [← p1.length, ← rv.length]; exact hz) (fun b hb => ?_) fun out hlo ho => ?_
  · have : b.2 ∈ ds := by rw [← hm]; exact List.mem_map_of_mem hb
    have := depth_mem this
    omega
  · obtain ⟨ep, he'⟩ := PyProof.Rows.sortedAll_at s.heap its out.toArray
    have hv := each_vals ho
    have hlen : (((ys.zip ds).mergeSort (PySem.W.dataLe false Prod.snd)).map Prod.fst).length ≤ sizeLine := by
      rw [hv.length, hlo, ← p1.length, ← rv.length]; exact hz
    refine ⟨.ref _, upd H (s.heap.objs.size + 1) (.lst (((ys.zip ds).mergeSort (PySem.W.dataLe false Prod.snd)).map Prod.fst)), I.laid (t' := s.toks) (fun _ _ => PyProof.Rows.sortedAll_old) (Nat.le_succ _) ⟨hlen, out, ep, hv, he'⟩, rfl, q _ _ (I.hok.fresh (Nat.le_succ _)) (fun b hb => (List.mem_mergeSort).mp hb) ?_⟩
    unfold sortD
    conv => rhs; rw [← hm]
    exact List.map_mergeSort fun x _ y _ => rfl
end
theorem sortD_len (ds : List PyData) : (sortD ds).length = ds.length := List.length_mergeSort ds
theorem zip_DO {K : PySem.W.Frag} {O : Addr → Prop} {H : Hp} : ∀ {ys : List V} {ds : List PyData}, DOs K O H ys ds → ∀ b ∈ ys.zip ds, DO K O H b.1 b.2
  | [], _, _, b, h => by simp at h
  | _ :: _, [], h, _, _ => by cases h
  | y :: ys, d :: ds, h, b, hb => by
    cases h with
    | cons h1 h2 =>
      rw [List.zip_cons_cons] at hb
      rcases List.mem_cons.mp hb with e | e
      · subst e; exact h1
      · exact zip_DO h2 b e
theorem pairs_DO {K : PySem.W.Frag} {O : Addr → Prop} {H : Hp} : ∀ {bs : List (V × PyData)}, (∀ b ∈ bs, DO K O H b.1 b.2) → DOs K O H (bs.map Prod.fst) (bs.map Prod.snd)
  | [], _ => .nil
  | b :: bs, h => .cons (h b (by simp)) (pairs_DO fun c hc => h c (by simp [hc]))
def dSorted (f : Ro → R (List PyData)) : Ro → R (List PyData) := fun ρ => (f ρ).bind fun ds => if sortB ds then .ok (sortD ds) else .no
section
variable {X : Cx} {W : WX} {e : Expr} {f : Ro → R (List PyData)} {pos p : Pos}
theorem pf_sorted (hu : X.A.units + 65 < cLine) (hg : Gl X "sorted") (hm : X.mg "sorted" = none) (ha : PL X W e f) (hs : starEach [e] X.env = (false, eval e X.env) :: starEach [] X.env := by rfl) (hpl : (backTo pos (starEach [] X.env)).any (·.1) = false := by rfl) :
    PF X W (.Call (.Name "sorted" p) [e] [] pos) (dSorted f) := by
  refine peW (pe_callB (x := "sorted") (cr_sortedD hu) hg hm (by decide +kernel) (pa_cons ha pa_nil hs) (by decide) (by decide) hs hpl) fun σ H Q h => ?_
  obtain ⟨B, G, fp, ρ, S, h⟩ := tFr_iff.mp h
  unfold tCB tCons tNil
  refine tL_iff.mpr ⟨B, G, fp, ρ, S, Aft.bind h fun d e1 h => fun a xs H1 s1 r1 d1 hz => ?_⟩
  by_cases hb : sortB d = true
  · rw [if_pos hb] at h
    obtain ⟨c1, c2, c3, c4⟩ := sortB_inv hb
    refine ⟨a, xs, d, rfl, .inl r1, (DOs.dp _ _ d1 c2).1, hb, fun p bs hp hbs hbd => ?_⟩
    have q : DOs X.K (Ow G fp) H1 (bs.map Prod.fst) (bs.map Prod.snd) := pairs_DO fun b hb => zip_DO d1 b (hbs b hb)
    rw [hbd] at q
    exact h p _ _ (s1.free hp) (s1.trans (same_new hp)) upd_same (q.laid hp) (by rw [sortD_len]; exact hz)
  · rw [if_neg hb] at h
    exact h.elim
end
@[simp] theorem dSorted_ap (f : Ro → R (List PyData)) (ρ : Ro) : dSorted f ρ = (f ρ).bind fun ds => if sortB ds then .ok (sortD ds) else .no := rfl
end Pu

namespace Pu
open PySem PySem.Spec PyProof.Rows L2
variable [MemoSpec]
/-! ### dicts whose keys are tuples of whole numbers, nested -/
mutual
/-- no text in it -/
def numK : NestedKey → Bool
  | .num _ => true
  | .tup ks => numKs ks
  | _ => false
def numKs : List NestedKey → Bool
  | [] => true
  | k :: ks => numK k && numKs ks
end
mutual
theorem hash_w {w w' : World} : ∀ k : NestedKey, numK k = true → NestedKey.hash w k = NestedKey.hash w' k
  | .none, h => by cases h
  | .num i, _ => rfl
  | .text x, h => by cases h
  | .tup ks, h => by
    unfold NestedKey.hash
    rw [hashes_w ks h]
theorem hashes_w {w w' : World} : ∀ ks : List NestedKey, numKs ks = true → NestedKey.hashes w ks = NestedKey.hashes w' ks
  | [], _ => rfl
  | k :: ks, h => by
    have h' : (numK k && numKs ks) = true := h
    obtain ⟨h1, h2⟩ := Bool.and_eq_true_iff.mp h'
    unfold NestedKey.hashes
    rw [hash_w k h1, hashes_w ks h2]
end
mutual
theorem IK.num {K : PySem.W.Frag} {H : Hp} : ∀ (k : NestedKey) (v : V), IK K H v k → numK k = true
  | .none, _, h => by cases h
  | .num i, _, _ => rfl
  | .text x, _, h => by cases h
  | .tup ks, _, h => by cases h with | tup s t => exact IKs.num ks _ t
theorem IKs.num {K : PySem.W.Frag} {H : Hp} : ∀ (ks : List NestedKey) (vs : List V), IKs K H vs ks → numKs ks = true
  | [], _, _ => rfl
  | k :: ks, _, h => by
    cases h with
    | cons a b =>
      show (numK k && numKs ks) = true
      rw [IK.num k _ a, IKs.num ks _ b]
      rfl
end
section
variable {X : Cx} {pins : List (Addr × Obj)} {σ : St} {H : Hp} {s : Shared}
mutual
theorem IK.is (I : L2.Inv X pins σ H s) : ∀ (k : NestedKey) (v : V) (u : Value), IK X.K H v k → RelV v u → NestedIs s.heap k u
  | .none, _, _, h, _ => by cases h
  | .num i, _, _, h, r => by cases h; obtain ⟨t, rfl⟩ := r; exact .int i t
  | .text x, _, _, h, _ => by cases h
  | .tup ks, _, _, h, r => by
    cases h with
    | tup s t =>
      cases r
      obtain ⟨its, rv, ⟨o, ho, hc, n, hd⟩, _⟩ := I.tuple s
      exact .tup ho hc hd (by simpa using IKs.is I ks _ its t rv)
theorem IKs.is (I : L2.Inv X pins σ H s) : ∀ (ks : List NestedKey) (vs : List V) (us : List Value), IKs X.K H vs ks → Vals vs us → NestedAll s.heap ks us
  | [], _, _, h, r => by cases h; cases r; exact .nil
  | k :: ks, _, _, h, r => by
    cases h with
    | cons a b =>
      cases r with
      | cons r1 r2 => exact .cons (IK.is I k _ _ a r1) (IKs.is I ks _ _ b r2)
end
/-- the entries are keys -/
def KeysOk (K : PySem.W.Frag) (H : Hp) (xs : List (NestedKey × Addr × Value)) : Prop := ∀ x ∈ xs, IK K H (.ref x.2.1) x.1 ∧ x.1.depth ≤ 8
theorem memo_dict (I : L2.Inv X pins σ H s) {a : Addr} {xs : List (NestedKey × Addr × Value)} (h : H a = some (.ext (memoP a xs))) (ok : KeysOk X.K H xs) : s.heap.DictOfH (nestedKind X.prog X.w) a xs ∧ (a == sysModules) = false := by
  have q : ObjOk X.prog X.w H s.heap a (.ext (memoP a xs)) := I.hok a _ h
  obtain ⟨⟨o, es, ep, h1, h2, h3, h4, h5, h6⟩, _, _⟩ := q
  exact ⟨⟨o, es, ep, h1, h2, h3, h4 X.w, fun x hx => ⟨IK.is I _ _ _ (ok x hx).1 rfl, (ok x hx).2⟩, h5⟩, h6⟩
theorem memoP_stay {a : Addr} {xs : List (NestedKey × Addr × Value)} : ∀ h1 h2 : Heap, memoP a xs h1 → (∀ o, h1.get? a = some o → h2.get? a = some o) → memoP a xs h2 := fun h1 h2 ⟨o, es, ep, e1, q⟩ k => ⟨o, es, ep, k _ e1, q⟩
def tDNewN : TE := fun _ H Q => ∀ p, H p = none → Q (.ref p) (upd H p (.ext (memoP p [])))
theorem pe_dnewN {pos : Pos} : PE X (.Dict [] [] pos) tDNewN := ⟨fun pins s σ H Q I h =>
  wpAny_Dict_empty ⟨.ref s.heap.objs.size, _, I.laid (a := s.heap.objs.size) (o := .ext (memoP s.heap.objs.size [])) (t' := s.toks) (fun _ _ q => Heap.get?_push_of_some _ q) (Nat.le_refl _)
    ⟨⟨_, #[], 0, Heap.get?_push_size _ rfl, ⟨rfl, rfl, rfl⟩, rfl, fun _ => rfl, List.nodup_nil, beq_eq_false_iff_ne.mpr (Ne.symm (Nat.ne_of_lt I.big))⟩, ⟨_, Heap.get?_push_size _ rfl⟩, memoP_stay⟩, rfl, h _ (I.hok.fresh (Nat.le_refl _))⟩⟩
/-- k not in d -/
def tNinN (K : PySem.W.Frag) (ty td : TE) : TE := fun σ H Q => ty σ H fun y H1 => td σ H1 fun x H2 => ∃ a b k xs, x = .ref a ∧ y = .ref b ∧ H2 a = some (.ext (memoP a xs)) ∧ KeysOk K H2 xs ∧ IK K H2 (.ref b) k ∧ k.depth ≤ 8 ∧ Q (.bl (!(atKey xs k).isSome)) H2
theorem pc_notinN {i o : Expr} {ty td : TE} (hu : X.A.units + 9 < cLine) (hi : PE X i ty) (ho : PE X o td) : PC X .NotIn i o (tNinN X.K ty td) := by
  refine ⟨fun pins s σ H Q I h => ?_⟩
  refine thn (hi.run pins s σ H _ I h) fun iv s1 ⟨y, H1, I1, ry, q1⟩ => thn (ho.run pins s1 σ H1 _ I1 q1) fun u s2 ⟨x, H2, I2, rx, a, b, k, xs, ex, ey, g, ok, ik, dp, q2⟩ => ?_
  subst ex ey
  obtain rfl : u = Value.ref a := rx
  obtain rfl : iv = Value.ref b := ry
  obtain ⟨dd, hd⟩ := memo_dict I2 g ok
  refine wpAny_notIn_heap (knd := nestedKind X.prog X.w) (by show X.A.units + 1 + 8 < cLine; omega) ⟨IK.is I2 _ _ _ ik rfl, dp⟩ hd dd ?_
  exact ⟨.bl _, H2, I2.tok _, rfl, q2⟩
/-- d[k] -/
def tGetN (K : PySem.W.Frag) (td ty : TE) : TE := fun σ H Q => td σ H fun x H1 => ty σ H1 fun y H2 => ∃ a b k xs e w, x = .ref a ∧ y = .ref b ∧ H2 a = some (.ext (memoP a xs)) ∧ KeysOk K H2 xs ∧ IK K H2 (.ref b) k ∧ k.depth ≤ 8 ∧ atKey xs k = some (e, .bool w) ∧ Q (.bl w) H2
theorem pe_getN {i o : Expr} {ty td : TE} {pos : Pos} (hu : X.A.units + 9 < cLine) (ho : PE X o td) (hi : PE X i ty) (hs : NoSl i) : PE X (.Subscript o i pos) (tGetN X.K td ty) := by
  refine ⟨fun pins s σ H Q I h => ?_⟩
  refine subD_of PySem.F.slot_dict_getitem.lookup hs (thn (ho.run pins s σ H _ I h) fun u s1 ⟨x, H1, I1, rx, q1⟩ => thn (hi.run pins s1 σ H1 _ I1 q1) fun iv s2 ⟨y, H2, I2, ry, a, b, k, xs, e, w, ex, ey, g, ok, ik, dp, hp, q2⟩ => ?_)
  subst ex ey
  obtain rfl : u = Value.ref a := rx
  obtain rfl : iv = Value.ref b := ry
  obtain ⟨dd, hd⟩ := memo_dict I2 g ok
  refine ⟨dd.typeIs, wpAny_getItem_heap (knd := nestedKind X.prog X.w) (by show X.A.units + 1 + 8 < cLine; omega) ⟨IK.is I2 _ _ _ ik rfl, dp⟩ dd hp ?_⟩
  exact ⟨.bl w, H2, I2.tok _, rfl, q2⟩
/-- d[k] = v, a truth value -/
def sPutN (K : PySem.W.Frag) (td ty tv : TE) : TS := fun D σ H => tv σ H fun v H1 => td σ H1 fun x H2 => ty σ H2 fun y H3 => ∃ a b k xs w, x = .ref a ∧ y = .ref b ∧ v = .bl w ∧ H3 a = some (.ext (memoP a xs)) ∧ KeysOk K H3 xs ∧ IK K H3 (.ref b) k ∧ k.depth ≤ 8 ∧ xs.length ≤ 1000000 ∧
  D.nx σ (upd H3 a (.ext (memoP a (storedH xs k b (.bool w)))))
theorem stored_num {xs : List (NestedKey × Addr × Value)} {k : NestedKey} {b : Addr} {v : Value} (h : ∀ x ∈ xs, numK x.1 = true) (hk : numK k = true) : ∀ x ∈ storedH xs k b v, numK x.1 = true := by
  intro x hx
  unfold storedH at hx
  split at hx
  · obtain ⟨y, hy, e⟩ := List.mem_map.mp hx
    have := h y hy
    unfold putAt at e
    split at e
    · rw [← e]; exact this
    · rw [← e]; exact this
  · rcases List.mem_append.mp hx with q | q
    · exact h x q
    · have : x = (k, b, v) := by simpa using q
      rw [this]; exact hk
theorem ps_putN {i o value : Expr} {ty td tv : TE} {pos pos' : Pos} (hu : X.A.units + 9 < cLine) (ho : PE X o td) (hi : PE X i ty) (hv : PE X value tv) (hs : swapsWith value (some (.Subscript o i pos')) pos.line X.env = pure false) :
    PS X (.Assign [.Subscript o i pos'] value pos) (sPutN X.K td ty tv) := by
  refine ⟨fun pins s σ H D I h => ?_⟩
  refine wpAny_Assign_Subscript (thn (hv.run pins s σ H _ I h) fun r s1 ⟨v, H1, I1, rv, q1⟩ => thn (ho.run pins s1 σ H1 _ I1 q1) fun u s2 ⟨x, H2, I2, rx, q2⟩ => thn (hi.run pins s2 σ H2 _ I2 q2) fun iv s3 ⟨y, H3, I3, ry, a, b, k, xs, w, ex, ey, ev, g, ok, ik, dp, hl, q3⟩ => ?_) hs
  subst ex ey ev
  obtain rfl : u = Value.ref a := rx
  obtain rfl : iv = Value.ref b := ry
  obtain rfl : r = Value.bool w := rv
  obtain ⟨dd, hd⟩ := memo_dict I3 g ok
  refine wpAny_setItem_heap (knd := nestedKind X.prog X.w) (hsz := lineLe hl) (by show X.A.units + 1 + 8 < cLine; omega) ⟨IK.is I3 _ _ _ ik rfl, dp⟩ dd fun h' dd' hsb => ?_
  obtain ⟨o', es, ep, e1, e2, e3, e4, e5, e6⟩ := dd'
  have nk := stored_num (k := k) (b := b) (v := .bool w) (fun x hx => IK.num _ _ (ok x hx).1) (IK.num _ _ ik)
  refine ⟨σ, _, d_write (ob := .ext (memoP a (storedH xs k b (.bool w)))) I3 (by rw [g]; exact True.intro) hsb ⟨o', e1⟩ ⟨⟨o', es, ep, e1, e2, e3, fun w' => ?_, e6, hd⟩, ⟨o', e1⟩, memoP_stay⟩, q3⟩
  rw [e4]
  refine List.map_congr_left fun x hx => ?_
  show (⟨NestedKey.hash X.w x.1, .ref x.2.1, x.2.2⟩ : DictEntry) = _
  rw [hash_w (w' := w') x.1 (nk x hx)]
end
end Pu

namespace Pu
open PySem PySem.Spec PyProof.Rows L2
variable [MemoSpec]
/-! ### how many keys there can be -/
theorem nat_few : ∀ (n : Nat) (l : List Nat), l.Nodup → (∀ x ∈ l, x < n) → l.length ≤ n
  | 0, [], _, _ => Nat.le_refl _
  | 0, x :: l, _, h => absurd (h x (by simp)) (Nat.not_lt_zero _)
  | n + 1, l, nd, h => by
    have h1 := nat_few n (l.filter fun x => decide (x ≠ n)) (nd.filter _) (fun x hx => by
      obtain ⟨a, b⟩ := List.mem_filter.mp hx
      have := h x a
      have : x ≠ n := by simpa using b
      omega)
    have h2 : l.length ≤ (l.filter fun x => decide (x ≠ n)).length + 1 := by
      clear h1 h
      induction l with
      | nil => simp
      | cons y l ih =>
        obtain ⟨a, b⟩ := List.nodup_cons.mp nd
        by_cases e : y = n
        · subst e
          have : (l.filter fun x => decide (x ≠ y)) = l := List.filter_eq_self.mpr fun x hx => by
            have : x ≠ y := fun q => a (q ▸ hx)
            simpa using this
          rw [List.filter_cons]
          simp only [ne_eq, decide_not, decide_true, Bool.not_true, Bool.false_eq_true, if_false, List.length_cons]
          simp only [ne_eq, decide_not] at this
          rw [this]
          exact Nat.le_refl _
        · have := ih b
          simp [e]
          simpa using this
    omega
def cntCode : List NestedKey → Nat
  | [] => 0
  | .num c :: ks => c.toNat + 1 + 7 * cntCode ks
  | _ :: ks => 7 * cntCode ks
def keyCode : NestedKey → Nat
  | .tup [.num p, .tup ns] => p.toNat + 21 * cntCode ns
  | _ => 0
theorem cntCode_lt : ∀ (n : Nat) (ks : List NestedKey), ks.length ≤ n → ks.all cntB = true → cntCode ks < 7 ^ n
  | n, [], _, _ => by unfold cntCode; exact Nat.pow_pos (by omega)
  | 0, k :: ks, h, _ => by simp at h
  | n + 1, k :: ks, h, hb => by
    rw [List.all_cons] at hb
    obtain ⟨h1, h2⟩ := Bool.and_eq_true_iff.mp hb
    have ih := cntCode_lt n ks (by simpa using h) h2
    cases k with
    | num c =>
      unfold cntB at h1
      simp only [Bool.and_eq_true, decide_eq_true_eq] at h1
      unfold cntCode
      rw [Nat.pow_succ]
      omega
    | none => cases h1
    | text x => cases h1
    | tup ks => cases h1
theorem cntCode_inj : ∀ (ks js : List NestedKey), ks.all cntB = true → js.all cntB = true → cntCode ks = cntCode js → ks = js
  | [], [], _, _, _ => rfl
  | [], j :: js, _, h, e => by
    rw [List.all_cons] at h
    obtain ⟨h1, h2⟩ := Bool.and_eq_true_iff.mp h
    cases j <;> first | (cases h1; done) | skip
    unfold cntCode at e
    omega
  | k :: ks, [], h, _, e => by
    rw [List.all_cons] at h
    obtain ⟨h1, h2⟩ := Bool.and_eq_true_iff.mp h
    cases k <;> first | (cases h1; done) | skip
    unfold cntCode at e
    omega
  | k :: ks, j :: js, h, h', e => by
    rw [List.all_cons] at h h'
    obtain ⟨h1, h2⟩ := Bool.and_eq_true_iff.mp h
    obtain ⟨h3, h4⟩ := Bool.and_eq_true_iff.mp h'
    cases k <;> first | (cases h1; done) | skip
    cases j <;> first | (cases h3; done) | skip
    rename_i c d
    unfold cntB at h1 h3
    simp only [Bool.and_eq_true, decide_eq_true_eq] at h1 h3
    unfold cntCode at e
    have e1 : c = d := by omega
    have e2 : cntCode ks = cntCode js := by omega
    rw [e1, cntCode_inj ks js h2 h4 e2]
theorem keyB_inv {k : NestedKey} (h : keyB k = true) : ∃ p ns, k = .tup [.num p, .tup ns] ∧ 0 ≤ p ∧ p ≤ 20 ∧ ns.length ≤ 4 ∧ ns.all cntB = true := by
  unfold keyB at h
  split at h
  · rename_i p ns
    simp only [Bool.and_eq_true, decide_eq_true_eq] at h
    exact ⟨p, ns, rfl, h.1, h.2.1, h.2.2.1, h.2.2.2⟩
  · cases h
theorem nodup_code (inj : ∀ k j, keyB k = true → keyB j = true → keyCode k = keyCode j → k = j) : ∀ {ks : List NestedKey}, ks.Nodup → (∀ k ∈ ks, keyB k = true) → (ks.map keyCode).Nodup
  | [], _, _ => List.nodup_nil
  | k :: ks, nd, h => by
    obtain ⟨a, b⟩ := List.nodup_cons.mp nd
    rw [List.map_cons]
    refine List.nodup_cons.mpr ⟨fun m => ?_, nodup_code inj b fun j hj => h j (by simp [hj])⟩
    obtain ⟨j, hj, e⟩ := List.mem_map.mp m
    exact a (by rw [inj k j (h k (by simp)) (h j (by simp [hj])) e.symm]; exact hj)
theorem keys_few {xs : List (NestedKey × Addr × Value)} (nd : (xs.map (·.1)).Nodup) (hk : ∀ x ∈ xs, keyB x.1 = true) : xs.length ≤ 60000 := by
  have inj : ∀ k j, keyB k = true → keyB j = true → keyCode k = keyCode j → k = j := fun k j h1 h2 e => by
    obtain ⟨p, ns, rfl, a1, a2, a3, a4⟩ := keyB_inv h1
    obtain ⟨q, ms, rfl, b1, b2, b3, b4⟩ := keyB_inv h2
    have e : p.toNat + 21 * cntCode ns = q.toNat + 21 * cntCode ms := e
    have e1 : p = q := by omega
    have e2 : cntCode ns = cntCode ms := by omega
    rw [e1, cntCode_inj ns ms a4 b4 e2]
  have := nat_few 60000 ((xs.map (·.1)).map keyCode) (nodup_code inj nd fun k hk1 => by obtain ⟨y, hy, rfl⟩ := List.mem_map.mp hk1; exact hk y hy) (fun x hx => by
    obtain ⟨k, hk1, rfl⟩ := List.mem_map.mp hx
    obtain ⟨y, hy, rfl⟩ := List.mem_map.mp hk1
    obtain ⟨p, ns, e, a1, a2, a3, a4⟩ := keyB_inv (hk y hy)
    rw [e]
    have := cntCode_lt 4 ns a3 a4
    show p.toNat + 21 * cntCode ns < 60000
    omega)
  rw [List.length_map, List.length_map] at this
  exact this
end Pu

namespace Pu
open PySem PySem.Spec PyProof.Rows L2
variable [MemoSpec]
/-! ### a Sharer as data: its fields, its methods, its making -/
abbrev shC (K : PySem.W.Frag) : Addr := He.ga K "Sharer"
structure FnM (P : Program) (w : World) (K : PySem.W.Frag) (mg : Str → Option Value) (base : Heap) (k : Nat) (m : Str) (n : Nat) (F : List PyData → R PyData) : Prop where
  ex : ∃ f fd ps, Meth K (shC K) m f ∧ Binds K fd ps [] ∧ FnOk P w K mg base (L2N.CX P w) k f fd ps (spD K mg n F)
theorem FnM.mono {P : Program} {w : World} {K : PySem.W.Frag} {mg : Str → Option Value} {base : Heap} {k k' : Nat} {x : Str} {n : Nat} {F : List PyData → R PyData} (h : FnM P w K mg base k x n F) (l : k ≤ k') : FnM P w K mg base k' x n F := by
  obtain ⟨f, fd, ps, h1, h2, h3⟩ := h.ex
  exact ⟨f, fd, ps, h1, h2, h3.mono l⟩
def okO : R PyData → R PyData
  | .ok d => .ok d
  | _ => .no
def dMethM (n : Nat) (F : List PyData → R PyData) (fo : Ro → R PyData) (fa : Ro → R (List PyData)) : Ro → R PyData := fun ρ => (fo ρ).bind fun d => if isSh d then (fa ρ).bind fun ds => if ds.length + 1 = n then okO (F (d :: ds)) else .no else .no
theorem pass_no {X : Cx} : Passes (L2N.CX X.prog X.w) X (fun _ _ _ => False) := fun _ _ _ _ _ _ _ ⟨_, _, _, _, _, _, _, _, _, _, _, _, h⟩ => h.elim
def shBook : PyData → Option PyData
  | .dict [(.none, .tuple [bk, _])] => some bk
  | _ => none
def shRow : PyData → Option PyData
  | .dict [(.none, .tuple [_, cs])] => some cs
  | _ => none
theorem DO.sh_inv {K : PySem.W.Frag} {O : Addr → Prop} {H : Hp} {v : V} {d : PyData} (h : DO K O H v d) (hs : isSh d = true) : ∃ p dx a vb vr bk cs, v = .ref p ∧ d = shD bk cs ∧ H p = some (.ins (shC K) dx [("book", vb), ("row", vr), ("known", .ref a)]) ∧ ¬ O p ∧ ClsNot K ∧ DO K O H vb bk ∧ DO K O H vr cs ∧ MemoAt K H a bk cs := by
  cases h with
  | shr s n c q1 q2 m => exact ⟨_, _, _, _, _, _, _, rfl, rfl, s, n, c, q1, q2, m⟩
  | dct s n k => rw [isSh_key k] at hs; cases hs
  | dcT s n k => rw [isSh_keyT k] at hs; cases hs
  | non => cases hs
  | bl _ => cases hs
  | int _ => cases hs
  | str _ _ => cases hs
  | lst _ _ _ => cases hs
  | tup _ _ _ => cases hs
theorem shBook_inv {d z : PyData} (h : shBook d = some z) : ∃ cs, d = shD z cs := by
  unfold shBook at h
  split at h
  · cases h; exact ⟨_, rfl⟩
  · cases h
theorem shRow_inv {d z : PyData} (h : shRow d = some z) : ∃ bk, d = shD bk z := by
  unfold shRow at h
  split at h
  · cases h; exact ⟨_, rfl⟩
  · cases h
section
variable {X : Cx} {W : WX} {o e : Expr} {es : List Expr} {fo : Ro → R PyData} {fa : Ro → R (List PyData)} {n k : Nat} {F : List PyData → R PyData} {m : Str} {apos pos p : Pos}
theorem pd_book (no : NoAttr X.K (shC X.K) "book") (he : PD X W o fo) (hb : attributeBase o "book" X.env (eval o X.env) = eval o X.env := by rfl) : PD X W (.Attribute o "book" pos) (dUn shBook fo) := by
  refine peW (pe_fld he hb) fun σ H Q h => ?_
  obtain ⟨B, G, fp, ρ, S, h⟩ := tD_iff.mp h
  refine tD_iff.mpr ⟨B, G, fp, ρ, S, Aft.bind h fun d _ h => fun v H1 s1 d1 => ?_⟩
  obtain ⟨z, e2, q⟩ := h.of_some
  obtain ⟨cs, rfl⟩ := shBook_inv e2
  obtain ⟨p, dx, a, vb, vr, bk, cs', rfl, ed, h1, h2, h3, h4, h5, h6⟩ := d1.sh_inv rfl
  cases ed
  exact ⟨p, shC X.K, dx, _, vb, rfl, h1, h3.cl, no, rfl, q vb H1 s1 h4⟩
theorem pd_row (no : NoAttr X.K (shC X.K) "row") (he : PD X W o fo) (hb : attributeBase o "row" X.env (eval o X.env) = eval o X.env := by rfl) : PD X W (.Attribute o "row" pos) (dUn shRow fo) := by
  refine peW (pe_fld he hb) fun σ H Q h => ?_
  obtain ⟨B, G, fp, ρ, S, h⟩ := tD_iff.mp h
  refine tD_iff.mpr ⟨B, G, fp, ρ, S, Aft.bind h fun d _ h => fun v H1 s1 d1 => ?_⟩
  obtain ⟨z, e2, q⟩ := h.of_some
  obtain ⟨bk, rfl⟩ := shRow_inv e2
  obtain ⟨p, dx, a, vb, vr, bk', cs', rfl, ed, h1, h2, h3, h4, h5, h6⟩ := d1.sh_inv rfl
  cases ed
  exact ⟨p, shC X.K, dx, _, vr, rfl, h1, h3.cl, no, rfl, q vr H1 s1 h5⟩
theorem meth_run (FM : FnM X.prog X.w X.K X.mg X.base k m n F) {f : Addr} (hm1 : (m == ("book" : Str)) = false) (hm2 : (m == ("row" : Str)) = false) (hm3 : (m == ("known" : Str)) = false) {σ : St} {H : Hp} {Q : VK} (h : tD X.K X.mg W (dMethM n F fo fa) σ H Q) :
    tMeth (shC X.K) m (spD X.K X.mg n F) [] (fun _ _ _ => False) (tD X.K X.mg W fo) (tAD X.K X.mg W fa) σ H Q := by
  obtain ⟨B, G, fp, ρ, S, h⟩ := tD_iff.mp h
  refine tD_iff.mpr ⟨B, G, fp, ρ, S, Aft.bind h fun d _ h => fun v H1 s1 d1 => ?_⟩
  by_cases sh : isSh d = true
  · rw [if_pos sh] at h
    obtain ⟨p, dx, a, vb, vr, bk, cs, rfl, ed, h1, h2, h3, h4, h5, h6⟩ := d1.sh_inv sh
    refine ⟨p, dx, _, rfl, h1, by simp [List.lookup, hm1, hm2, hm3], ?_⟩
    refine tAD_iff.mpr ⟨B, G, fp, ρ, S.mono s1, Aft.later s1 (Aft.bind h fun ds _ h => fun vs H2 s2 d2 => ?_)⟩
    rw [List.append_nil]
    split at h
    · rename_i hl
      refine ⟨by rw [List.length_cons, d2.length]; exact hl, Ow G fp, d :: ds, ((S.mono s1).mono s2).trk, .cons (d1.same s2) d2, ?_⟩
      cases k : F (d :: ds) with
      | ok z => rw [k] at h; exact fun v H' s' dv => h v H' ((s1.trans s2).trans s') dv
      | ex x => rw [k] at h; exact h.elim
      | no => rw [k] at h; exact h.elim
    · exact h.elim
  · rw [if_neg sh] at h
    exact h.elim
theorem pd_methM {pl : Sem Bool} (FM : FnM X.prog X.w X.K X.mg X.base k m n F) (cl : Cls X.K (shC X.K)) (hr : Room k X.A) (he : PD X W o fo) (ha : PAs X W (e :: es) fa) (hm1 : (m == ("book" : Str)) = false := by decide) (hm2 : (m == ("row" : Str)) = false := by decide) (hm3 : (m == ("known" : Str)) = false := by decide)
    (hst : starEach (e :: es) X.env = (false, eval e X.env) :: starEach es X.env := by rfl) (hpl : (backTo pos (starEach es X.env)).any (·.1) = false := by rfl)
    (ht : eval (.Call (.Attribute o m apos) (e :: es) [] pos) X.env = (do
      let ov ← eval o X.env
      standAt apos.atName
      let (f, first) ← holding [ov] (getMethod ov m pl)
      callWith pos f first (backTo pos (starEach (e :: es) X.env)) (backToKw pos (keywordEach [] X.env))) := by rfl) :
    PD X W (.Call (.Attribute o m apos) (e :: es) [] pos) (dMethM n F fo fa) := by
  obtain ⟨f, fd, ps, h1, h2, h3⟩ := FM.ex
  exact peW (pe_meth he cl h1 h3 hr h2 .nil pass_no ha hst hpl ht) fun σ H Q h => meth_run FM (f := f) hm1 hm2 hm3 h
theorem pd_methM0 {pl : Sem Bool} (FM : FnM X.prog X.w X.K X.mg X.base k m n F) (cl : Cls X.K (shC X.K)) (hr : Room k X.A) (he : PD X W o fo) (hm1 : (m == ("book" : Str)) = false := by decide) (hm2 : (m == ("row" : Str)) = false := by decide) (hm3 : (m == ("known" : Str)) = false := by decide)
    (ht : eval (.Call (.Attribute o m apos) [] [] pos) X.env = (do
      let ov ← eval o X.env
      standAt apos.atName
      let (f, first) ← holding [ov] (getMethod ov m pl)
      callWith pos f first (backTo pos (starEach [] X.env)) (backToKw pos (keywordEach [] X.env))) := by rfl) :
    PD X W (.Call (.Attribute o m apos) [] [] pos) (dMethM n F fo dNil) := by
  obtain ⟨f, fd, ps, h1, h2, h3⟩ := FM.ex
  refine peW (pe_meth0 he cl h1 h3 hr h2 .nil pass_no ht) fun σ H Q h => ?_
  have q := meth_run (fa := dNil) FM (f := f) hm1 hm2 hm3 h
  obtain ⟨B, G, fp, ρ, S, q⟩ := tD_iff.mp q
  refine tD_iff.mpr ⟨B, G, fp, ρ, S, Aft.imp q fun d _ q => fun v H1 s1 d1 => ?_⟩
  obtain ⟨a, dx, fs, h4, h5, h6, h7⟩ := q v H1 s1 d1
  exact ⟨a, dx, fs, h4, h5, h6, tAD_nil h7⟩
/-! making -/
def spI (K : PySem.W.Frag) : Sp := fun vs H Q _ => ∃ x dx vb vr, vs = [.ref x, vb, vr] ∧ H x = some (.ins (shC K) dx []) ∧
  ∀ H' a, (∀ b u, b ≠ x → H b = some u → H' b = some u) → H a = none → H' a = some (.ext (memoP a [])) → H' x = some (.ins (shC K) dx [("book", vb), ("row", vr), ("known", .ref a)]) → Q .non H'
open Classical in
/-- Sharer(b, c), where just this book and these calls are wanted -/
noncomputable def mkSh (bk cs : PyData) : List PyData → Option PyData
  | [b, c] => if b = bk ∧ c = cs then some (shD bk cs) else none
  | _ => none
theorem mkSh_at (bk cs : PyData) : mkSh bk cs [bk, cs] = some (shD bk cs) := by
  unfold mkSh
  exact if_pos ⟨rfl, rfl⟩
theorem mkSh_inv {bk cs : PyData} {ds : List PyData} {z : PyData} (h : mkSh bk cs ds = some z) : ds = [bk, cs] ∧ z = shD bk cs := by
  unfold mkSh at h
  split at h
  · split at h
    · rename_i e
      rw [e.1, e.2]
      exact ⟨rfl, (Option.some.inj h).symm⟩
    · cases h
  · cases h
theorem pd_mkM {f : Addr} {fd : FuncData} {ps : List Str} (M : Mk X.K (shC X.K) f) (cn : ClsNot X.K) (FI : FnOk X.prog X.w X.K X.mg X.base (L2N.CX X.prog X.w) k f fd ps (spI X.K)) (hr : Room (k + 1) X.A) (hg : Gl X "Sharer") (gm : X.mg "Sharer" = some (.ref (shC X.K))) (hb : Binds X.K fd ps []) (hon : MemoSpec.on) (hK : X.K = MemoSpec.K) (ha : PAs X W (e :: es) fa)
    (he : starEach (e :: es) X.env = (false, eval e X.env) :: starEach es X.env := by rfl) (hpl : (backTo pos (starEach es X.env)).any (·.1) = false := by rfl) : PD X W (.Call (.Name "Sharer" p) (e :: es) [] pos) (dCall (mkSh MemoSpec.bk MemoSpec.cs) fa) := by
  refine peW (pe_make M FI hr hg gm hb .nil pass_no ha (by decide) he hpl) fun σ H Q h => ?_
  obtain ⟨B, G, fp, ρ, S, h⟩ := tD_iff.mp h
  refine tAD_iff.mpr ⟨B, G, fp, ρ, S, Aft.bind h fun ds _ h => fun vs H1 s1 d1 => ?_⟩
  obtain ⟨z, e2, q⟩ := h.of_some
  intro x dx nx nd ne
  obtain ⟨e3, e4⟩ := mkSh_inv e2
  subst e3 e4
  match vs, d1 with
  | _, .cons q1 (.cons q2 .nil) =>
    refine ⟨x, dx, _, _, rfl, upd_same, fun H' a k1 k2 k3 k4 => ?_⟩
    have hax : a ≠ x := fun e => by subst e; rw [upd_same] at k2; cases k2
    have had : a ≠ dx := fun e => by subst e; rw [upd_ne hax, upd_same] at k2; cases k2
    have na : H1 a = none := by rw [upd_ne hax, upd_ne had] at k2; exact k2
    have sm0 : L2.Same H1 H' := fun b u hb => k1 b u (ne_of_none hb nx) (by rw [upd_ne (ne_of_none hb nx), upd_ne (ne_of_none hb nd)]; exact hb)
    have sm : Same H1 H' := .of sm0
    refine ⟨rfl, q _ H' (s1.trans sm) (.shr k4 ((S.mono s1).new nx) cn (q1.same sm) (q2.same sm) ⟨⟨hon, hK, rfl, rfl⟩, [], k3, List.nodup_nil, fun _ h => by cases h⟩)⟩
end
end Pu

namespace Pu
open PySem PySem.Spec PyProof.Rows L2
variable [MemoSpec]
/-! ### methods from their bodies -/
def clsStmt (s : Stmt) (i : Nat) : Stmt := match s with
  | .ClassDef _ _ _ b _ _ _ _ _ _ _ => b.getD i (.Pass ⟨0, 0, 0, 0⟩)
  | _ => .Pass ⟨0, 0, 0, 0⟩
def clsNotB (K : PySem.W.Frag) : Bool := He.eqO (PySem.W.findIn K (.ref (shC K)) "__class__") (some (some (.builtin "object.__class__"))) && (He.eqO (PySem.W.specialIn K (.builtin "object.__class__") "__get__") (some (some (.builtin "getset_descriptor.__get__"))) &&
  (decide (PySem.W.takesIn K (.builtin "object.__class__") = some true) && (decide (PySem.W.mroIn K (shC K) (.type "object") = some true) && clsNames.all fun T => decide (PySem.W.kitOne K (.ref (shC K)) (.type T) = some false))))
theorem clsNotB_ok {K : PySem.W.Frag} (cl : Cls K (shC K)) (h : clsNotB K = true) : ClsNot K := by
  unfold clsNotB at h
  obtain ⟨h1, h⟩ := He.ba h
  obtain ⟨h2, h⟩ := He.ba h
  obtain ⟨h3, h⟩ := He.ba h
  obtain ⟨h4, h⟩ := He.ba h
  exact ⟨cl, He.eqO_ok h1, He.eqO_ok h2, of_decide_eq_true h3, of_decide_eq_true h4, fun T hT => of_decide_eq_true (List.all_eq_true.mp h T hT)⟩
abbrev FnPM (K : PySem.W.Frag) (m q : Str) (st : Stmt) (f : Addr) (fd : FuncData) : Prop := FunD K m q (defArgs st) (defBody st) (defScope st) [] [] f fd
section
variable {P : Program} {w : World} {K : PySem.W.Frag} {mg : Str → Option Value} {base : Heap}
theorem fn_pureXM {m q : Str} {st : Stmt} {f : Addr} {fd : FuncData} {N ps : List Str} {k : Nat} {fb : Ro → Fl} (F : FnPM K m q st f fd) (S : FnScope N ps (defScope st))
    (body : ∀ (cdv : Value) (A : Around) (outer : List Env) (s : Shared) (H : Hp) (E : XK), Bd (cxOf (L2N.CX P w) P w K mg base N q (defScope st) f cdv A outer s H E) (fun cls d _ H => E cls d H) k →
      PSDs (cxOf (L2N.CX P w) P w K mg base N q (defScope st) f cdv A outer s H E) (fun cls d _ H => E cls d H) (defBody st) fb) : FnOk P w K mg base (L2N.CX P w) (k + 1) f fd ps (spD K mg ps.length (runD N.length fb)) := by
  refine F.ok S (fun vs H Q E h => h.1) fun cdv A outer s H vs Q E hr h => ?_
  obtain ⟨hl, G, ds, hG, hd, hF⟩ := h
  refine ⟨_, body cdv A outer s H E ⟨hr, L2N.takes_of rfl rfl rfl rfl, passes_of rfl⟩, H, G, fun _ => [], startR N.length ds, SR.start hG hd, ?_⟩
  unfold runD at hF
  have gl : ∀ {fp' : Nat → List Addr} (a : Addr), G a → Ow G fp' a := fun a ha => .inl ha
  cases e : fb (startR N.length ds) with
  | nx ρ => rw [e] at hF; exact fun σ' H' fp' S' _ => hF .non H' S'.same .non
  | bk ρ => rw [e] at hF; exact hF.elim
  | ct ρ => rw [e] at hF; exact hF.elim
  | rt d => rw [e] at hF; exact fun v H' s' dv => hF v H' s' dv
  | ex x ρ =>
    rw [e] at hF
    refine fun cls dd σ' H' fp' S' _ xr => hF cls dd H' S'.same ⟨xr.1, ?_⟩
    obtain ⟨c, arg⟩ := x
    cases arg with
    | none => exact xr.2
    | some d => obtain ⟨a, v, q1, q2, q3⟩ := xr.2; exact ⟨a, v, q1, q2, q3.less gl⟩
  | no => rw [e] at hF; exact hF.elim
theorem fn_pureM {m q : Str} {st : Stmt} {f : Addr} {fd : FuncData} {N ps : List Str} {k : Nat} {fb : Ro → Fl} (F : FnPM K m q st f fd) (S : FnScope N ps (defScope st)) (hm : Meth K (shC K) m f) (hb : Binds K fd ps [])
    (body : ∀ (cdv : Value) (A : Around) (outer : List Env) (s : Shared) (H : Hp) (E : XK), Bd (cxOf (L2N.CX P w) P w K mg base N q (defScope st) f cdv A outer s H E) (fun cls d _ H => E cls d H) k →
      PSDs (cxOf (L2N.CX P w) P w K mg base N q (defScope st) f cdv A outer s H E) (fun cls d _ H => E cls d H) (defBody st) fb) : FnM P w K mg base (k + 1) m ps.length (runD N.length fb) := ⟨f, fd, ps, hm, hb, fn_pureXM F S body⟩
end
/-! ### can_be -/
def cntOk : PyData → Bool
  | .int c => decide (0 ≤ c) && decide (c ≤ 5)
  | _ => false
/-- a key that is remembered -/
def kOk (p : Int) (cts : List PyData) : Bool := decide (0 ≤ p) && (decide (p ≤ 20) && (decide (cts.length ≤ 4) && cts.all cntOk))
def boolR : R PyData → R PyData
  | .ok (.bool b) => .ok (.bool b)
  | _ => .no
def canF (F : List PyData → R PyData) : List PyData → R PyData
  | [.dict [(.none, .tuple [bk, cs])], .int p, .tuple cts] => if kOk p cts then boolR (F [shD bk cs, .int p, .tuple cts]) else .no
  | _ => .no
theorem boolR_ok {r : R PyData} (h : boolR r ≠ .no) : ∃ b, r = .ok (.bool b) := by
  unfold boolR at h
  split at h
  · exact ⟨_, rfl⟩
  · exact (h rfl).elim
theorem canF_at (F : List PyData → R PyData) (bk cs : PyData) (p : Int) (cts : List PyData) : canF F [shD bk cs, .int p, .tuple cts] = if kOk p cts then boolR (F [shD bk cs, .int p, .tuple cts]) else .no := rfl
theorem canF_ok {F : List PyData → R PyData} {ds : List PyData} (h : canF F ds ≠ .no) : ∃ bk cs p cts b, ds = [shD bk cs, .int p, .tuple cts] ∧ kOk p cts = true ∧ F ds = .ok (.bool b) ∧ canF F ds = .ok (.bool b) := by
  have sh : ∃ bk cs p cts, ds = [shD bk cs, .int p, .tuple cts] := by
    unfold canF at h
    split at h
    · exact ⟨_, _, _, _, rfl⟩
    · exact (h rfl).elim
  obtain ⟨bk, cs, p, cts, rfl⟩ := sh
  rw [canF_at] at h ⊢
  by_cases hk : kOk p cts = true
  · rw [if_pos hk] at h ⊢
    obtain ⟨b, e⟩ := boolR_ok h
    exact ⟨bk, cs, p, cts, b, rfl, hk, e, by rw [e]; rfl⟩
  · rw [if_neg hk] at h
    exact (h rfl).elim
/-- the key of data -/
def keyOf (p : Int) (cts : List PyData) : NestedKey := .tup [.num p, .tup (cts.map fun d => match d with | .int c => .num c | _ => .none)]
theorem keyOf_B {p : Int} {cts : List PyData} (h : kOk p cts = true) : keyB (keyOf p cts) = true ∧ (keyOf p cts).depth ≤ 8 ∧ (keyOf p cts).data = .tuple [.int p, .tuple cts] ∧ ∀ d ∈ cts, ∃ c, d = .int c := by
  unfold kOk at h
  simp only [Bool.and_eq_true, decide_eq_true_eq] at h
  obtain ⟨h1, h2, h3, h4⟩ := h
  have ci : ∀ d ∈ cts, ∃ c, d = .int c ∧ 0 ≤ c ∧ c ≤ 5 := fun d hd => by
    have := List.all_eq_true.mp h4 d hd
    cases d <;> first | (cases this; done) | skip
    rename_i c
    unfold cntOk at this
    simp only [Bool.and_eq_true, decide_eq_true_eq] at this
    exact ⟨c, rfl, this⟩
  have dep : ∀ cts : List PyData, (∀ d ∈ cts, ∃ c, d = .int c ∧ 0 ≤ c ∧ c ≤ 5) → NestedKey.depthAll (cts.map fun d => match d with | .int c => .num c | _ => .none) = 0 ∧ NestedKey.datas (cts.map fun d => match d with | .int c => .num c | _ => .none) = cts := by
    intro cts
    induction cts with
    | nil => intro _; exact ⟨rfl, rfl⟩
    | cons d cts ih =>
      intro ci
      obtain ⟨c, e, _⟩ := ci d (by simp)
      obtain ⟨i1, i2⟩ := ih fun x hx => ci x (by simp [hx])
      subst e
      rw [List.map_cons]
      unfold NestedKey.depthAll NestedKey.datas
      rw [i1, i2]
      exact ⟨rfl, rfl⟩
  obtain ⟨d1, d2⟩ := dep cts ci
  refine ⟨?_, ?_, ?_, fun d hd => let ⟨c, e, _⟩ := ci d hd; ⟨c, e⟩⟩
  · unfold keyOf keyB
    simp only [Bool.and_eq_true, decide_eq_true_eq, List.length_map]
    refine ⟨h1, h2, h3, List.all_eq_true.mpr fun k hk => ?_⟩
    obtain ⟨d, hd, e⟩ := List.mem_map.mp hk
    obtain ⟨c, rfl, c1, c2⟩ := ci d hd
    subst e
    simp [cntB, c1, c2]
  · unfold keyOf NestedKey.depth NestedKey.depthAll NestedKey.depthAll NestedKey.depthAll NestedKey.depth
    rw [d1]
    simp [NestedKey.depth]
  · unfold keyOf NestedKey.data NestedKey.datas NestedKey.datas NestedKey.datas NestedKey.data
    rw [d2]
theorem cts_IK {K : PySem.W.Frag} {O : Addr → Prop} {H : Hp} : ∀ {vs : List V} {cts : List PyData}, DOs K O H vs cts → (∀ d ∈ cts, ∃ c, d = .int c) → IKs K H vs (cts.map fun d => match d with | .int c => .num c | _ => .none)
  | _, [], h, _ => by cases h; exact .nil
  | _, d :: cts, h, ci => by
    cases h with
    | cons a b =>
      obtain ⟨c, rfl⟩ := ci d (by simp)
      cases a
      exact .cons (.int c) (cts_IK b fun x hx => ci x (by simp [hx]))
theorem key_IK {K : PySem.W.Frag} {O : Addr → Prop} {H : Hp} {vc : V} {p : Int} {cts : List PyData} {t : Addr} (h : DO K O H vc (.tuple cts)) (ci : ∀ d ∈ cts, ∃ c, d = .int c) (ht : H t = some (.tup [.int p, vc])) : IK K H (.ref t) (keyOf p cts) := by
  cases h with
  | tup s q _ => exact .tup (.inl (.inl ht)) (.cons (.int p) (.cons (.tup s.sq (cts_IK q ci)) .nil))
end Pu

namespace Pu
open PySem PySem.Spec PyProof.Rows L2
variable [MemoSpec]
theorem atKey_mem {xs : List (NestedKey × Addr × Value)} {k : NestedKey} {e : Addr × Value} (h : atKey xs k = some e) : (k, e.1, e.2) ∈ xs := by
  unfold atKey at h
  obtain ⟨x, h1, h2⟩ := Option.map_eq_some_iff.mp h
  have h3 := List.find?_some h1
  have h4 := List.mem_of_find?_eq_some h1
  have h5 : x.1 = k := of_decide_eq_true h3
  obtain ⟨x1, x2, x3⟩ := x
  simp only at h2 h5
  subst h5
  rw [← h2]
  exact h4
theorem atKey_not {xs : List (NestedKey × Addr × Value)} {k : NestedKey} (h : atKey xs k = none) : k ∉ xs.map (·.1) := by
  intro m
  obtain ⟨x, hx, e⟩ := List.mem_map.mp m
  unfold atKey at h
  rw [Option.map_eq_none_iff, List.find?_eq_none] at h
  have := h x hx
  simp [e] at this
theorem atKey_new {xs : List (NestedKey × Addr × Value)} {k : NestedKey} {b : Addr} {v : Value} (h : atKey xs k = none) : atKey (xs ++ [(k, b, v)]) k = some (b, v) := by
  unfold atKey at h ⊢
  rw [Option.map_eq_none_iff] at h
  rw [List.find?_append, h]
  simp
theorem atKey_old {xs : List (NestedKey × Addr × Value)} {k : NestedKey} {e : Addr × Value} {v : Value} (h : atKey xs k = some e) : atKey (xs.map (putAt k v)) k = some (e.1, v) := by
  induction xs with
  | nil => cases h
  | cons x xs ih =>
    unfold atKey at h ih ⊢
    rw [List.map_cons, List.find?_cons]
    rw [List.find?_cons] at h
    by_cases q : x.1 = k
    · simp only [q, decide_true] at h
      have hp : putAt k v x = (x.1, x.2.1, v) := by unfold putAt; rw [if_pos q]
      rw [hp]
      simp only [q, decide_true, Option.map_some]
      cases h
      rfl
    · simp only [q, decide_false] at h
      have hp : putAt k v x = x := by unfold putAt; rw [if_neg q]
      rw [hp]
      simp only [q, decide_false]
      exact ih h
theorem atKey_stored (xs : List (NestedKey × Addr × Value)) (k : NestedKey) (b : Addr) (v : Value) : ∃ e, atKey (storedH xs k b v) k = some (e, v) := by
  cases h : atKey xs k with
  | none => rw [storedH_new h]; exact ⟨b, atKey_new h⟩
  | some e => rw [storedH_old h]; exact ⟨e.1, atKey_old h⟩
def EntOk (K : PySem.W.Frag) (H : Hp) (bk cs : PyData) (xs : List (NestedKey × Addr × Value)) : Prop := ∀ x ∈ xs, IK K H (.ref x.2.1) x.1 ∧ x.1.depth ≤ 8 ∧ keyB x.1 = true ∧ ∃ b : Bool, x.2.2 = .bool b ∧ MemoSpec.rel bk cs x.1.data (.bool b)
theorem EntOk.keys {K : PySem.W.Frag} {H : Hp} {bk cs : PyData} {xs : List (NestedKey × Addr × Value)} (h : EntOk K H bk cs xs) : KeysOk K H xs := fun x hx => ⟨(h x hx).1, (h x hx).2.1⟩
theorem EntOk.keep {K : PySem.W.Frag} {H H' : Hp} {bk cs : PyData} {xs : List (NestedKey × Addr × Value)} (t : ∀ a xs, Rd H a (.tup xs) → Rd H' a (.tup xs)) (h : EntOk K H bk cs xs) : EntOk K H' bk cs xs := fun x hx => ⟨IK.keep t _ _ (h x hx).1, (h x hx).2⟩
/-- what is remembered becomes more -/
theorem memo_put {K : PySem.W.Frag} {H : Hp} {a b : Addr} {bk cs : PyData} {xs : List (NestedKey × Addr × Value)} {k : NestedKey} {w : Bool} (on : MemoSpec.on ∧ K = MemoSpec.K ∧ bk = MemoSpec.bk ∧ cs = MemoSpec.cs) (h : H a = some (.ext (memoP a xs))) (nd : (xs.map (·.1)).Nodup)
    (ok : EntOk K H bk cs xs) (ik : IK K H (.ref b) k) (dp : k.depth ≤ 8) (kb : keyB k = true) (hr : MemoSpec.rel bk cs k.data (.bool w)) : Same H (upd H a (.ext (memoP a (storedH xs k b (.bool w))))) ∧ EntOk K (upd H a (.ext (memoP a (storedH xs k b (.bool w))))) bk cs (storedH xs k b (.bool w)) := by
  have tup2 : ∀ c xs', Rd H c (.tup xs') → Rd (upd H a (.ext (memoP a (storedH xs k b (.bool w))))) c (.tup xs') := fun c xs' r => by
    have hc : c ≠ a := by
      intro e
      subst e
      rcases r with r | ⟨ob, r⟩
      · rw [h] at r; cases r
      · rw [h] at r; cases r
    rcases r with r | ⟨ob, r⟩
    · exact .inl (by rw [upd_ne hc]; exact r)
    · exact .inr ⟨ob, by rw [upd_ne hc]; exact r⟩
  have nd2 : ((storedH xs k b (.bool w)).map (·.1)).Nodup := by
    cases hn : atKey xs k with
    | none =>
      rw [storedH_new hn, List.map_append]
      refine List.nodup_append.mpr ⟨nd, by simp, fun x h1 y h2 e => ?_⟩
      have : y = k := by simpa using h2
      subst this
      subst e
      exact atKey_not hn h1
    | some e => rw [storedH_old hn, keys_map_putAt]; exact nd
  have en : EntOk K (upd H a (.ext (memoP a (storedH xs k b (.bool w))))) bk cs (storedH xs k b (.bool w)) := by
    refine EntOk.keep tup2 fun x hx => ?_
    cases hn : atKey xs k with
    | none =>
      rw [storedH_new hn] at hx
      rcases List.mem_append.mp hx with q | q
      · exact ok x q
      · have : x = (k, b, .bool w) := by simpa using q
        subst this
        exact ⟨ik, dp, kb, w, rfl, hr⟩
    | some e =>
      rw [storedH_old hn] at hx
      obtain ⟨y, hy, e2⟩ := List.mem_map.mp hx
      have oy := ok y hy
      unfold putAt at e2
      by_cases q : y.1 = k
      · rw [if_pos q] at e2
        subst e2
        exact ⟨oy.1, oy.2.1, oy.2.2.1, w, rfl, by show MemoSpec.rel bk cs y.1.data _; rw [q]; exact hr⟩
      · rw [if_neg q] at e2
        subst e2
        exact oy
  refine ⟨⟨fun c u hc ne => ?_, dom_upd, fun K' a' bk' cs' m => ?_⟩, en⟩
  · have : c ≠ a := fun e => by subst e; rw [h] at hc; cases hc; cases ne
    rw [upd_ne this]; exact hc
  · by_cases e : a' = a
    · subst e
      obtain ⟨on', _⟩ := m
      have e2 : K' = K := on'.2.1.trans on.2.1.symm
      have e3 : bk' = bk := on'.2.2.1.trans on.2.2.1.symm
      have e4 : cs' = cs := on'.2.2.2.trans on.2.2.2.symm
      subst e2 e3 e4
      exact ⟨on', storedH xs k b (.bool w), upd_same, nd2, en⟩
    · exact m.keep tup2 (upd_ne e)
theorem rd_new {H : Hp} {t : Addr} {o : HO} (nt : H t = none) : ∀ a xs, Rd H a (.tup xs) → Rd (upd H t o) a (.tup xs) := fun a xs r => (same_new nt).rd rfl r
/-! ### can_be's reading -/
/-- (place, counts), a new tuple -/
def tKey : TE := tTup (tCons (tVar 1) (tCons (tVar 2) tNil))
theorem key_run {σ : St} {H : Hp} {Q : VK} {v0 v1 v2 : V} (hσ : σ = [some v0, some v1, some v2]) (h : ∀ t, H t = none → Q (.ref t) (upd H t (.tup [v1, v2]))) : tKey σ H Q := by
  subst hσ
  exact ⟨v1, rfl, v2, rfl, lineLe (by show 2 ≤ 1000000; decide), h⟩
theorem can_read {K : PySem.W.Frag} {mg : Str → Option Value} {F : List PyData → R PyData} (na : NoAttr K (shC K) "known") (hrel : ∀ bk cs p cts b, F [shD bk cs, .int p, .tuple cts] = .ok (.bool b) → MemoSpec.rel bk cs (.tuple [.int p, .tuple cts]) (.bool b) ∧ ∀ b', MemoSpec.rel bk cs (.tuple [.int p, .tuple cts]) (.bool b') → b' = b)
    {vs : List V} {H : Hp} {Q : VK} {E : XK} (h : spD K mg 3 (canF F) vs H Q E) :
    tSeq (tIfS (tB (tNinN K tKey (tFld K (tVar 0) "known"))) (sPutN K (tFld K (tVar 0) "known") tKey (tMeth (shC K) "found" (spD K mg 3 F) [] (fun _ _ _ => False) (tVar 0) (tCons (tVar 1) (tCons (tVar 2) tNil)))) tNext) (tRet (tGetN K (tFld K (tVar 0) "known") tKey)) { nx := fun _ H' => Q .non H', rt := Q } (L2.start ["self", "place", "counts"] vs) H := by
  obtain ⟨hl, G, ds, hG, hd, hF⟩ := h
  have hn : canF F ds ≠ .no := fun e => by rw [e] at hF; exact hF
  obtain ⟨bk, cs, p, cts, b, rfl, hk, hFb, hc⟩ := canF_ok hn
  rw [hc] at hF
  obtain ⟨kb, dp, kd, ci⟩ := keyOf_B hk
  obtain ⟨r1, r2⟩ := hrel bk cs p cts b hFb
  match vs, hd with
  | [v0, v1, v2], .cons d0 (.cons d1 (.cons d2 .nil)) =>
    cases d1
    obtain ⟨p0, dx, a, vb, vr, bk', cs', rfl, ed, h1, h2, h3, h4, h5, m⟩ := d0.sh_inv rfl
    cases ed
    have hσ : L2.start ["self", "place", "counts"] [.ref p0, .int p, v2] = [some (.ref p0), some (.int p), some v2] := rfl
    rw [hσ]
    -- the return, from any heap on in which the key is remembered
    have ret : ∀ H2, Same H H2 → ∀ zs e, H2 a = some (.ext (memoP a zs)) → EntOk K H2 bk cs zs → atKey zs (keyOf p cts) = some (e, .bool b) → tRet (tGetN K (tFld K (tVar 0) "known") tKey) { nx := fun _ H' => Q .non H', rt := Q } [some (.ref p0), some (.int p), some v2] H2 := by
      intro H2 s2 zs e hz oz hat
      refine ⟨.ref p0, rfl, p0, shC K, dx, _, .ref a, rfl, s2.keep _ _ h1 rfl, h3.cl, na, rfl, ?_⟩
      refine key_run rfl fun t nt => ?_
      have st : Same H (upd H2 t (.tup [.int p, v2])) := s2.trans (same_new nt)
      refine ⟨a, t, keyOf p cts, zs, e, b, rfl, rfl, by rw [upd_ne (ne_of_none hz nt)]; exact hz, (oz.keep (rd_new nt)).keys, key_IK (d2.same st) ci upd_same, dp, hat, ?_⟩
      exact hF (.bl b) _ st (.bl b)
    unfold tSeq tIfS tB tNinN
    refine key_run rfl fun t nt => ?_
    have s1 : Same H (upd H t (.tup [.int p, v2])) := same_new nt
    obtain ⟨on, xs, g1, g2, g3⟩ := id m
    refine ⟨.ref p0, rfl, p0, shC K, dx, _, .ref a, rfl, s1.keep _ _ h1 rfl, h3.cl, na, rfl, ?_⟩
    have hx1 : upd H t (.tup [.int p, v2]) a = some (.ext (memoP a xs)) := by rw [upd_ne (ne_of_none g1 nt)]; exact g1
    have o1 : EntOk K (upd H t (.tup [.int p, v2])) bk cs xs := EntOk.keep (rd_new nt) g3
    refine ⟨a, t, keyOf p cts, xs, rfl, rfl, hx1, o1.keys, key_IK (d2.same s1) ci upd_same, dp, _, rfl, ?_⟩
    cases hat : atKey xs (keyOf p cts) with
    | some e =>
      obtain ⟨e1, e2⟩ := e
      have mem := atKey_mem hat
      obtain ⟨_, _, _, b', eb, rb⟩ := g3 _ mem
      have eb : e2 = .bool b' := eb
      rw [kd] at rb
      have := r2 b' rb
      subst this
      subst eb
      exact ret _ s1 xs e1 hx1 o1 hat
    | none =>
      refine (if_pos (show (!(none : Option (Addr × Value)).isSome) = true from rfl)).mpr ?_
      unfold sPutN tMeth
      refine ⟨.ref p0, rfl, p0, dx, _, rfl, s1.keep _ _ h1 rfl, rfl, .int p, rfl, v2, rfl, rfl, G, [shD bk cs, .int p, .tuple cts], fun c hc' => s1.dom _ _ (hG c hc').choose_spec, .cons (d0.same s1) (.cons (.int p) (.cons (d2.same s1) .nil)), ?_⟩
      rw [hFb]
      intro v H2 s2 dv
      cases dv
      have s12 := s1.trans s2
      obtain ⟨on2, ys, k1, k2, k3⟩ := s12.memo _ _ _ _ m
      refine ⟨.ref p0, rfl, p0, shC K, dx, _, .ref a, rfl, s12.keep _ _ h1 rfl, h3.cl, na, rfl, ?_⟩
      refine key_run rfl fun t2 nt2 => ?_
      have s3 : Same H (upd H2 t2 (.tup [.int p, v2])) := s12.trans (same_new nt2)
      have hy : upd H2 t2 (.tup [.int p, v2]) a = some (.ext (memoP a ys)) := by rw [upd_ne (ne_of_none k1 nt2)]; exact k1
      have oy : EntOk K (upd H2 t2 (.tup [.int p, v2])) bk cs ys := EntOk.keep (rd_new nt2) k3
      have ik := key_IK (p := p) (d2.same s3) ci upd_same
      have few := keys_few k2 fun x hx => (k3 x hx).2.2.1
      obtain ⟨s4, o4⟩ := memo_put (w := b) on hy k2 oy ik dp kb (by rw [kd]; exact r1)
      obtain ⟨e, hat2⟩ := atKey_stored ys (keyOf p cts) t2 (.bool b)
      exact ⟨a, t2, keyOf p cts, ys, b, rfl, rfl, rfl, hy, oy.keys, ik, dp, by omega, ret _ (s3.trans s4) _ e upd_same o4 hat2⟩
end Pu

namespace Pu
open PySem PySem.Spec PyProof.Rows L2
/-! ### a def within which a Sharer is used, seen from outside -/
mutual
theorem DO.conv {M M' : MemoSpec} {K : PySem.W.Frag} {O : Addr → Prop} {H : Hp} : ∀ (d : PyData) (v : V), nodict d = true → @DO M K O H v d → @DO M' K O H v d
  | .none, _, _, h => by cases h; exact .non
  | .bool b, _, _, h => by cases h; exact .bl b
  | .int i, _, _, h => by cases h; exact .int i
  | .str x, _, _, h => by cases h with | str _ z => exact .str x z
  | .list ds, _, n, h => by cases h with | lst s q z => exact .lst s (DOs.conv ds _ n q) z
  | .tuple ds, _, n, h => by cases h with | tup s q z => exact .tup s (DOs.conv ds _ n q) z
  | .dict ds, _, n, _ => by cases n
theorem DOs.conv {M M' : MemoSpec} {K : PySem.W.Frag} {O : Addr → Prop} {H : Hp} : ∀ (ds : List PyData) (vs : List V), nodicts ds = true → @DOs M K O H vs ds → @DOs M' K O H vs ds
  | [], _, _, h => by cases h; exact .nil
  | d :: ds, _, n, h => by
    have n' : (nodict d && nodicts ds) = true := n
    obtain ⟨n1, n2⟩ := Bool.and_eq_true_iff.mp n'
    cases h with
    | cons a b => exact .cons (DO.conv d _ n1 a) (DOs.conv ds _ n2 b)
end
theorem Same.conv {M M' : MemoSpec} {H H' : Hp} (h0 : ¬ M'.on) (s : @Same M H H') : @Same M' H H' :=
  @Same.mk M' H H' (@Same.keep M H H' s) (@Same.dom M H H' s) fun K a bk cs m => (h0 m.1.1).elim
def plainR : R PyData → R PyData
  | .ok d => if nodict d then .ok d else .no
  | .ex ⟨c, none⟩ => .ex ⟨c, none⟩
  | _ => .no
theorem plainR_ok (d : PyData) : plainR (.ok d) = if nodict d then .ok d else .no := rfl
def locF (F : PyData → PyData → List PyData → R PyData) : List PyData → R PyData
  | bk :: cs :: r => if nodicts (bk :: cs :: r) then plainR (F bk cs (bk :: cs :: r)) else .no
  | _ => .no
theorem locF_at (F : PyData → PyData → List PyData → R PyData) (bk cs : PyData) (r : List PyData) : locF F (bk :: cs :: r) = if nodicts (bk :: cs :: r) then plainR (F bk cs (bk :: cs :: r)) else .no := rfl
theorem fn_local {P : Program} {w : World} {K : PySem.W.Frag} {mg : Str → Option Value} {base : Heap} {k n : Nat} {x : Str} {f : Addr} {fd : FuncData} {ps : List Str} {M0 : MemoSpec} (h0 : ¬ M0.on) {F : PyData → PyData → List PyData → R PyData} (gm : mg x = some (.ref f)) (kp : PySem.W.keepIn K (.ref f) = true) (hb : Binds K fd ps [])
    (hM : ∀ bk cs, ∃ M : MemoSpec, FnOk P w K mg base (L2N.CX P w) k f fd ps (@spD M K mg n (F bk cs))) : @FnD M0 P w K mg base k x n (locF F) := by
  refine @FnD.mk M0 P w K mg base k x n (locF F) ⟨f, fd, ps, gm, kp, hb, ?_⟩
  have key : ∀ vs H Q E, @spD M0 K mg n (locF F) vs H Q E → ∃ bk cs, ∀ M : MemoSpec, @spD M K mg n (F bk cs) vs H Q E := by
    intro vs H Q E h
    obtain ⟨hl, G, ds, hG, hd, hF⟩ := h
    match ds, hd, hF with
    | bk :: cs :: r, hd, hF =>
      refine ⟨bk, cs, fun M => ?_⟩
      rw [locF_at] at hF
      by_cases hn : nodicts (bk :: cs :: r) = true
      · rw [if_pos hn] at hF
        refine ⟨hl, G, bk :: cs :: r, hG, DOs.conv _ _ hn hd, ?_⟩
        cases e : F bk cs (bk :: cs :: r) with
        | ok d =>
          rw [e] at hF
          intro v H' s dv
          rw [plainR_ok] at hF
          by_cases hz : nodict d = true
          · rw [if_pos hz] at hF
            exact hF v H' (Same.conv h0 s) (DO.conv d v hz dv)
          · rw [if_neg hz] at hF
            exact hF.elim
        | ex xc =>
          rw [e] at hF
          obtain ⟨c, arg⟩ := xc
          cases arg with
          | none => exact fun cls dd H' s xr => hF cls dd H' (Same.conv h0 s) xr
          | some z => exact hF.elim
        | no => rw [e] at hF; exact hF.elim
      · rw [if_neg hn] at hF
        exact hF.elim
  refine ⟨fun vs H Q E h => ?_, fun A outer s H args us vs Q E hr he hb hv h => ?_⟩
  · obtain ⟨bk, cs, q⟩ := key vs H Q E h
    obtain ⟨M, FO⟩ := hM bk cs
    exact FO.len vs H Q E (q M)
  · obtain ⟨bk, cs, q⟩ := key vs H Q E h
    obtain ⟨M, FO⟩ := hM bk cs
    exact FO.run A outer s H args us vs Q E hr he hb hv (q M)
end Pu

namespace L2
open PySem PySem.Spec PyProof.Rows
theorem tuple_mul1 (l : Addr) (items : Array Value) (n : Nat) (sl : Array (Option Value)) (dd : Option Addr) (u : Tok) :
    Meets (Builtin.«tuple.__mul__» ⟨[.ref l, .int 1 u], []⟩) (fun _ R s => s.heap.get? l = some { cls := .type "tuple", dict := dd, data := .seq items n, slots := sl } ∧ R (.ok (.ret (Value.ref l))) s) :=
  .of_wp fun prog w A R s h => by
    obtain ⟨hp, g, d, tk, os⟩ := s
    obtain ⟨hl, h⟩ := h
    have f1 := AutoSeq1.idx_int
    have c1 : (items.isEmpty || (1 : Int) == 1) = true := by simp
    have c0 : (decide ((1 : Int) < -(2 ^ 63)) || decide ((1 : Int) ≥ 2 ^ 63)) = false := by decide
    wp_walk using wpAny_loadPart' hl
    repeat (first
      | (refine wpAny_ite_false (decide_eq_false (by rw [c0]; exact Bool.false_ne_true)) ?_; wp_walk using wpAny_loadPart' hl)
      | (refine wpAny_ite_true (decide_eq_true (by rw [c1])) ?_; wp_walk using wpAny_loadPart' hl))
    exact ⟨_, rfl, h⟩
theorem tuple_mul0 (l : Addr) (items : Array Value) (n : Nat) (sl : Array (Option Value)) (dd : Option Addr) (u : Tok) (hi : items.isEmpty = false) :
    Meets (Builtin.«tuple.__mul__» ⟨[.ref l, .int 0 u], []⟩) (fun _ R s => s.heap.get? l = some { cls := .type "tuple", dict := dd, data := .seq items n, slots := sl } ∧
      R (.ok (.ret (Value.ref s.heap.objs.size))) { s with heap := s.heap.push { cls := Value.type "tuple", data := Data.seq #[] }, toks := s.toks }) :=
  .of_wp fun prog w A R s h => by
    obtain ⟨hp, g, d, tk, os⟩ := s
    obtain ⟨hl, h⟩ := h
    have f1 := AutoSeq1.idx_int
    have c1 : (items.isEmpty || (0 : Int) == 1) = false := by rw [hi]; rfl
    have c2 : (decide ((0 : Int) ≤ 0) || items.isEmpty) = true := by rw [hi]; rfl
    have c0 : (decide ((0 : Int) < -(2 ^ 63)) || decide ((0 : Int) ≥ 2 ^ 63)) = false := by decide
    wp_walk using wpAny_loadPart' hl
    repeat (first
      | (refine wpAny_ite_false (decide_eq_false (by rw [c0]; exact Bool.false_ne_true)) ?_; wp_walk using wpAny_loadPart' hl)
      | (refine wpAny_ite_false (decide_eq_false (by rw [c1]; exact Bool.false_ne_true)) ?_; wp_walk using wpAny_loadPart' hl)
      | (refine wpAny_ite_true (decide_eq_true (by rw [c2])) ?_; wp_walk using wpAny_loadPart' hl))
    exact ⟨_, rfl, h⟩
def rRep1 (K : PySem.W.Frag) : R2 := fun x y H Q => ∃ l xs, x = .ref l ∧ y = .int 1 ∧ SqT K H l xs ∧ Q (.ref l) H
def rRep0 (K : PySem.W.Frag) : R2 := fun x y H Q => ∃ l xs, x = .ref l ∧ y = .int 0 ∧ SqT K H l xs ∧ xs ≠ [] ∧ ∀ p, H p = none → Q (.ref p) (upd H p (.tup []))
section
variable {X : Cx}
theorem op_rep1 : OpR X (binaryOp .Mult) (rRep1 X.K) := by
  intro pins s σ H x y v u Q I rx ry h
  obtain ⟨l, xs, rfl, rfl, hT, q⟩ := h
  cases rx
  obtain ⟨t, rfl⟩ := ry
  obtain ⟨its, r, ⟨⟨cls, dd, data, sl⟩, ho, hc, n, hd⟩, hs⟩ := I.tuple hT
  simp only at hc hd
  subst hc hd
  exact wpAny_binaryOp_repeat_ref (T := "tuple") (U := "int") (by decide) ⟨_, ho, rfl⟩ (fun s' => typeIs_int s' 1 t) noFill_tuple_mul F.fills_int_mul F.slot_int_rmul repeat_tuple F.slot_int_index.lookup
    (call_meets F.slot_int_rmul (typeIs_int s 1 t) F.entry_int_rmul (F.args_int_rmul_2 _ _) (int_rmul_tuple 1 t l its.toArray n dd sl)
      ⟨ho, rfl, ⟨_, ho, rfl⟩, call_meets F.slot_tuple_mul ⟨_, ho, rfl⟩ F.entry_tuple_mul (F.args_tuple_mul_2 _ _) (tuple_mul1 l its.toArray n sl dd t) ⟨ho, .ref l, H, I, rfl, q⟩⟩)
theorem op_rep0 : OpR X (binaryOp .Mult) (rRep0 X.K) := by
  intro pins s σ H x y v u Q I rx ry h
  obtain ⟨l, xs, rfl, rfl, hT, hne, q⟩ := h
  cases rx
  obtain ⟨t, rfl⟩ := ry
  obtain ⟨its, r, ⟨⟨cls, dd, data, sl⟩, ho, hc, n, hd⟩, hs⟩ := I.tuple hT
  simp only at hc hd
  subst hc hd
  have hle : its.length = xs.length := r.length.symm
  have hn : its ≠ [] := fun e => hne (by
    rw [e] at hle
    exact List.eq_nil_of_length_eq_zero hle.symm)
  have hi : its.toArray.isEmpty = false := by
    cases its with
    | nil => exact absurd rfl hn
    | cons a b => rfl
  refine wpAny_binaryOp_repeat_ref (T := "tuple") (U := "int") (by decide) ⟨_, ho, rfl⟩ (fun s' => typeIs_int s' 0 t) noFill_tuple_mul F.fills_int_mul F.slot_int_rmul repeat_tuple F.slot_int_index.lookup
    (call_meets F.slot_int_rmul (typeIs_int s 0 t) F.entry_int_rmul (F.args_int_rmul_2 _ _) (int_rmul_tuple 0 t l its.toArray n dd sl)
      ⟨ho, rfl, ⟨_, ho, rfl⟩, call_meets F.slot_tuple_mul ⟨_, ho, rfl⟩ F.entry_tuple_mul (F.args_tuple_mul_2 _ _) (tuple_mul0 l its.toArray n sl dd t hi) ⟨ho, ?_⟩⟩)
  exact ⟨.ref s.heap.objs.size, _, I.laid (t' := s.toks) (o := .tup []) (fun b ob q => Heap.get?_push_of_some _ q) (Nat.le_refl _) ⟨Nat.zero_le _, [], .nil, IsTup.new _ _⟩, rfl, q _ (I.hok.fresh (Nat.le_refl _))⟩
def rRepA (K : PySem.W.Frag) : R2 := fun x y H Q => rRepT K x y H Q ∨ (rRep1 K x y H Q ∨ rRep0 K x y H Q)
theorem op_repA : OpR X (binaryOp .Mult) (rRepA X.K) := by
  intro pins s σ H x y v u Q I rx ry h
  rcases h with h | h | h
  · exact op_repT pins s σ H x y v u Q I rx ry h
  · exact op_rep1 pins s σ H x y v u Q I rx ry h
  · exact op_rep0 pins s σ H x y v u Q I rx ry h
end
end L2
namespace Pu
open PySem PySem.Spec PyProof.Rows L2
variable [MemoSpec]
def tmulA : PyData → PyData → Option PyData
  | .tuple xs, .int k => if xs ≠ [] ∧ 0 ≤ k ∧ k ≤ 1000 ∧ xs.length ≤ 1000 then some (.tuple (List.replicate k.toNat xs).flatten) else none
  | _, _ => none
theorem bo_tupmulA {K : PySem.W.Frag} : BinOk K (rRepA K) tmulA := by
  intro O H x y d e z Q ht hx hy h q
  cases d <;> cases e <;> simp only [tmulA] at h <;> first | cases h; done | skip
  rename_i ds k
  split at h
  · rename_i c
    obtain ⟨c1, c2, c3, c4⟩ := c
    by_cases k2 : 2 ≤ k
    · exact .inl (bo_tupmul O H x y (.tuple ds) (.int k) z Q ht hx hy (by show (if _ then _ else _) = _; rw [if_pos ⟨c1, k2, c3, c4⟩]; exact h) q)
    · cases h
      cases hx with
      | @tup a xs _ s1 q1 l1 =>
        cases hy
        have ne : xs ≠ [] := fun hn => c1 (by subst hn; cases q1; rfl)
        by_cases k1 : k = 1
        · subst k1
          refine .inr (.inl ⟨a, xs, rfl, rfl, s1.sq, q _ H (Same.refl H) (.tup s1 ?_ ?_)⟩)
          · simpa using q1
          · simpa using l1
        · have k0 : k = 0 := by omega
          subst k0
          refine .inr (.inr ⟨a, xs, rfl, rfl, s1.sq, ne, fun p hp => ?_⟩)
          have np : ¬ O p := fun z => by obtain ⟨o, e⟩ := ht p z; rw [hp] at e; cases e
          exact q _ _ (same_new hp) (.tup (.inl upd_same) .nil (by show 0 ≤ 1000000; omega))
  · cases h
/-- no Sharer is about -/
instance M0 : MemoSpec := ⟨False, [], .none, .none, fun _ _ _ _ => False⟩
theorem M0_off : ¬ M0.on := fun h => h
end Pu

namespace Pu
open PySem PySem.Spec PyProof.Rows L2
variable [MemoSpec]
/-- Sharer's __init__ -/
structure FnI (P : Program) (w : World) (K : PySem.W.Frag) (mg : Str → Option Value) (base : Heap) (k : Nat) : Prop where
  ex : ∃ fd ps, Binds K fd ps [] ∧ FnOk P w K mg base (L2N.CX P w) k (He.ma K (shC K) "__init__") fd ps (spI K)
theorem FnI.mono {P : Program} {w : World} {K : PySem.W.Frag} {mg : Str → Option Value} {base : Heap} {k k' : Nat} (h : FnI P w K mg base k) (l : k ≤ k') : FnI P w K mg base k' := by
  obtain ⟨fd, ps, h2, h3⟩ := h.ex
  exact ⟨fd, ps, h2, h3.mono l⟩
theorem pd_mkI {X : Cx} {W : WX} {e : Expr} {es : List Expr} {fa : Ro → R (List PyData)} {k : Nat} {pos p : Pos} (FI : FnI X.prog X.w X.K X.mg X.base k) (M : Mk X.K (shC X.K) (He.ma X.K (shC X.K) "__init__")) (cn : ClsNot X.K) (hr : Room (k + 1) X.A) (hg : Gl X "Sharer") (gm : X.mg "Sharer" = some (.ref (shC X.K))) (hon : MemoSpec.on) (hK : X.K = MemoSpec.K) (ha : PAs X W (e :: es) fa)
    (he : starEach (e :: es) X.env = (false, eval e X.env) :: starEach es X.env := by rfl) (hpl : (backTo pos (starEach es X.env)).any (·.1) = false := by rfl) : PD X W (.Call (.Name "Sharer" p) (e :: es) [] pos) (dCall (mkSh MemoSpec.bk MemoSpec.cs) fa) := by
  obtain ⟨fd, ps, h2, h3⟩ := FI.ex
  exact pd_mkM M cn h3 hr hg gm h2 hon hK ha he hpl
theorem hu9 {A : Around} {k : Nat} (hr : Room k A) : A.units + 9 < cLine := by
  have := hu65 hr
  omega
/-- __init__'s reading -/
theorem init_read {K : PySem.W.Frag} (cl : Cls K (shC K)) (n1 : NoAttr K (shC K) "book") (n2 : NoAttr K (shC K) "row") (n3 : NoAttr K (shC K) "known") {vs : List V} {H : Hp} {Q : VK} {E : XK} (h : spI K vs H Q E) :
    tSeq (sFld K (tVar 0) (tVar 1) "book") (tSeq (sFld K (tVar 0) (tVar 2) "row") (sFld K (tVar 0) tDNewN "known")) { nx := fun _ H' => Q .non H', rt := Q } (L2.start ["self", "book", "calls"] vs) H := by
  obtain ⟨x, dx, vb, vr, rfl, hx, q⟩ := h
  unfold tSeq sFld
  refine ⟨vb, rfl, .ref x, rfl, x, shC K, dx, [], rfl, hx, cl, n1, by decide, ?_⟩
  refine ⟨vr, rfl, .ref x, rfl, x, shC K, dx, _, rfl, upd_same, cl, n2, (by show 1 < 1000; decide), ?_⟩
  intro a na
  have hax : a ≠ x := fun e => by subst e; rw [upd_same] at na; cases na
  have na0 : H a = none := by rw [upd_ne hax, upd_ne hax] at na; exact na
  refine ⟨.ref x, rfl, x, shC K, dx, _, rfl, by rw [upd_ne (Ne.symm hax)]; exact upd_same, cl, n3, (by show 2 < 1000; decide), ?_⟩
  refine q _ a (fun b u hb hu => ?_) na0 ?_ upd_same
  · have hba : b ≠ a := ne_of_none hu na0
    rw [upd_ne hb, upd_ne hba, upd_ne hb, upd_ne hb]
    exact hu
  · rw [upd_ne hax]
    exact upd_same
end Pu

namespace L2
open PySem PySem.Spec PyProof.Rows
/-! ### {k: v}, its key a tuple of ints and texts -/
def tDisp1T (tk tv : TE) : TE := fun σ H Q => ∀ p, H p = none → tk σ (upd H p (.dT [])) fun x H1 => tv σ H1 fun y H2 => H2 p = some (.dT []) ∧ ∃ (b : Addr) (k : List Key), x = .ref b ∧ H2 b = some (.tup (k.map kV)) ∧ Q (.ref p) (upd H2 p (.dT [(k, y)]))
theorem Pu_Dict_H {prog : Program} {w : World} {K : Type} [DecidableEq K] {knd : HeapKind prog w K} {A : Around} {E : Value → Shared → Prop} {s : Shared} {env : Env} {keys : List (Option Expr)} {values : List Expr} {pos : Pos} {pairs : List (Sem Value × Sem Value)} {Q : Value → Shared → Prop} (hu : knd.room A)
    (hshape : (evalEachOpt keys env).zip ((evalEach values env).map fun v => do let x ← v; standAt pos; pure x) = pairs.map fun p => (some p.1, p.2)) (h0 : pairs ≠ []) (hlen : pairs.length ≤ 15)
    (h : wpAny (model prog w) A (evalPairs pairs) (fun vs s₁ => ∃ ps, CarriesH knd s₁.heap vs ps ∧ s₁.heap.DictOfH knd s.heap.objs.size [] ∧
      ∀ h' tk, h'.DictOfH knd s.heap.objs.size (storedAllH [] ps) → Heap.SameBut s.heap.objs.size s₁.heap h' → Q (.ref s.heap.objs.size) { s₁ with heap := h', toks := tk }) E
      { s with heap := s.heap.push { cls := .type "dict", data := .dict #[] } }) :
    wpAny (model prog w) A (eval (.Dict keys values pos) env) Q E s := by
  rw [arm_eval_Dict, hshape, dictDisplay_pairs pairs h0 (by omega)]
  exact wpAny_bind (wpAny_standAt (wpAny_bind (wpAny_subDictH (knd := knd) (Q := fun d s' => wpAny (model prog w) A (pure (Value.ref d)) Q E s') hu hlen
    (wpAny_mono h (fun vs s₁ h₁ => by obtain ⟨ps, hc, hm, hq⟩ := h₁; exact ⟨ps, hc, hm, fun h' tk a b => wpAny_pure (hq h' tk a b)⟩) fun _ _ e => e))))
theorem pe_disp1T {X : Cx} {k v : Expr} {tk tv : TE} {pos : Pos} (hu : X.A.units + 1 < cLine) (hk : PE X k tk) (hv : PE X v tv) : PE X (.Dict [some k] [v] pos) (tDisp1T tk tv) := by
  refine ⟨fun pins s σ H Q I q => ?_⟩
  have hn := I.hok.fresh (Nat.le_refl s.heap.objs.size)
  have I1 := I.laid (a := s.heap.objs.size) (o := .dT []) (h' := s.heap.push { cls := .type "dict", data := .dict #[] }) (t' := s.toks) (fun _ _ q => Heap.get?_push_of_some _ q) (Nat.le_refl _) (dt_empty s.heap I.big)
  refine Pu_Dict_H (knd := tupleKind (mixKind X.prog X.w)) (show X.A.units < cLine by omega) (pairs := pairTrees [some k] [v] X.env pos) (zip_pairTrees _ _ _ _ rfl rfl) (fun h => nomatch h) (by rw [pairTrees_length _ _ _ _ rfl rfl]; show 1 ≤ 15; decide) ?_
  refine pairTrees_cons_walk (thn (hk.run pins _ σ _ _ I1 (q _ hn)) fun u s1 ⟨x, H1, I2, rx, q1⟩ => thn (hv.run pins s1 σ H1 _ I2 q1) fun w2 s2 ⟨y, H2, I3, ry, e, b, kk, ex, eb, q2⟩ => pairTrees_nil_walk ?_)
  subst ex
  obtain rfl : u = Value.ref b := rx
  obtain ⟨z, hd, xs, rel, dd⟩ := dt_of I3.hok e
  cases rel
  refine ⟨[(kk, b, w2)], ⟨rfl, rfl, key_of I3.hok eb, trivial⟩, dd, fun h' tk dd' hs => ⟨.ref s.heap.objs.size, _, ?_, rfl, q2⟩⟩
  obtain ⟨o, es, ep, hq, h2, h3, h4, _, h5⟩ := dd'
  refine d_write I3 (by rw [e]; exact True.intro) hs ⟨o, hq⟩ ⟨by rw [sizeLine_eq]; show 1 ≤ _; omega, hd, [(kk, b, w2)], .cons ⟨rfl, ?_, ry⟩ .nil, o, es, ep, hq, h2, h3, h4, h5⟩
  rw [upd_ne (ne_of eb e (fun z => nomatch z))]
  exact eb
end L2
namespace Pu
open PySem PySem.Spec PyProof.Rows L2
variable [MemoSpec]
/-! ### dicts whose keys are tuples of whole numbers -/
theorem hu1 {A : Around} {k : Nat} (hr : Room k A) : A.units + 1 < cLine := by
  have := hu9 hr
  omega
def intsL : List PyData → Option (List Int)
  | [] => some []
  | .int i :: r => (intsL r).map (i :: ·)
  | _ :: _ => none
def intsOf : PyData → Option (List Int)
  | .tuple ds => intsL ds
  | _ => none
theorem intsL_inv : ∀ {ds : List PyData} {ns : List Int}, intsL ds = some ns → ds = ns.map .int
  | [], _, h => by cases h; rfl
  | .int i :: r, _, h => by
    obtain ⟨ms, h1, rfl⟩ := Option.map_eq_some_iff.mp (show (intsL r).map (i :: ·) = some _ from h)
    rw [intsL_inv h1]; rfl
  | .none :: _, _, h => by cases h
  | .bool _ :: _, _, h => by cases h
  | .str _ :: _, _, h => by cases h
  | .list _ :: _, _, h => by cases h
  | .tuple _ :: _, _, h => by cases h
  | .dict _ :: _, _, h => by cases h
theorem intsL_map : ∀ ns : List Int, intsL (ns.map .int) = some ns
  | [] => rfl
  | i :: r => by show (intsL (r.map .int)).map (i :: ·) = _; rw [intsL_map r]; rfl
theorem intsOf_map (ns : List Int) : intsOf (.tuple (ns.map .int)) = some ns := intsL_map ns
theorem intsOf_inv {d : PyData} {ns : List Int} (h : intsOf d = some ns) : d = .tuple (ns.map .int) := by
  cases d <;> first | (cases h; done) | skip
  rw [intsL_inv h]
theorem ints_V {K : PySem.W.Frag} {O : Addr → Prop} {H : Hp} : ∀ {ns : List Int} {vs : List V}, DOs K O H vs (ns.map .int) → vs = ns.map V.int
  | [], _, h => by cases h; rfl
  | i :: r, _, h => by cases h with | cons a b => cases a; rw [ints_V b]; rfl
theorem V_ints {K : PySem.W.Frag} {O : Addr → Prop} {H : Hp} : ∀ {ns : List Int}, DOs K O H (ns.map V.int) (ns.map .int)
  | [] => .nil
  | i :: r => .cons (.int i) V_ints
abbrev Kvs := List (PyData × PyData)
def valD (ds : Kvs) (ns : List Int) : Option PyData := (ds.find? fun kv => decide (intsOf kv.1 = some ns)).map (·.2)
def putD (ds : Kvs) (ns : List Int) (v : PyData) : Kvs :=
  if (ds.any fun kv => decide (intsOf kv.1 = some ns)) = true then ds.map (fun kv => if intsOf kv.1 = some ns then (kv.1, v) else kv) else ds ++ [(.tuple (ns.map .int), v)]
theorem inl_inj {ns ms : List Int} : (ns.map (Sum.inl : Int → Key) = ms.map Sum.inl) ↔ ns = ms := ⟨fun h => by
  have := congrArg (List.map fun k : Key => match k with | .inl i => i | .inr _ => 0) h
  simpa [List.map_map, Function.comp_def] using this, fun h => by rw [h]⟩
theorem dts_val {K : PySem.W.Frag} {O : Addr → Prop} {H : Hp} (ns : List Int) : ∀ {ds : Kvs} {kvs : List (List Key × V)}, DTs K O H kvs ds → (∀ z, valD ds ns = some z → ∃ v, valV kvs (ns.map Sum.inl) = some v ∧ DO K O H v z) ∧ (valD ds ns = none → valV kvs (ns.map Sum.inl) = none)
  | [], _, h => by cases h; exact ⟨fun z h => (by cases h), fun _ => rfl⟩
  | (_, d) :: ds, _, h => by
    cases h with
    | @cons ms v vs _ _ a b =>
      obtain ⟨i1, i2⟩ := dts_val ns b
      by_cases e : ms = ns
      · subst e
        rw [valV_pos (p := (ms.map Sum.inl, v)) rfl]
        have : valD ((.tuple (ms.map .int), d) :: ds) ms = some d := by unfold valD; rw [List.find?_cons_of_pos (by simp [intsOf_map])]; rfl
        rw [this]
        exact ⟨fun z hz => by cases hz; exact ⟨v, rfl, a⟩, fun h => by cases h⟩
      · have n1 : ¬ (ms.map (Sum.inl : Int → Key)) = ns.map Sum.inl := fun z => e (inl_inj.mp z)
        rw [valV_neg (p := (ms.map Sum.inl, v)) n1]
        have : valD ((.tuple (ms.map .int), d) :: ds) ns = valD ds ns := by unfold valD; rw [List.find?_cons_of_neg (by simpa [intsOf_map] using e)]
        rw [this]
        exact ⟨i1, i2⟩
theorem dts_any {K : PySem.W.Frag} {O : Addr → Prop} {H : Hp} (ns : List Int) : ∀ {ds : Kvs} {kvs : List (List Key × V)}, DTs K O H kvs ds → (kvs.any fun kv => decide (kv.1 = ns.map Sum.inl)) = (ds.any fun kv => decide (intsOf kv.1 = some ns))
  | [], _, h => by cases h; rfl
  | (_, d) :: ds, _, h => by
    cases h with
    | @cons ms v vs _ _ a b =>
      rw [List.any_cons, List.any_cons, dts_any ns b]
      congr 1
      simp [intsOf_map, inl_inj]
theorem dts_map {K : PySem.W.Frag} {O : Addr → Prop} {H : Hp} (ns : List Int) {v : V} {d : PyData} (hd : DO K O H v d) : ∀ {ds : Kvs} {kvs : List (List Key × V)}, DTs K O H kvs ds → DTs K O H (kvs.map fun kv => if kv.1 = ns.map Sum.inl then (kv.1, v) else kv) (ds.map fun kv => if intsOf kv.1 = some ns then (kv.1, d) else kv)
  | [], _, h => by cases h; exact .nil
  | (_, d') :: ds, _, h => by
    cases h with
    | @cons ms v' vs _ _ a b =>
      have r := dts_map ns hd b
      rw [List.map_cons, List.map_cons]
      by_cases e : ms = ns
      · subst e
        rw [if_pos rfl, if_pos (intsOf_map ms)]
        exact .cons hd r
      · rw [if_neg (fun z => e (inl_inj.mp z)), if_neg (fun z => e (by rw [intsOf_map] at z; exact Option.some.inj z))]
        exact .cons a r
theorem dts_snoc {K : PySem.W.Frag} {O : Addr → Prop} {H : Hp} (ns : List Int) {v : V} {d : PyData} (hd : DO K O H v d) : ∀ {ds : Kvs} {kvs : List (List Key × V)}, DTs K O H kvs ds → DTs K O H (kvs ++ [(ns.map Sum.inl, v)]) (ds ++ [(.tuple (ns.map .int), d)])
  | [], _, h => by cases h; exact .cons hd .nil
  | (_, d') :: ds, _, h => by cases h with | cons a b => exact .cons a (dts_snoc ns hd b)
theorem dts_put {K : PySem.W.Frag} {O : Addr → Prop} {H : Hp} (ns : List Int) {v : V} {d : PyData} (hd : DO K O H v d) {ds : Kvs} {kvs : List (List Key × V)} (h : DTs K O H kvs ds) : DTs K O H (putK kvs (ns.map Sum.inl) v) (putD ds ns d) := by
  unfold putK putD
  rw [dts_any ns h]
  split
  · exact dts_map ns hd h
  · exact dts_snoc ns hd h
theorem dts_len {K : PySem.W.Frag} {O : Addr → Prop} {H : Hp} : ∀ {ds : Kvs} {kvs : List (List Key × V)}, DTs K O H kvs ds → kvs.length = ds.length
  | [], _, h => by cases h; rfl
  | (_, d) :: ds, _, h => by cases h with | cons a b => simp [dts_len b]
theorem putD_len (ds : Kvs) (ns : List Int) (v : PyData) : (putD ds ns v).length ≤ ds.length + 1 := by
  unfold putD
  split
  · rw [List.length_map]; omega
  · rw [List.length_append]; exact Nat.le_refl _
/-- a tuple of ints that is data is tracked -/
theorem tup_trk {K : PySem.W.Frag} {O : Addr → Prop} {H : Hp} {v : V} {ns : List Int} (h : DO K O H v (.tuple (ns.map .int))) : ∃ b, v = .ref b ∧ H b = some (.tup ((ns.map (Sum.inl : Int → Key)).map kV)) := by
  cases h with
  | @tup a xs _ s q z =>
    have e := ints_V q
    subst e
    have e2 : ns.map V.int = (ns.map (Sum.inl : Int → Key)).map kV := by rw [List.map_map]; rfl
    rcases s with s | ⟨s, z, zs, e⟩
    · exact ⟨a, rfl, by rw [← e2]; exact s⟩
    · cases ns with
      | nil => cases e
      | cons i r => cases e
theorem ntT (acc : List (List Key × V)) : ∀ xs, HO.dT acc ≠ .tup xs ∧ ∀ ob, HO.dT acc ≠ .frz ob (.tup xs) := fun xs => ⟨(fun h => nomatch h), (fun ob h => nomatch h)⟩
/-- x = {}, owned -/
def sAsgT (i : Nat) : Ro → Fl := fun ρ => if i < ρ.length then .nx (ρ.set i (some (.st .dT (.dict [])))) else .no
def ownT (ρ : Ro) (i : Nat) (k : Kvs → Fl) : Fl := match ρ[i]? with
  | some (some (.st .dT (.dict ds))) => k ds
  | _ => .no
def putTo (ρ : Ro) (i : Nat) (ds : Kvs) (kd d : PyData) : Fl := match intsOf kd with
  | some ns => if ds.length < 1000000 then .nx (ρ.set i (some (.st .dT (.dict (putD ds ns d))))) else .no
  | none => .no
/-- x[k] = e -/
def sPutT (i : Nat) (fk fe : Ro → R PyData) : Ro → Fl := fun ρ => ownT ρ i fun ds => Fl.of ρ (fe ρ) fun d => Fl.of ρ (fk ρ) fun kd => putTo ρ i ds kd d
def getTo (ds : Kvs) (kd z : PyData) : R PyData := match intsOf kd with
  | some ns => .ok ((valD ds ns).getD z)
  | none => .no
/-- x.get(k, e) -/
def dGetT (i : Nat) (fk fe : Ro → R PyData) : Ro → R PyData := fun ρ => match ρ[i]? with
  | some (some (.st .dT (.dict ds))) => (fk ρ).bind fun kd => (fe ρ).bind fun z => getTo ds kd z
  | _ => .no
/-- d[k] -/
def ixT : PyData → PyData → Option PyData
  | .dict ds, kd => (intsOf kd).bind (valD ds)
  | _, _ => none
theorem ownT_inv {K : PySem.W.Frag} {mg : Str → Option Value} {W : WX} {B : Hp} {G O : Addr → Prop} {H : Hp} {D : Ends} {ρ : Ro} {i : Nat} {k : Kvs → Fl} (h : SEnd K mg W B G O H D (ownT ρ i k)) : ∃ ds, ρ[i]? = some (some (.st .dT (.dict ds))) ∧ SEnd K mg W B G O H D (k ds) := by
  unfold ownT at h
  split at h
  · rename_i ds e
    exact ⟨ds, e, h⟩
  · exact h.elim
theorem SR.ownT {K : PySem.W.Frag} {B : Hp} {G : Addr → Prop} {fp : Nat → List Addr} {σ : St} {H : Hp} {ρ : Ro} {i : Nat} {ds : Kvs} (S : SR K B G fp σ H ρ) (h : ρ[i]? = some (some (.st .dT (.dict ds)))) :
    ∃ a xs, σ[i]? = some (some (.ref a)) ∧ a ∈ fp i ∧ H a = some (.dT xs) ∧ DTs K (Ow G fp) H xs ds ∧ ds.length ≤ 1000000 ∧ i < ρ.length := by
  obtain ⟨v, h1, a, rfl, h3, xs, q1, q2, q3⟩ := S.slot i _ h
  exact ⟨a, xs, h1, h3, q1, q2, q3, (List.getElem?_eq_some_iff.mp h).1⟩
theorem DTs.same {K : PySem.W.Frag} {O : Addr → Prop} {H H' : Hp} {ds : Kvs} {vs : List (List Key × V)} (h : DTs K O H vs ds) (s : Same H H') : DTs K O H' vs ds := DTs.evo (Evo.same s) ds vs h
section
variable {X : Cx} {W : WX} {o e k v : Expr} {fk fe : Ro → R PyData} {pos pos' apos p : Pos} {i : Nat} {x : Str}
theorem psd_setT (hN : X.N.Nodup) (hi : X.N[i]? = some x) (hx : Loc X.env.scope x) (hs : swapsWith (.Dict [] [] p) (some (.Name x pos')) pos.line X.env = pure false := by rfl) (hf : X.fn x = true ∨ X.env.scope.names.lookup x = some .local := by first | exact .inl rfl | exact .inr rfl | assumption) :
    PSD X W (.Assign [.Name x pos'] (.Dict [] [] p) pos) (sAsgT i) := psW (ps_set hN hi hx pe_dnewT hs hf) fun D σ H h => by
  obtain ⟨B, G, fp, ρ, S, h⟩ := h
  intro p hp
  unfold sAsgT at h
  split at h
  · rename_i hi
    obtain ⟨S', ev⟩ := S.own (i := i) (o := .dT []) (c0 := .st .dT (.dict [])) hp (same_new hp) upd_same ⟨p, rfl, by simp, [], upd_same, .nil, by show 0 ≤ 1000000; decide⟩ hi
    exact h _ _ _ S' ev
  · exact h.elim
theorem psd_putT (hu : X.A.units + 1 < cLine) (ho : PE X o (tVar i)) (hk : PD X W k fk) (he : PD X W e fe) (hs : swapsWith e (some (.Subscript o k pos')) pos.line X.env = pure false := by rfl) : PSD X W (.Assign [.Subscript o k pos'] e pos) (sPutT i fk fe) := by
  refine psW (ps_dput hu ho hk he hs) fun D σ H h => ?_
  obtain ⟨B, G, fp, ρ, S, h⟩ := h
  obtain ⟨ds, e1, h⟩ := ownT_inv h
  obtain ⟨a, xs, h1, h2, h3, h4, h5, h6⟩ := S.ownT e1
  refine tD_iff.mpr ⟨B, G, fp, ρ, S, h.aft S fun d _ h v H1 s1 dv => ⟨.ref a, h1, ?_⟩⟩
  have h := SEnd.later (Evo.same s1) h
  refine tD_iff.mpr ⟨B, G, fp, ρ, S.mono s1, h.aft (S.mono s1) fun kd _ h y H2 s2 dk => ?_⟩
  unfold putTo at h
  split at h
  · rename_i ns en
    split at h
    · rename_i hl
      have ek := intsOf_inv en
      subst ek
      obtain ⟨b, rfl, eb⟩ := tup_trk dk
      have s12 := s1.trans s2
      have S2 := (S.mono s1).mono s2
      have h3' := s12.keep _ _ h3 rfl
      have el := dts_len h4
      refine ⟨a, _, rfl, DPut.t h3' eb (by rw [el]; exact lineLt (by omega)), ?_⟩
      have evo : Evo (Ow G fp) H2 (Ow G fp) (upd H2 a (.dT (putK xs (ns.map Sum.inl) v))) := Evo.chg (.inr ⟨i, h2⟩) h3' rfl (ntT _)
      obtain ⟨S3, ev⟩ := S2.chg (o := .dT (putK xs (ns.map Sum.inl) v)) (c0 := .st .dT (.dict (putD ds ns d))) h2 h6 h1 h3' rfl (ntT _) ⟨a, rfl, h2, _, upd_same, DTs.evo evo _ _ (dts_put ns (dv.same s2) (h4.same s12)), by have := putD_len ds ns d; omega⟩
      exact h σ _ fp S3 ((Evo.same s2).trans ev)
    · exact h.elim
  · exact h.elim
theorem pd_getT (hu : X.A.units + 1 < cLine) (ho : PE X o (tVar i)) (hk : PD X W k fk) (he : PD X W e fe) (hb : attributeBase o "get" X.env (eval o X.env) = eval o X.env := by rfl)
    (hfew : ((backTo pos (starEach [k, e] X.env)).all (fun x => !x.1) && (backToKw pos (keywordEach [] X.env)).all (fun x => x.1.isSome)
    && decide (([k, e] : List Expr).length + ([] : List Keyword).length + (if ([] : List Keyword).isEmpty then 0 else 1) < 30)) = true := by rfl) (hline : (apos.endLine == pos.line) = true := by rfl)
    (htr : backTo pos (starEach [k, e] X.env) = [(false, eval k X.env), (false, eval e X.env)] := by rfl) : PD X W (.Call (.Attribute o "get" apos) [k, e] [] pos) (dGetT i fk fe) := by
  refine peW (pe_dget2 hu ho hk he ⟨hb, hfew, hline, htr⟩) fun σ H Q h => ?_
  obtain ⟨B, G, fp, ρ, S, h⟩ := tD_iff.mp h
  unfold dGetT at h
  split at h
  · rename_i ds e1
    obtain ⟨a, xs, h1, h2, h3, h4, h5, h6⟩ := S.ownT e1
    refine ⟨.ref a, h1, a, rfl, .inr ⟨xs, .inl h3⟩, ?_⟩
    refine tD_iff.mpr ⟨B, G, fp, ρ, S, Aft.bind h fun kd _ h => fun y H1 s1 dk => ?_⟩
    refine tD_iff.mpr ⟨B, G, fp, ρ, S.mono s1, Aft.later s1 (Aft.bind h fun z _ g => fun u H2 s2 dz => ?_)⟩
    clear h
    unfold getTo at g
    split at g
    · rename_i ns en
      have ek := intsOf_inv en
      subst ek
      have s12 := s1.trans s2
      obtain ⟨b, rfl, eb⟩ := tup_trk (dk.same s2)
      refine ⟨_, DGet.t (s12.keep _ _ h3 rfl) eb, ?_⟩
      obtain ⟨i1, i2⟩ := dts_val ns (h4.same s12)
      cases e3 : valD ds ns with
      | none => rw [i2 e3]; rw [e3] at g; exact g u H2 s12 dz
      | some z' =>
        obtain ⟨v', e4, dv⟩ := i1 z' e3
        rw [e4]; rw [e3] at g
        exact g v' H2 s12 dv
    · exact g.elim
  · exact h.elim
theorem keyD_ints (k : Key) (ns : List Int) : intsOf (keyD k) ≠ some ns := by
  cases k <;> exact fun h => by cases h
theorem dks_val {K : PySem.W.Frag} {O : Addr → Prop} {H : Hp} (ns : List Int) : ∀ {ds : Kvs} {kvs : List (Key × V)}, DKs K O H kvs ds → valD ds ns = none
  | [], _, h => rfl
  | (_, d) :: ds, _, h => by
    cases h with
    | @cons k v vs _ _ a b =>
      have := dks_val ns b
      unfold valD at this ⊢
      rw [List.find?_cons_of_neg (by simpa using keyD_ints k ns)]
      exact this
theorem pd_ixT (hu : X.A.units + 1 < cLine) (ho : PD X W o fe) (hk : PD X W k fk) (hs : NoSl k := by intro _ _; rfl) : PD X W (.Subscript o k pos) (dBin ixT fe fk) := by
  refine peW (pe_dget hu ho hk hs) fun σ H Q h => ?_
  obtain ⟨B, G, fp, ρ, S, h⟩ := tD_iff.mp h
  refine tD_iff.mpr ⟨B, G, fp, ρ, S, Aft.bind h fun d _ h => fun x H1 s1 dx => ?_⟩
  refine tD_iff.mpr ⟨B, G, fp, ρ, S.mono s1, Aft.later s1 (Aft.bind h fun kd _ g => fun y H2 s2 dk => ?_)⟩
  clear h
  obtain ⟨z, e3, q⟩ := g.of_some
  obtain ⟨ds, ns, rfl, en, ev⟩ : ∃ ds ns, d = .dict ds ∧ intsOf kd = some ns ∧ valD ds ns = some z := by
    cases d <;> first | (cases e3; done) | skip
    obtain ⟨ns, en, ev⟩ := Option.bind_eq_some_iff.mp e3
    exact ⟨_, ns, rfl, en, ev⟩
  have ek := intsOf_inv en
  subst ek
  obtain ⟨b, rfl, eb⟩ := tup_trk dk
  cases dx.same s2 with
  | dct s n kk => rw [dks_val ns kk] at ev; cases ev
  | shr s n c q1 q2 m => cases ev
  | dcT s n kk =>
    obtain ⟨i1, _⟩ := dts_val ns kk
    obtain ⟨v', e4, dv⟩ := i1 z ev
    exact ⟨_, v', rfl, e4 ▸ DGet.t s eb, q v' H2 (s1.trans s2) dv⟩
/-- list(d) -/
def keyT : PyData × PyData → Bool
  | (.tuple ds, _) => match intsL ds with
    | some ns => decide (ds.length ≤ 1000000)
    | none => false
  | _ => false
def keysD : PyData → R (List PyData)
  | .dict ds => if ds.all keyT && decide (ds.length ≤ 1000000) then .ok (ds.map (·.1)) else .no
  | _ => .no
def dKeysT (f : Ro → R PyData) : Ro → R (List PyData) := fun ρ => (f ρ).bind keysD
theorem keys_DO {K : PySem.W.Frag} {O : Addr → Prop} {H : Hp} : ∀ {ds : Kvs} {kvs : List (List Key × V)} {bs : List Addr}, DTs K O H kvs ds → IsKeys H kvs bs → ds.all keyT = true → DOs K O H (bs.map V.ref) (ds.map (·.1))
  | [], _, _, h, hb, _ => by cases h; cases hb; exact .nil
  | (_, d) :: ds, _, _, h, hb, ha => by
    cases h with
    | @cons ns v vs _ _ a b =>
      cases hb with
      | @cons _ c _ cs h1 h2 =>
        rw [List.all_cons, Bool.and_eq_true] at ha
        refine .cons (.tup (xs := ns.map V.int) (.inl ?_) V_ints ?_) (keys_DO b h2 ha.2)
        · have e2 : ns.map V.int = (ns.map (Sum.inl : Int → Key)).map kV := by rw [List.map_map]; rfl
          rw [e2]; exact h1
        · have := ha.1
          unfold keyT at this
          simp only [intsL_map] at this
          exact of_decide_eq_true this
theorem dks_key {K : PySem.W.Frag} {O : Addr → Prop} {H : Hp} {ds : Kvs} {kvs : List (Key × V)} (h : DKs K O H kvs ds) (ha : ds.all keyT = true) : ds = [] := by
  cases h with
  | nil => rfl
  | @cons k v vs d ds a b =>
    rw [List.all_cons, Bool.and_eq_true] at ha
    cases k <;> cases ha.1
theorem pf_keysT (hc : X.calm = true) (hg : Gl X "list") (hm : X.mg "list" = none) (ha : PD X W e fe) (hs : starEach [e] X.env = (false, eval e X.env) :: starEach [] X.env := by rfl) (hpl : (backTo pos (starEach [] X.env)).any (·.1) = false := by rfl) :
    PF X W (.Call (.Name "list" p) [e] [] pos) (dKeysT fe) := by
  have hcall : CallR X (.type "list") (fun xs H Q => ∃ d, xs = [V.ref d] ∧ ((∃ kvs, Rd H d (.dT kvs) ∧ ∀ p bs, H p = none → IsKeys H kvs bs → Q (.ref p) (upd H p (.lst (bs.map V.ref)))) ∨ (∃ kvs, H d = some (.dK kvs) ∧ ∀ p, H p = none → Q (.ref p) (upd H p (.lst (kvs.map fun kv => kV kv.1)))))) := by
    intro pins s σ H xs us Q I r h
    obtain ⟨d, rfl, h | h⟩ := h
    · obtain ⟨kvs, h1, h2⟩ := h
      exact call_list_dT hc pins s σ H _ us Q I r ⟨d, kvs, rfl, h1, h2⟩
    · obtain ⟨kvs, h1, h2⟩ := h
      exact call_list_dK hc pins s σ H _ us Q I r ⟨d, kvs, rfl, h1, h2⟩
  refine peW (pe_callTy (x := "list") hcall hg hm (by decide +kernel) (pa_cons ha pa_nil hs) (by decide) (by decide) hs hpl) fun σ H Q h => ?_
  obtain ⟨B, G, fp, ρ, S, h⟩ := tFr_iff.mp h
  refine tD_iff.mpr ⟨B, G, fp, ρ, S, Aft.bind h fun d e1 h => fun v H1 s1 d1 => ?_⟩
  unfold keysD at h
  split at h
  · rename_i ds
    split at h
    · rename_i hk
      rw [Bool.and_eq_true] at hk
      have hl : ds.length ≤ 1000000 := of_decide_eq_true hk.2
      cases d1 with
      | dct s n kk =>
        have e0 := dks_key kk hk.1
        subst e0
        cases kk
        exact ⟨_, rfl, .inr ⟨[], s, fun p hp => h p _ _ (s1.free hp) (s1.trans (same_new hp)) upd_same .nil (by show 0 ≤ 1000000; decide)⟩⟩
      | shr s n c q1 q2 m => exact absurd hk.1 (by simp [keyT])
      | dcT s n kk => exact ⟨_, rfl, .inl ⟨_, .inl s, fun p bs hp hb => h p _ _ (s1.free hp) (s1.trans (same_new hp)) upd_same ((keys_DO kk hb hk.1).laid hp) (by rw [List.length_map]; exact hl)⟩⟩
    · exact h.elim
  · exact h.elim
/-- {k: v} -/
def disp1 (kd d : PyData) : Option PyData := (intsOf kd).map fun ns => .dict [(.tuple (ns.map .int), d)]
theorem XR.less {K : PySem.W.Frag} {mg : Str → Option Value} {O O' : Addr → Prop} {H : Hp} {x : Xc} {cls : Value} {dd : Option Addr} (le : ∀ a, O' a → O a) (h : XR K mg O H x cls dd) : XR K mg O' H x cls dd := by
  refine ⟨h.1, ?_⟩
  obtain ⟨c, arg⟩ := x
  cases arg with
  | none => exact h.2
  | some d => obtain ⟨a, v, q1, q2, q3⟩ := h.2; exact ⟨a, v, q1, q2, q3.less le⟩
theorem Aft.guard {α : Type} {K : PySem.W.Frag} {mg : Str → Option Value} {W : WX} {O O' : Addr → Prop} {σ : St} {H H1 : Hp} {P P' : α → Prop} {r : R α} (le : ∀ a, O a → O' a) (s : Same H H1) (h : Aft K mg W O σ H P r) (k : ∀ a, r = .ok a → P a → P' a) : Aft K mg W O' σ H1 P' r := by
  cases r with
  | ok a => exact k a rfl h
  | ex x => exact fun cls dd H' s' q => h cls dd H' (s.trans s') (q.less le)
  | no => exact h
theorem pd_disp1 (hu : X.A.units + 1 < cLine) (hk : PD X W k fk) (hv : PD X W v fe) : PD X W (.Dict [some k] [v] pos) (dBin disp1 fk fe) := by
  refine peW (pe_disp1T hu hk hv) fun σ H Q h => ?_
  obtain ⟨B, G, fp, ρ, S, h⟩ := tD_iff.mp h
  intro p hp
  have Sg := S.guard (o := .dT []) hp
  have le : ∀ a, Ow G fp a → Ow (fun a => G a ∨ a = p) fp a := fun a ha => ha.elim (fun z => .inl (.inl z)) .inr
  have nw := S.new hp
  have h : Aft X.K X.mg W (Ow G fp) σ H (fun d => ∀ v H', Same H H' → DO X.K (Ow G fp) H' v d → Q v H') ((fk ρ).bind fun x => (fe ρ).bind fun y => R.of (disp1 x y)) := h
  refine tD_iff.mpr ⟨B, _, fp, ρ, Sg, Aft.guard le (same_new hp) (Aft.bind (P := fun kd => Aft X.K X.mg W (Ow G fp) σ H (fun d => ∀ v H', Same H H' → DO X.K (Ow G fp) H' v d → Q v H') ((fe ρ).bind fun y => R.of (disp1 kd y))) h fun kd _ h => h) fun kd _ h => fun x H1 s1 dk => ?_⟩
  refine tD_iff.mpr ⟨B, _, fp, ρ, Sg.mono s1, Aft.guard le ((same_new hp).trans s1) (Aft.bind (P := fun d => Aft X.K X.mg W (Ow G fp) σ H (fun d => ∀ v H', Same H H' → DO X.K (Ow G fp) H' v d → Q v H') (R.of (disp1 kd d))) h fun d _ h => h) fun d _ h => fun y H2 s2 dy => ?_⟩
  obtain ⟨z, e3, q⟩ := h.of_some
  obtain ⟨ns, en, rfl⟩ := Option.map_eq_some_iff.mp e3
  have ek := intsOf_inv en
  subst ek
  have s12 := s1.trans s2
  have hs0 := s12.keep _ _ (upd_same (H := H) (a := p) (o := .dT [])) rfl
  obtain ⟨b, rfl, eb⟩ := tup_trk (dk.same s2)
  refine ⟨hs0, b, ns.map Sum.inl, rfl, eb, ?_⟩
  have ev : Evo (Ow (fun a => G a ∨ a = p) fp) H2 (Ow G fp) (upd H2 p (.dT [(ns.map Sum.inl, y)])) := ⟨fun a ha => .inl (le a ha), fun b u hb n _ => by
    have nb : b ≠ p := fun z => n (.inl (.inr z))
    rw [upd_ne nb]; exact hb, dom_upd, fun K' a bk cs m => m.upd hs0 rfl (ntT _), tup_upd hs0 (ntT _)⟩
  exact q _ _ (((same_new hp).trans s12).upd hp hs0 rfl (ntT _)) (.dcT upd_same nw (.cons (DO.evo ev _ _ dy) .nil))
end
/-! sum -/
def sumD : List PyData → Option PyData
  | [.list ds] => (intsL ds).map fun ns => .int ns.sum
  | _ => none
theorem co_sum {K : PySem.W.Frag} : CallOk K (rSum K) sumD := by
  intro O H xs ds z Q ht hx h q
  match ds, hx, h with
  | [.list es], .cons (.lst s q1 _) .nil, h =>
    obtain ⟨ns, h1, rfl⟩ := Option.map_eq_some_iff.mp (show (intsL es).map (fun ns => PyData.int ns.sum) = some z from h)
    have e := intsL_inv h1
    subst e
    have e := ints_V q1
    subst e
    exact ⟨_, ns, rfl, s.sq, q _ H (Same.refl H) (.int _)⟩
/-! an owned dict is frozen -/
theorem SR.frzG {K : PySem.W.Frag} {B : Hp} {G : Addr → Prop} {fp : Nat → List Addr} {σ : St} {H : Hp} {ρ : Ro} (S : SR K B G fp σ H ρ) {i : Nat} {c0 : Cel} {d : PyData} (h : ρ[i]? = some (some c0))
    (hc : ∀ v O', (∀ a ∈ fp i, ¬ O' a) → Evo (Ow G fp) H O' H → CelR K (Ow G fp) H v (fp i) c0 → DO K O' H v d) :
    SR K B G (fpSet fp i []) σ H (ρ.set i (some (.fz d))) ∧ Evo (Ow G fp) H (Ow G (fpSet fp i [])) H := by
  have sub : ∀ a, Ow G (fpSet fp i []) a → Ow G fp a ∧ a ∉ fp i ∨ G a := fun a ha => by
    rcases ha with ha | ⟨j, ha⟩
    · exact .inr ha
    · unfold fpSet at ha
      split at ha
      · simp at ha
      · rename_i hne
        exact .inl ⟨.inr ⟨j, ha⟩, fun z => hne (S.dis j i a ha z)⟩
  have ev : Evo (Ow G fp) H (Ow G (fpSet fp i [])) H := Evo.less fun a ha => (sub a ha).elim (·.1) .inl
  refine ⟨⟨by rw [List.length_set]; exact S.len, S.same, S.gt, fun j a ha => ?_, fun j a ha => ?_, fun j a ha => ?_, fun j k a ha hb => ?_, fun j c e => ?_⟩, ev⟩
  · unfold fpSet at ha; split at ha
    · simp at ha
    · exact S.fpB j a ha
  · unfold fpSet at ha; split at ha
    · simp at ha
    · exact S.fpG j a ha
  · unfold fpSet at ha; split at ha
    · simp at ha
    · exact S.fpH j a ha
  · unfold fpSet at ha hb; split at ha
    · simp at ha
    · split at hb
      · simp at hb
      · exact S.dis j k a ha hb
  · by_cases hj : i = j
    · subst hj
      have hi := (List.getElem?_eq_some_iff.mp h).1
      rw [List.getElem?_set_self hi] at e
      cases e
      obtain ⟨v, h1, h2⟩ := S.slot i _ h
      refine ⟨v, h1, hc v _ (fun a ha z => ?_) ev h2⟩
      rcases sub a z with z | z
      · exact z.2 ha
      · exact S.fpG i a ha z
    · rw [List.getElem?_set_ne hj] at e
      obtain ⟨w, h1, h2⟩ := S.slot j c e
      refine ⟨w, h1, ?_⟩
      have e0 : fpSet fp i [] j = fp j := by unfold fpSet; rw [if_neg (Ne.symm hj)]
      rw [e0]
      exact CelR.evo ev (fun b _ u _ q => q) h2
def sFrzT (i : Nat) (f : Ro → Fl) : Ro → Fl := fun ρ => match ρ[i]? with
  | some (some (.st .dT (.dict ds))) => f (ρ.set i (some (.fz (.dict ds))))
  | _ => f ρ
theorem tSD_frzT {W : WX} {f : Ro → Fl} {K : PySem.W.Frag} {mg : Str → Option Value} {i : Nat} {D : Ends} {σ : St} {H : Hp} (h : tSD K mg W (sFrzT i f) D σ H) : tSD K mg W f D σ H := by
  obtain ⟨B, G, fp, ρ, S, h⟩ := h
  unfold sFrzT at h
  split at h
  · rename_i ds e
    obtain ⟨S', ev⟩ := S.frzG (d := .dict ds) e fun v O' n ev q => by
      obtain ⟨a, rfl, ha, xs, q1, q2, q3⟩ := q
      exact .dcT q1 (n a ha) (DTs.evo ev _ _ q2)
    exact ⟨B, G, _, _, S', SEnd.later ev h⟩
  · exact ⟨B, G, fp, ρ, S, h⟩
theorem psd_frzT {X : Cx} {W : WX} {f : Ro → Fl} {st : Stmt} (i : Nat) (h : PSD X W st f) : PSD X W st (sFrzT i f) := psW h fun _ _ _ => tSD_frzT
end Pu

namespace L2
open PySem PySem.Spec PyProof.Rows
/-- xs[::-1] of a list, its step anything that is -1 -/
def tRev (K : PySem.W.Frag) (te : TE) (tk : TO) : TE := fun σ H Q => te σ H fun x H1 => tk σ H1 fun k H2 => k = some (-1) ∧ ∃ a xs, x = .ref a ∧ SqL K H2 a xs ∧ ∀ p, H2 p = none → Q (.ref p) (upd H2 p (.lst xs.reverse))
theorem pe_rev {X : Cx} {e st : Expr} {te : TE} {tk : TO} {pos p2 : Pos} (he : PE X e te) (hk : PO X (some st) tk) : PE X (.Subscript e (.Slice none none (some st) p2) pos) (tRev X.K te tk) := by
  refine ⟨fun pins s σ H Q I h => ?_⟩
  refine Subscript_ (thn (he.run pins s σ H _ I h) fun v s1 ⟨x, H1, I1, r1, q1⟩ => ?_)
  refine wpAny_Slice ?_
  rw [evalPart_none]
  refine wpAny_pure (wpAny_pure (thn (hk.run pins s1 σ H1 _ I1 q1) fun vk s2 ⟨k, H2, I2, pk, ek, a, xs, ex, hx, q⟩ => ?_))
  subst ek ex
  cases r1
  have I4 : Inv X pins σ H2 { s2 with heap := s2.heap.push { cls := .type "slice", data := .fields #[.none, .none, vk] } } := I2.kept (t' := s2.toks) fun b ob q => Heap.get?_push_of_some _ q
  obtain ⟨its, r, ht, hz⟩ := I4.list hx
  have hlen := r.length
  show wpAny (model X.prog X.w) X.A (subscriptTail e (.Slice none none (some st) p2) (.ref a) (.ref s2.heap.objs.size)) (EP X pins σ Q) X.xe { s2 with heap := s2.heap.push { cls := .type "slice", data := .fields #[.none, .none, vk] } }
  refine tail_any (ops := [.ref a, .ref s2.heap.objs.size]) ht.isList.typeIs slot_list_getitem.lookup ?_ (by with_unfolding_all rfl)
  refine wpAny_getItem_list_slice ht.isList (Heap.IsSliceOf.new ..) .none .none pk (by decide) ?_ (by rw [List.size_toArray] <;> omega)
  rw [PySem.W.krv_pick, show its.toArray.toList = its from by simp]
  refine ⟨.ref _, _, I4.laid (t' := s2.toks) (o := .lst xs.reverse) (fun b ob q => Heap.get?_push_of_some _ q) (Nat.le_refl _) ?_, rfl, q _ (I4.hok.fresh (Nat.le_refl _))⟩
  exact ⟨by rw [List.length_reverse]; exact hz, its.reverse, 0, r.reverse, Heap.get?_push_size _ rfl⟩
end L2
namespace Pu
open PySem PySem.Spec PyProof.Rows L2
variable [MemoSpec]
theorem DOs.rev {K : PySem.W.Frag} {O : Addr → Prop} {H : Hp} : ∀ {ds : List PyData} {vs : List V}, DOs K O H vs ds → DOs K O H vs.reverse ds.reverse
  | [], _, h => by cases h; exact .nil
  | d :: ds, _, h => by
    cases h with
    | cons a b =>
      rw [List.reverse_cons, List.reverse_cons]
      exact (DOs.rev b).append (.cons a .nil)
def dRevL (f : Ro → R (List PyData)) (fk : Ro → R PyData) : Ro → R (List PyData) := fun ρ => (f ρ).bind fun xs => (optI (some fk) ρ).bind fun k => if k = some (-1) then .ok xs.reverse else .no
theorem pf_rev {X : Cx} {W : WX} {e st : Expr} {f : Ro → R (List PyData)} {fk : Ro → R PyData} {pos p2 : Pos} (he : PL X W e f) (hk : PO X (some st) (tOD X.K X.mg W (some fk))) : PF X W (.Subscript e (.Slice none none (some st) p2) pos) (dRevL f fk) := by
  refine peW (pe_rev he hk) fun σ H Q h => ?_
  obtain ⟨B, G, fp, ρ, S, h⟩ := tFr_iff.mp h
  refine tL_iff.mpr ⟨B, G, fp, ρ, S, Aft.bind h fun d e1 h => fun a xs H1 s1 r1 d1 hz => ?_⟩
  refine ⟨B, G, fp, ρ, S.mono s1, Aft.later s1 (Aft.bind h fun l e2 g => fun H2 s2 => ?_)⟩
  by_cases hl : l = some (-1)
  · rw [if_pos hl] at g
    have sm : Same H H2 := s1.trans s2
    refine ⟨hl, a, xs, rfl, .inl (rd_same s2 r1), fun p hp => ?_⟩
    exact g p _ _ (sm.free hp) (sm.trans (same_new hp)) upd_same ((d1.same s2).rev.laid hp) (by rw [List.length_reverse]; exact hz)
  · rw [if_neg hl] at g
    exact g.elim
@[simp] theorem dRevL_ap (f : Ro → R (List PyData)) (fk : Ro → R PyData) (ρ : Ro) : dRevL f fk ρ = (f ρ).bind fun xs => (optI (some fk) ρ).bind fun k => if k = some (-1) then .ok xs.reverse else .no := rfl
end Pu

namespace Pu
open PySem PySem.Spec PyProof.Rows L2
variable [MemoSpec]
/-! ### list(range(n)); x.append(y.pop(k)); x.pop() -/
def rangeTo : List PyData → R (List PyData)
  | [.int j] => if 0 ≤ j ∧ j.toNat ≤ 1000000 then .ok ((List.range j.toNat).map fun (i : Nat) => PyData.int (i : Int)) else .no
  | _ => .no
def dListRg (fa : Ro → R (List PyData)) : Ro → R (List PyData) := fun ρ => (fa ρ).bind rangeTo
theorem rgV_DO {K : PySem.W.Frag} {O : Addr → Prop} {H : Hp} (n : Nat) : DOs K O H (rgV 0 n) ((List.range n).map fun (i : Nat) => PyData.int (i : Int)) := by
  unfold rgV
  have e : ((n : Int) - 0).toNat = n := by omega
  rw [e]
  have : ∀ l : List Nat, DOs K O H (l.map fun i => V.int (0 + (i : Nat))) (l.map fun (i : Nat) => PyData.int (i : Int)) := by
    intro l
    induction l with
    | nil => exact .nil
    | cons i l ih =>
      rw [List.map_cons, List.map_cons]
      refine .cons ?_ ih
      rw [Int.zero_add]
      exact .int _
  exact this _
section
variable {X : Cx} {W : WX} {e o o2 : Expr} {fa : Ro → R (List PyData)} {fe : Ro → R PyData} {pos pos' pos2 p p2 apos apos2 : Pos}
theorem pf_listRg (hc : X.calm = true) (hg : Gl X "list") (hm : X.mg "list" = none) (hg2 : Gl X "range") (hm2 : X.mg "range" = none) (ha : PD X W e fe) (na : starEach [e] X.env = (false, eval e X.env) :: starEach [] X.env := by rfl) (na2 : starEach [.Call (.Name "range" p2) [e] [] pos2] X.env = (false, eval (.Call (.Name "range" p2) [e] [] pos2) X.env) :: starEach [] X.env := by rfl) :
    PF X W (.Call (.Name "list" p) [.Call (.Name "range" p2) [e] [] pos2] [] pos) (dListRg (dCons fe dNil)) := by
  refine peW (pe_listRg hc hg hm (prg_1 hg2 hm2 ha na) na2) fun σ H Q h => ?_
  obtain ⟨B, G, fp, ρ, S, h⟩ := tFr_iff.mp h
  have h : Aft X.K X.mg W (Ow G fp) σ H (fun ds => ∀ p xs H', H p = none → Same H H' → H' p = some (.lst xs) → DOs X.K (fun a => Ow G fp a ∨ a = p) H' xs ds → ds.length ≤ 1000000 → Q (.ref p) H') ((fe ρ).bind fun d => rangeTo [d]) := by
    have e : dListRg (dCons fe dNil) ρ = (fe ρ).bind fun d => rangeTo [d] := by
      show (((fe ρ).bind fun x => (R.ok []).bind fun xs => .ok (x :: xs))).bind rangeTo = _
      cases fe ρ <;> rfl
    rw [e] at h
    exact h
  refine tD_iff.mpr ⟨B, G, fp, ρ, S, Aft.bind h fun d _ g => fun v H1 s1 d1 => ?_⟩
  unfold rangeTo at g
  split at g
  · rename_i j hj
    injection hj with hj
    subst hj
    split at g
    · rename_i hb
      cases d1
      obtain ⟨n, rfl⟩ : ∃ n : Nat, j = n := ⟨j.toNat, by omega⟩
      refine ⟨n, rfl, RgOk.of_le (by omega) (by omega) (by omega) (by omega), fun q hq => ?_⟩
      rw [show ((n : Int)).toNat = n from by omega] at g
      exact g q _ _ (s1.free hq) (s1.trans (same_new hq)) upd_same ((rgV_DO n).laid hq) (by rw [List.length_map, List.length_range]; omega)
    · exact g.elim
  · exact g.elim
def popTo (ρ : Ro) (i j : Nat) (ds es : List PyData) : PyData → Fl
  | .int k => if 0 ≤ k then (match es[k.toNat]? with
    | some x => if ds.length < 1000000 then .nx ((ρ.set j (some (.ow (.list (es.eraseIdx k.toNat))))).set i (some (.ow (.list (ds ++ [x]))))) else .no
    | none => .no) else .no
  | _ => .no
/-- x.append(y.pop(k)) -/
def sAppPop (i j : Nat) (f : Ro → R PyData) : Ro → Fl := fun ρ => ownL ρ i fun ds => ownL ρ j fun es => Fl.of ρ (f ρ) fun d => if i = j then .no else popTo ρ i j ds es d
theorem seqIx {k n : Nat} (h : k < n) : seqIndex? (k : Int) n = some k := by
  unfold seqIndex?
  have h1 : ¬ ((k : Int) < 0) := by omega
  simp [h1]
  omega
theorem DOs.erase {K : PySem.W.Frag} {O : Addr → Prop} {H : Hp} : ∀ {ds : List PyData} {vs : List V} (k : Nat), DOs K O H vs ds → DOs K O H (vs.eraseIdx k) (ds.eraseIdx k)
  | [], _, k, h => by cases h; exact .nil
  | d :: ds, _, 0, h => by cases h with | cons a b => exact b
  | d :: ds, _, k + 1, h => by cases h with | cons a b => exact .cons a (DOs.erase k b)
theorem psd_appPop {i j : Nat} (ho : PE X o (tVar i)) (ho2 : PE X o2 (tVar j)) (ha : PD X W e fe)
    (hbase : attributeBase o "append" X.env (eval o X.env) = eval o X.env := by rfl) (hbase2 : attributeBase o2 "pop" X.env (eval o2 X.env) = eval o2 X.env := by rfl)
    (hfew : ((backTo pos' (starEach [.Call (.Attribute o2 "pop" apos2) [e] [] pos2] X.env)).all (fun x => !x.1) && (backToKw pos' (keywordEach [] X.env)).all (fun x => x.1.isSome)
      && decide (([.Call (.Attribute o2 "pop" apos2) [e] [] pos2] : List Expr).length + ([] : List Keyword).length + (if ([] : List Keyword).isEmpty then 0 else 1) < 30)) = true := by rfl)
    (hfew2 : ((backTo pos2 (starEach [e] X.env)).all (fun x => !x.1) && (backToKw pos2 (keywordEach [] X.env)).all (fun x => x.1.isSome)
      && decide (([e] : List Expr).length + ([] : List Keyword).length + (if ([] : List Keyword).isEmpty then 0 else 1) < 30)) = true := by rfl)
    (hline : (apos.endLine == pos'.line) = true := by rfl) (hline2 : (apos2.endLine == pos2.line) = true := by rfl)
    (hs : starEach [.Call (.Attribute o2 "pop" apos2) [e] [] pos2] X.env = (false, eval (.Call (.Attribute o2 "pop" apos2) [e] [] pos2) X.env) :: starEach [] X.env := by rfl) (hs2 : starEach [e] X.env = (false, eval e X.env) :: starEach [] X.env := by rfl)
    (hplain : (backTo pos' (starEach [] X.env)).any (·.1) = false := by rfl) (hplain2 : (backTo pos2 (starEach [] X.env)).any (·.1) = false := by rfl)
    (hsw : swapsWith (.Call (.Attribute o "append" apos) [.Call (.Attribute o2 "pop" apos2) [e] [] pos2] [] pos') none pos.line X.env = pure false := by rfl) :
    PSD X W (.Expr (.Call (.Attribute o "append" apos) [.Call (.Attribute o2 "pop" apos2) [e] [] pos2] [] pos') pos) (sAppPop i j fe) := by
  refine psW (ps_expr (pe_bm PySem.F.plainAttrs_list PySem.F.slot_list_append PySem.F.type_list_append mt_append ho (pa_cons (pe_bm PySem.F.plainAttrs_list PySem.F.slot_list_pop PySem.F.type_list_pop mt_popAt ho2 (pa_cons ha pa_nil hs2) hbase2 hfew2 hline2 hs2 hplain2) pa_nil hs) hbase hfew hline hs hplain) hsw) fun D σ H h => ?_
  obtain ⟨B, G, fp, ρ, S, h⟩ := h
  obtain ⟨ds, e1, h⟩ := ownL_inv h
  obtain ⟨es, e2, h⟩ := ownL_inv h
  obtain ⟨a, xs, h1, h2, h3, h4, h5, h6⟩ := S.ownL e1
  obtain ⟨b, ys, k1, k2, k3, k4, k5, k6⟩ := S.ownL e2
  refine ⟨.ref a, h1, .inl ⟨rfl, xs, SqL.of h3⟩, ?_⟩
  refine ⟨.ref b, k1, .inl ⟨rfl, ys, SqL.of k3⟩, ?_⟩
  refine tD_iff.mpr ⟨B, G, fp, ρ, S, h.aft S fun d ed g v H' s dv => ?_⟩
  clear ed
  by_cases hij : i = j
  · rw [if_pos hij] at g; exact g.elim
  rw [if_neg hij] at g
  unfold popTo at g
  split at g
  · rename_i k
    split at g
    · rename_i hk0
      split at g
      · rename_i x ex
        split at g
        · rename_i hl
          cases dv
          obtain ⟨n, rfl⟩ : ∃ n : Nat, k = n := ⟨k.toNat, by omega⟩
          rw [show ((n : Int)).toNat = n from by omega] at ex g
          have k4' := k4.same s
          obtain ⟨y, ey, dy⟩ := k4'.get ex
          have hn : n < ys.length := (List.getElem?_eq_some_iff.mp ey).1
          have S1 := S.mono s
          have k3' := s.keep _ _ k3 rfl
          have h3' := s.keep _ _ h3 rfl
          have el := k4.length
          refine ⟨b, ys, (n : Int), n, y, rfl, rfl, k3', by omega, by omega, seqIx hn, ey, ?_⟩
          have evo : Evo (Ow G fp) H' (Ow G fp) (upd H' b (.lst (ys.eraseIdx n))) := Evo.chg (.inr ⟨j, k2⟩) k3' rfl (ntL _)
          obtain ⟨S2, ev⟩ := S1.chg (o := .lst (ys.eraseIdx n)) (c0 := .ow (.list (es.eraseIdx n))) k2 k6 k1 k3' rfl (ntL _) ⟨b, rfl, k2, _, upd_same, DOs.evo evo _ _ (k4'.erase n), by have := List.length_eraseIdx_le es n; omega⟩
          have hab : a ≠ b := fun z => hij (S.dis i j a h2 (by rw [z]; exact k2))
          have h3'' : upd H' b (.lst (ys.eraseIdx n)) a = some (.lst xs) := by rw [upd_ne hab]; exact h3'
          have el2 := h4.length
          refine ⟨a, xs, y, rfl, rfl, h3'', lineLt (by omega), ?_⟩
          have evo2 : Evo (Ow G fp) (upd H' b (.lst (ys.eraseIdx n))) (Ow G fp) (upd (upd H' b (.lst (ys.eraseIdx n))) a (.lst (xs ++ [y]))) := Evo.chg (.inr ⟨i, h2⟩) h3'' rfl (ntL _)
          obtain ⟨S3, ev2⟩ := S2.chg (o := .lst (xs ++ [y])) (c0 := .ow (.list (ds ++ [x]))) h2 (by rw [List.length_set]; exact h6) h1 h3'' rfl (ntL _) ⟨a, rfl, h2, _, upd_same, DOs.evo evo2 _ _ (DOs.evo evo _ _ ((h4.same s).append (.cons dy .nil))), by simp; omega⟩
          exact g σ _ fp S3 (((Evo.same s).trans ev).trans ev2)
        · exact g.elim
      · exact g.elim
    · exact g.elim
  · exact g.elim
/-- x.pop() -/
theorem psd_popX {i : Nat} (ho : PE X o (tVar i)) (hbase : attributeBase o "pop" X.env (eval o X.env) = eval o X.env := by rfl) (hline : (apos.endLine == pos'.line) = true := by rfl)
    (hsw : swapsWith (.Call (.Attribute o "pop" apos) [] [] pos') none pos.line X.env = pure false := by rfl) : PSD X W (.Expr (.Call (.Attribute o "pop" apos) [] [] pos') pos) (sPopX i) := by
  refine psW (ps_expr (pe_bm0 PySem.F.plainAttrs_list PySem.F.slot_list_pop PySem.F.type_list_pop mt_pop ho hbase hline) hsw) fun D σ H h => ?_
  obtain ⟨B, G, fp, ρ, S, h⟩ := h
  obtain ⟨ds, e1, h⟩ := ownL_inv h
  obtain ⟨a, xs, h1, h2, h3, h4, h5, h6⟩ := S.ownL e1
  refine ⟨.ref a, h1, .inl ⟨rfl, xs, SqL.of h3⟩, ?_⟩
  split at h
  · rename_i d ed
    have el := h4.length
    obtain ⟨y, ey, dy⟩ := h4.get ed
    refine ⟨a, xs, y, rfl, rfl, h3, by rw [el]; exact ey, ?_⟩
    have evo : Evo (Ow G fp) H (Ow G fp) (upd H a (.lst xs.dropLast)) := Evo.chg (.inr ⟨i, h2⟩) h3 rfl (ntL _)
    obtain ⟨S2, ev⟩ := S.chg (o := .lst xs.dropLast) (c0 := .ow (.list ds.dropLast)) h2 h6 h1 h3 rfl (ntL _) ⟨a, rfl, h2, _, upd_same, DOs.evo evo _ _ (by rw [List.dropLast_eq_take, List.dropLast_eq_take, el]; exact h4.take _), by rw [List.length_dropLast]; omega⟩
    exact h σ _ fp S2 ev
  · exact h.elim
end
end Pu

namespace Pu
open PySem PySem.Spec PyProof.Rows L2
variable [MemoSpec]
/-! ### a stand-in that a slot owns -/
def ownS {α : Type} (ρ : Ro) (i : Nat) (no : α) (k : Option Addr → PyData → PyData → PyData → List PyData → α) : α := match ρ[i]? with
  | some (some (.st (.sd t) (.tuple [bk, st, cts, .list rows]))) => k t bk st cts rows
  | _ => no
def sdD (bk st cts : PyData) (rows : List PyData) : PyData := .tuple [bk, st, cts, .list rows]
def sCel (t : Option Addr) (s : PyData) : Option Cel := some (.st (.sd t) s)
theorem SdR.evo {K : PySem.W.Frag} {O O' : Addr → Prop} {H H' : Hp} {as : List Addr} {p : Addr} {d : PyData} (e : Evo O H O' H') (hp : p ∈ as) (s : ∀ b ∈ as, ∀ u, isExt u = false → H b = some u → H' b = some u) (h : SdR K O H as p d) : SdR K O' H' as p d :=
  (StR.evo (k := .sd none) e hp s ⟨(fun _ z => nomatch z), h⟩).2
theorem SdR.less {K : PySem.W.Frag} {O O' : Addr → Prop} {H : Hp} {as : List Addr} {p : Addr} {d : PyData} (e : ∀ a, O' a → O a) (hp : p ∈ as) (h : SdR K O H as p d) : SdR K O' H as p d := h.evo (Evo.less e) hp fun _ _ _ _ q => q
theorem SR.ownS {K : PySem.W.Frag} {B : Hp} {G : Addr → Prop} {fp : Nat → List Addr} {σ : St} {H : Hp} {ρ : Ro} {i : Nat} {t : Option Addr} {s : PyData} (S : SR K B G fp σ H ρ) (h : ρ[i]? = some (sCel t s)) : ∃ p, (∀ q, t = some q → p = q) ∧ σ[i]? = some (some (.ref p)) ∧ p ∈ fp i ∧ SdR K (Ow G fp) H (fp i) p s ∧ i < ρ.length := by
  obtain ⟨v, h1, a, rfl, h3, h4, h5⟩ := S.slot i _ h
  exact ⟨a, h4, h1, h3, h5, (List.getElem?_eq_some_iff.mp h).1⟩
/-- something that a slot owns is changed -/
theorem SR.chgG {K : PySem.W.Frag} {B : Hp} {G : Addr → Prop} {fp : Nat → List Addr} {σ : St} {H : Hp} {ρ : Ro} (S : SR K B G fp σ H ρ) {i : Nat} {a : Addr} {o : HO} {c0 : Cel} {v : V} (ha : a ∈ fp i) (hi : i < ρ.length) (hs : σ[i]? = some (some v)) {u0 : HO} (h0 : H a = some u0) (ne0 : isExt u0 = false) (nt0 : ∀ xs, u0 ≠ .tup xs ∧ ∀ ob, u0 ≠ .frz ob (.tup xs)) (hd : CelR K (Ow G fp) (upd H a o) v (fp i) c0) :
    SR K B G fp σ (upd H a o) (ρ.set i (some c0)) ∧ Evo (Ow G fp) H (Ow G fp) (upd H a o) := by
  have hO : Ow G fp a := .inr ⟨i, ha⟩
  have ev : Evo (Ow G fp) H (Ow G fp) (upd H a o) := Evo.chg hO h0 ne0 nt0
  refine ⟨⟨by rw [List.length_set]; exact S.len, S.same.upd (S.fpB i a ha) h0 ne0 nt0, fun b hb => ?_, S.fpB, S.fpG, fun j b hb => ?_, S.dis, fun j c e => ?_⟩, ev⟩
  · have : b ≠ a := fun z => S.fpG i a ha (by rw [← z]; exact hb)
    rw [upd_ne this]; exact S.gt b hb
  · by_cases z : b = a
    · subst z; exact ⟨o, upd_same⟩
    · rw [upd_ne z]; exact S.fpH j b hb
  · by_cases hj : i = j
    · subst hj
      rw [List.getElem?_set_self hi] at e
      cases e
      exact ⟨v, hs, hd⟩
    · rw [List.getElem?_set_ne hj] at e
      obtain ⟨w, h1, h2⟩ := S.slot j c e
      refine ⟨w, h1, CelR.evo ev (fun b hb u _ q => ?_) h2⟩
      have : b ≠ a := fun z => hj (S.dis i j a ha (by rw [← z]; exact hb))
      rw [upd_ne this]; exact q
def dSdB (i : Nat) : Ro → R PyData := fun ρ => ownS ρ i .no fun _ bk _ _ _ => .ok bk
def dSdS (i : Nat) : Ro → R PyData := fun ρ => ownS ρ i .no fun _ _ st _ _ => .ok st
def dSdC (i : Nat) : Ro → R PyData := fun ρ => ownS ρ i .no fun _ _ _ cts _ => .ok cts
def dSdR (i : Nat) : Ro → R (List PyData) := fun ρ => ownS ρ i .no fun _ _ _ _ rows => .ok rows
theorem own_cases (ρ : Ro) (i : Nat) : (∃ t bk st cts rows, ρ[i]? = some (sCel t (sdD bk st cts rows)) ∧ ∀ {α : Type} (no : α) k, ownS ρ i no k = k t bk st cts rows) ∨ ∀ {α : Type} (no : α) k, ownS ρ i no k = no := by
  unfold ownS
  split
  · rename_i t bk st cts rows e
    exact .inl ⟨t, bk, st, cts, rows, e, fun _ _ => rfl⟩
  · exact .inr fun _ _ => rfl
section
variable {X : Cx} {W : WX} {o e : Expr} {fe : Ro → R PyData} {pos pos' pos2 apos p1 : Pos} {i : Nat}
theorem pd_sdB (cl : Cls X.K (sdC X.K)) (no : NoAttr X.K (sdC X.K) "book") (ho : PE X o (tVar i)) (hb : attributeBase o "book" X.env (eval o X.env) = eval o X.env := by rfl) : PD X W (.Attribute o "book" pos) (dSdB i) := by
  refine peW (pe_fld ho hb) fun σ H Q h => ?_
  obtain ⟨B, G, fp, ρ, S, h⟩ := tD_iff.mp h
  unfold dSdB at h
  rcases own_cases ρ i with ⟨t, bk, st, cts, rows, e1, e2⟩ | e2
  · rw [e2] at h
    obtain ⟨p, ht, h1, h2, ⟨bk', st', cts', rows', dx, vb, vs, vc, r, xs, q0, q1, q2, q3, q4, q5, q6, q7, q8, q9⟩, h4⟩ := S.ownS e1
    cases q0
    exact ⟨.ref p, h1, p, sdC X.K, dx, _, vb, rfl, q1, cl, no, rfl, h vb H (Same.refl H) q5⟩
  · rw [e2] at h; exact h.elim
theorem pd_sdS (cl : Cls X.K (sdC X.K)) (no : NoAttr X.K (sdC X.K) "strict") (ho : PE X o (tVar i)) (hb : attributeBase o "strict" X.env (eval o X.env) = eval o X.env := by rfl) : PD X W (.Attribute o "strict" pos) (dSdS i) := by
  refine peW (pe_fld ho hb) fun σ H Q h => ?_
  obtain ⟨B, G, fp, ρ, S, h⟩ := tD_iff.mp h
  unfold dSdS at h
  rcases own_cases ρ i with ⟨t, bk, st, cts, rows, e1, e2⟩ | e2
  · rw [e2] at h
    obtain ⟨p, ht, h1, h2, ⟨bk', st', cts', rows', dx, vb, vs, vc, r, xs, q0, q1, q2, q3, q4, q5, q6, q7, q8, q9⟩, h4⟩ := S.ownS e1
    cases q0
    exact ⟨.ref p, h1, p, sdC X.K, dx, _, vs, rfl, q1, cl, no, rfl, h vs H (Same.refl H) q6⟩
  · rw [e2] at h; exact h.elim
theorem pd_sdC (cl : Cls X.K (sdC X.K)) (no : NoAttr X.K (sdC X.K) "counts") (ho : PE X o (tVar i)) (hb : attributeBase o "counts" X.env (eval o X.env) = eval o X.env := by rfl) : PD X W (.Attribute o "counts" pos) (dSdC i) := by
  refine peW (pe_fld ho hb) fun σ H Q h => ?_
  obtain ⟨B, G, fp, ρ, S, h⟩ := tD_iff.mp h
  unfold dSdC at h
  rcases own_cases ρ i with ⟨t, bk, st, cts, rows, e1, e2⟩ | e2
  · rw [e2] at h
    obtain ⟨p, ht, h1, h2, ⟨bk', st', cts', rows', dx, vb, vs, vc, r, xs, q0, q1, q2, q3, q4, q5, q6, q7, q8, q9⟩, h4⟩ := S.ownS e1
    cases q0
    exact ⟨.ref p, h1, p, sdC X.K, dx, _, vc, rfl, q1, cl, no, rfl, h vc H (Same.refl H) q7⟩
  · rw [e2] at h; exact h.elim
theorem pl_sdR (cl : Cls X.K (sdC X.K)) (no : NoAttr X.K (sdC X.K) "rows") (ho : PE X o (tVar i)) (hb : attributeBase o "rows" X.env (eval o X.env) = eval o X.env := by rfl) : PL X W (.Attribute o "rows" pos) (dSdR i) := by
  refine peW (pe_fld ho hb) fun σ H Q h => ?_
  obtain ⟨B, G, fp, ρ, S, h⟩ := tL_iff.mp h
  unfold dSdR at h
  rcases own_cases ρ i with ⟨t, bk, st, cts, rows, e1, e2⟩ | e2
  · rw [e2] at h
    obtain ⟨p, ht, h1, h2, ⟨bk', st', cts', rows', dx, vb, vs, vc, r, xs, q0, q1, q2, q3, q4, q5, q6, q7, q8, q9⟩, h4⟩ := S.ownS e1
    cases q0
    exact ⟨.ref p, h1, p, sdC X.K, dx, _, .ref r, rfl, q1, cl, no, rfl, h r xs H (Same.refl H) (Rd.of q4) q8 q9⟩
  · rw [e2] at h; exact h.elim
theorem ntI (C dx : Addr) (fs : List (Str × V)) : ∀ xs, HO.ins C dx fs ≠ .tup xs ∧ ∀ ob, HO.ins C dx fs ≠ .frz ob (.tup xs) := fun xs => ⟨(fun h => nomatch h), (fun ob h => nomatch h)⟩
/-- o.rows.append(e) -/
def sSdApp (i : Nat) (f : Ro → R PyData) : Ro → Fl := fun ρ => ownS ρ i .no fun t bk st cts rows => Fl.of ρ (f ρ) fun d => if rows.length < 1000000 then .nx (ρ.set i (sCel t (sdD bk st cts (rows ++ [d])))) else .no
theorem psd_sdApp (cl : Cls X.K (sdC X.K)) (no : NoAttr X.K (sdC X.K) "rows") (ho : PE X o (tVar i)) (ha : PD X W e fe) (hb : attributeBase o "rows" X.env (eval o X.env) = eval o X.env := by rfl)
    (hbase : attributeBase (.Attribute o "rows" p1) "append" X.env (eval (.Attribute o "rows" p1) X.env) = eval (.Attribute o "rows" p1) X.env := by rfl)
    (hfew : ((backTo pos' (starEach [e] X.env)).all (fun x => !x.1) && (backToKw pos' (keywordEach [] X.env)).all (fun x => x.1.isSome)
      && decide (([e] : List Expr).length + ([] : List Keyword).length + (if ([] : List Keyword).isEmpty then 0 else 1) < 30)) = true := by rfl)
    (hline : (apos.endLine == pos'.line) = true := by rfl) (hs : starEach [e] X.env = (false, eval e X.env) :: starEach [] X.env := by rfl) (hplain : (backTo pos' (starEach [] X.env)).any (·.1) = false := by rfl)
    (hsw : swapsWith (.Call (.Attribute (.Attribute o "rows" p1) "append" apos) [e] [] pos') none pos.line X.env = pure false := by rfl) :
    PSD X W (.Expr (.Call (.Attribute (.Attribute o "rows" p1) "append" apos) [e] [] pos') pos) (sSdApp i fe) := by
  refine psW (ps_expr (pe_bm PySem.F.plainAttrs_list PySem.F.slot_list_append PySem.F.type_list_append mt_append (pe_fld ho hb) (pa_cons ha pa_nil hs) hbase hfew hline hs hplain) hsw) fun D σ H h => ?_
  obtain ⟨B, G, fp, ρ, S, h⟩ := h
  unfold sSdApp at h
  rcases own_cases ρ i with ⟨t, bk, st, cts, rows, e1, e2⟩ | e2
  · rw [e2] at h
    obtain ⟨p, ht, h1, h2, ⟨bk', st', cts', rows', dx, vb, vs, vc, r, xs, q0, q1, q2, q3, q4, q5, q6, q7, q8, q9⟩, h4⟩ := S.ownS e1
    cases q0
    refine ⟨.ref p, h1, p, sdC X.K, dx, _, .ref r, rfl, q1, cl, no, rfl, .inl ⟨rfl, xs, SqL.of q4⟩, ?_⟩
    refine tD_iff.mpr ⟨B, G, fp, ρ, S, h.aft S fun d _ h v H' s dv => ?_⟩
    split at h
    · rename_i hl
      have el := q8.length
      have S' := S.mono s
      have q4' := s.keep _ _ q4 rfl
      have q1' := s.keep _ _ q1 rfl
      refine ⟨r, xs, v, rfl, rfl, q4', lineLt (by omega), ?_⟩
      have evo : Evo (Ow G fp) H' (Ow G fp) (upd H' r (.lst (xs ++ [v]))) := Evo.chg (.inr ⟨i, q2⟩) q4' rfl (ntL _)
      obtain ⟨S2, ev⟩ := S'.chgG (i := i) (o := .lst (xs ++ [v])) (c0 := .st (.sd t) (sdD bk st cts (rows ++ [d]))) (v := .ref p) q2 h4 h1 q4' rfl (ntL _) ⟨p, rfl, h2, ht, bk, st, cts, rows ++ [d], dx, vb, vs, vc, r, xs ++ [v], rfl, by rw [upd_ne (fun z => q3 z.symm)]; exact q1', q2, q3, upd_same, DO.evo evo _ _ (q5.same s), DO.evo evo _ _ (q6.same s), DO.evo evo _ _ (q7.same s), DOs.evo evo _ _ ((q8.same s).append (.cons dv .nil)), by simp; omega⟩
      exact h σ _ fp S2 ((Evo.same s).trans ev)
    · exact h.elim
  · rw [e2] at h; exact h.elim
/-- o.counts = e -/
def sSdCnt (i : Nat) (f : Ro → R PyData) : Ro → Fl := fun ρ => ownS ρ i .no fun t bk st _ rows => Fl.of ρ (f ρ) fun d => .nx (ρ.set i (sCel t (sdD bk st d rows)))
theorem putF_counts (vb vs vc y : V) (r : V) : putF "counts" y [("book", vb), ("strict", vs), ("counts", vc), ("rows", r)] = ([("book", vb), ("strict", vs), ("counts", y), ("rows", r)] : List (Str × V)) := by
  unfold putF; rw [if_neg (by decide)]; unfold putF; rw [if_neg (by decide)]; unfold putF; rw [if_pos rfl]
theorem putF_rows (vb vs vc y : V) (r : V) : putF "rows" y [("book", vb), ("strict", vs), ("counts", vc), ("rows", r)] = ([("book", vb), ("strict", vs), ("counts", vc), ("rows", y)] : List (Str × V)) := by
  unfold putF; rw [if_neg (by decide)]; unfold putF; rw [if_neg (by decide)]; unfold putF; rw [if_neg (by decide)]; unfold putF; rw [if_pos rfl]
theorem psd_sdCnt (cl : Cls X.K (sdC X.K)) (no : NoAttr X.K (sdC X.K) "counts") (ho : PE X o (tVar i)) (ha : PD X W e fe) (hs : swapsWith e (some (.Attribute o "counts" pos')) pos.line X.env = pure false := by rfl) : PSD X W (.Assign [.Attribute o "counts" pos'] e pos) (sSdCnt i fe) := by
  refine psW (ps_fld ho ha hs) fun D σ H h => ?_
  obtain ⟨B, G, fp, ρ, S, h⟩ := h
  unfold sSdCnt at h
  rcases own_cases ρ i with ⟨t, bk, st, cts, rows, e1, e2⟩ | e2
  · rw [e2] at h
    obtain ⟨p, ht, h1, h2, ⟨bk', st', cts', rows', dx, vb, vs, vc, r, xs, q0, q1, q2, q3, q4, q5, q6, q7, q8, q9⟩, h4⟩ := S.ownS e1
    cases q0
    refine tD_iff.mpr ⟨B, G, fp, ρ, S, h.aft S fun d _ h v H' s dv => ?_⟩
    have S' := S.mono s
    have q1' := s.keep _ _ q1 rfl
    have q4' := s.keep _ _ q4 rfl
    refine ⟨.ref p, h1, p, sdC X.K, dx, _, rfl, q1', cl, no, (by show 4 < 1000; decide), ?_⟩
    rw [putF_counts]
    have evo : Evo (Ow G fp) H' (Ow G fp) (upd H' p (.ins (sdC X.K) dx [("book", vb), ("strict", vs), ("counts", v), ("rows", .ref r)])) := Evo.chg (.inr ⟨i, h2⟩) q1' rfl (ntI _ _ _)
    obtain ⟨S2, ev⟩ := S'.chgG (i := i) (o := .ins (sdC X.K) dx [("book", vb), ("strict", vs), ("counts", v), ("rows", .ref r)]) (c0 := .st (.sd t) (sdD bk st d rows)) (v := .ref p) h2 h4 h1 q1' rfl (ntI _ _ _) ⟨p, rfl, h2, ht, bk, st, d, rows, dx, vb, vs, v, r, xs, rfl, upd_same, q2, q3, by rw [upd_ne q3]; exact q4', DO.evo evo _ _ (q5.same s), DO.evo evo _ _ (q6.same s), DO.evo evo _ _ dv, DOs.evo evo _ _ (q8.same s), q9⟩
    exact h σ _ fp S2 ((Evo.same s).trans ev)
  · rw [e2] at h; exact h.elim
/-- o.rows = [] -/
def sSdNew (i : Nat) : Ro → Fl := fun ρ => ownS ρ i .no fun t bk st cts _ => .nx (ρ.set i (sCel t (sdD bk st cts [])))
theorem psd_sdNew (cl : Cls X.K (sdC X.K)) (no : NoAttr X.K (sdC X.K) "rows") (ho : PE X o (tVar i)) (hs : swapsWith (.List [] pos2) (some (.Attribute o "rows" pos')) pos.line X.env = pure false := by rfl) : PSD X W (.Assign [.Attribute o "rows" pos'] (.List [] pos2) pos) (sSdNew i) := by
  refine psW (ps_fld ho (pe_lst pa_nil) hs) fun D σ H h => ?_
  obtain ⟨B, G, fp, ρ, S, h⟩ := h
  unfold sSdNew at h
  rcases own_cases ρ i with ⟨t, bk, st, cts, rows, e1, e2⟩ | e2
  · rw [e2] at h
    obtain ⟨p, ht, h1, h2, ⟨bk', st', cts', rows', dx, vb, vs, vc, r, xs, q0, q1, q2, q3, q4, q5, q6, q7, q8, q9⟩, h4⟩ := S.ownS e1
    cases q0
    refine ⟨by rw [sizeLine_eq]; show 0 ≤ _; omega, fun q hq => ?_⟩
    have hqp : q ≠ p := fun z => by rw [z, q1] at hq; cases hq
    have sm : Same H (upd H q (.lst [])) := same_new hq
    have q1' : upd H q (.lst []) p = some (.ins (sdC X.K) dx [("book", vb), ("strict", vs), ("counts", vc), ("rows", .ref r)]) := by rw [upd_ne (Ne.symm hqp)]; exact q1
    refine ⟨.ref p, h1, p, sdC X.K, dx, _, rfl, q1', cl, no, (by show 4 < 1000; decide), ?_⟩
    rw [putF_rows]
    -- the new list is the slot's too
    have nofp : ∀ j, q ∉ fp j := fun j hj => by obtain ⟨o', e⟩ := S.fpH j q hj; rw [hq] at e; cases e
    have sub : ∀ a, Ow G (fpSet fp i (q :: fp i)) a → Ow G fp a ∨ a = q := fun a ha => by
      rcases ha with ha | ⟨j, ha⟩
      · exact .inl (.inl ha)
      · unfold fpSet at ha
        split at ha
        · rcases List.mem_cons.mp ha with z | z
          · exact .inr z
          · exact .inl (.inr ⟨i, z⟩)
        · exact .inl (.inr ⟨j, ha⟩)
    have ev1 : Evo (Ow G fp) H (Ow G (fpSet fp i (q :: fp i))) (upd H q (.lst [])) := ⟨fun a ha => (sub a ha).elim .inl fun z => by subst z; exact .inr hq, fun b u hb _ ne => sm.keep b u hb ne, sm.dom, sm.memo, fun a xs h => sm.keep _ _ h rfl⟩
    have S1 : SR X.K B G (fpSet fp i (q :: fp i)) σ (upd H q (.lst [])) (ρ.set i none) := by
      refine ⟨by rw [List.length_set]; exact S.len, S.same.trans sm, fun a ha => let ⟨o, e⟩ := S.gt a ha; sm.dom _ _ e, fun j a ha => ?_, fun j a ha => ?_, fun j a ha => ?_, fun j k a ha hb => ?_, fun j c e => ?_⟩
      · unfold fpSet at ha; split at ha
        · rcases List.mem_cons.mp ha with z | z
          · subst z; exact S.same.free hq
          · exact S.fpB i a z
        · exact S.fpB j a ha
      · unfold fpSet at ha; split at ha
        · rcases List.mem_cons.mp ha with z | z
          · subst z; intro g; obtain ⟨o', e⟩ := S.gt a g; rw [hq] at e; cases e
          · exact S.fpG i a z
        · exact S.fpG j a ha
      · unfold fpSet at ha; split at ha
        · rcases List.mem_cons.mp ha with z | z
          · subst z; exact ⟨_, upd_same⟩
          · obtain ⟨o', e⟩ := S.fpH i a z; exact sm.dom _ _ e
        · obtain ⟨o', e⟩ := S.fpH j a ha; exact sm.dom _ _ e
      · have pick : ∀ j, a ∈ fpSet fp i (q :: fp i) j → (a = q ∧ j = i) ∨ a ∈ fp j := fun j hj => by
          unfold fpSet at hj; split at hj
          · rename_i z; subst z
            exact (List.mem_cons.mp hj).elim (fun z => .inl ⟨z, rfl⟩) .inr
          · exact .inr hj
        rcases pick j ha with ⟨z1, z2⟩ | z1 <;> rcases pick k hb with ⟨y1, y2⟩ | y1
        · rw [z2, y2]
        · subst z1; exact (nofp k y1).elim
        · subst y1; exact (nofp j z1).elim
        · exact S.dis j k a z1 y1
      · by_cases hj : i = j
        · subst hj
          rw [List.getElem?_set_self h4] at e
          cases e
        · rw [List.getElem?_set_ne hj] at e
          obtain ⟨w, g1, g2⟩ := S.slot j c e
          refine ⟨w, g1, ?_⟩
          have e0 : fpSet fp i (q :: fp i) j = fp j := by unfold fpSet; rw [if_neg (Ne.symm hj)]
          rw [e0]
          exact CelR.evo ev1 (fun b _ u ne z => sm.keep _ _ z ne) g2
    have ei : fpSet fp i (q :: fp i) i = q :: fp i := by unfold fpSet; rw [if_pos rfl]
    have hpi : p ∈ fpSet fp i (q :: fp i) i := by rw [ei]; simp [h2]
    have evo : Evo (Ow G (fpSet fp i (q :: fp i))) (upd H q (.lst [])) (Ow G (fpSet fp i (q :: fp i))) (upd (upd H q (.lst [])) p (.ins (sdC X.K) dx [("book", vb), ("strict", vs), ("counts", vc), ("rows", .ref q)])) := Evo.chg (.inr ⟨i, hpi⟩) q1' rfl (ntI _ _ _)
    have e12 := ev1.trans evo
    obtain ⟨S2, ev⟩ := S1.chgG (i := i) (o := .ins (sdC X.K) dx [("book", vb), ("strict", vs), ("counts", vc), ("rows", .ref q)]) (c0 := .st (.sd t) (sdD bk st cts [])) (v := .ref p) hpi (by rw [List.length_set]; exact h4) h1 q1' rfl (ntI _ _ _) ⟨p, rfl, hpi, ht, bk, st, cts, [], dx, vb, vs, vc, q, [], rfl, upd_same, by rw [ei]; simp, hqp, by rw [upd_ne hqp]; exact upd_same, DO.evo e12 _ _ q5, DO.evo e12 _ _ q6, DO.evo e12 _ _ q7, .nil, by show 0 ≤ 1000000; decide⟩
    rw [List.set_set] at S2
    exact h σ _ _ S2 (ev1.trans ev)
  · rw [e2] at h; exact h.elim
end
end Pu

namespace L2
open PySem PySem.Spec PyProof.Rows
/-! ### a method called, its exceptions told by the slots -/
def tMethP (C : Addr) (m : Str) (sp : Sp) (E : St → XK) (ta : TE) (t : TA) : TE := fun σ H Q => ta σ H fun x H1 => ∃ a dx fs, x = .ref a ∧ H1 a = some (.ins C dx fs) ∧ fs.lookup m = none ∧ t σ H1 fun vs H2 => sp (x :: vs) H2 Q (E σ)
section
variable {X : Cx} {CX : CXT} {k : Nat} {f C : Addr} {fd : FuncData} {ps : List Str} {sp : Sp} {E : St → XK} {m : Str} {pos apos : Pos} {e o : Expr} {es : List Expr} {ta : TE} {t : TA}
theorem Pu_methS {pl : Sem Bool} (ho : PE X o ta) (cl : Cls X.K C) (mt : Meth X.K C m f) (FO : FnOk X.prog X.w X.K X.mg X.base CX k f fd ps sp) (hr : Room k X.A) (bd : Binds X.K fd ps []) (px : ∀ σ, PassesAt CX X σ (E σ)) (ha : PA X (e :: es) t)
    (hst : starEach (e :: es) X.env = (false, eval e X.env) :: starEach es X.env := by rfl) (hpl : (backTo pos (starEach es X.env)).any (·.1) = false := by rfl)
    (ht : eval (.Call (.Attribute o m apos) (e :: es) [] pos) X.env = (do
      let ov ← eval o X.env
      standAt apos.atName
      let (f, first) ← holding [ov] (getMethod ov m pl)
      callWith pos f first (backTo pos (starEach (e :: es) X.env)) (backToKw pos (keywordEach [] X.env))) := by rfl) :
    PE X (.Call (.Attribute o m apos) (e :: es) [] pos) (tMethP C m sp E ta t) := by
  constructor
  intro pins s σ H Q I h
  refine PySem.W.methodCall_KW (pl := pl) (thn (ho.run pins s σ H _ I h) fun u s1 h1 => ?_) ht
  obtain ⟨x, H1, I1, rx, a, dx, fs, rfl, ea, lk, q⟩ := h1
  obtain rfl : u = Value.ref a := rx
  refine getmeth_ok I1 ea cl mt lk (PySem.W.callWith_K (first := [.ref a]) (h₀ := X.base) I.ok.mod.kin mt.kp (thn (ha.run pos pins s1 σ H1 _ I1 q) fun us s2 h2 => ?_) hst hpl)
  obtain ⟨vs, H2, I2, r, q2⟩ := h2
  exact ⟨I2.kIn, run_fnS (us := .ref a :: us) (vs := .ref a :: vs) FO hr bd (px σ) I2 (.cons rfl r) q2⟩
theorem Pu_methS0 {pl : Sem Bool} (ho : PE X o ta) (cl : Cls X.K C) (mt : Meth X.K C m f) (FO : FnOk X.prog X.w X.K X.mg X.base CX k f fd ps sp) (hr : Room k X.A) (bd : Binds X.K fd ps []) (px : ∀ σ, PassesAt CX X σ (E σ))
    (ht : eval (.Call (.Attribute o m apos) [] [] pos) X.env = (do
      let ov ← eval o X.env
      standAt apos.atName
      let (f, first) ← holding [ov] (getMethod ov m pl)
      callWith pos f first (backTo pos (starEach [] X.env)) (backToKw pos (keywordEach [] X.env))) := by rfl) :
    PE X (.Call (.Attribute o m apos) [] [] pos) (tMethP C m sp E ta tNil) := by
  constructor
  intro pins s σ H Q I h
  refine PySem.W.methodCall_KW (pl := pl) (thn (ho.run pins s σ H _ I h) fun u s1 h1 => ?_) ht
  obtain ⟨x, H1, I1, rx, a, dx, fs, rfl, ea, lk, q⟩ := h1
  obtain rfl : u = Value.ref a := rx
  exact getmeth_ok I1 ea cl mt lk (PySem.W.callWith_K0 (first := [.ref a]) I1.kIn mt.kp (run_fnS (us := [.ref a]) (vs := [.ref a]) FO hr bd (px σ) I1 (.cons rfl .nil) q))
end
end L2
namespace Pu
open PySem PySem.Spec PyProof.Rows L2
variable [MemoSpec]
/-! ### defs that take a stand-in -/
def offH (H : Hp) (as : List Addr) : Hp := fun b => if b ∈ as then none else H b
theorem offH_some {H : Hp} {as : List Addr} {b : Addr} {u : HO} : offH H as b = some u ↔ b ∉ as ∧ H b = some u := by
  unfold offH
  by_cases h : b ∈ as
  · rw [if_pos h]; exact ⟨(fun z => nomatch z), fun z => (z.1 h).elim⟩
  · rw [if_neg h]; exact ⟨fun z => ⟨h, z⟩, fun z => z.2⟩
theorem offH_none {H : Hp} {as : List Addr} {b : Addr} (h : offH H as b = none) : b ∈ as ∨ H b = none := by
  unfold offH at h
  by_cases z : b ∈ as
  · exact .inl z
  · rw [if_neg z] at h; exact .inr h
theorem offH_same (H : Hp) (as : List Addr) : Same (offH H as) H := by
  refine ⟨fun b u h _ => (offH_some.mp h).2, fun b u h => ⟨u, (offH_some.mp h).2⟩, fun K a bk cs m => m.keep (fun b xs r => ?_) ?_⟩
  · rcases r with r | ⟨o, r⟩
    · exact .inl (offH_some.mp r).2
    · exact .inr ⟨o, (offH_some.mp r).2⟩
  · obtain ⟨_, xs, h1, _⟩ := m
    rw [h1]
    exact (offH_some.mp h1).2
/-- the addresses that are off limits: the foreign ones, and the stand-in's -/
def GA (G : Addr → Prop) (as : List Addr) : Addr → Prop := fun a => G a ∨ a ∈ as
structure SdIn (K : PySem.W.Frag) (G : Addr → Prop) (as : List Addr) (H : Hp) (p : Addr) (s : PyData) : Prop where
  gt : ∀ a, G a → ∃ o, H a = some o
  own : ∀ a ∈ as, ¬ G a ∧ ∃ o, H a = some o
  mem : p ∈ as
  at_ : SdR K (GA G as) H as p s
def fp0 (as : List Addr) : Nat → List Addr := fun i => if i = 0 then as else []
theorem ow_fp0 {G : Addr → Prop} {as : List Addr} (a : Addr) : Ow G (fp0 as) a ↔ GA G as a := by
  unfold Ow GA fp0
  constructor
  · rintro (h | ⟨i, h⟩)
    · exact .inl h
    · by_cases z : i = 0
      · rw [if_pos z] at h; exact .inr h
      · rw [if_neg z] at h; simp at h
  · rintro (h | h)
    · exact .inl h
    · exact .inr ⟨0, by rw [if_pos rfl]; exact h⟩
def startS (n : Nat) (p : Addr) (s : PyData) (ds : List PyData) : Ro := sCel (some p) s :: startR (n - 1) ds
theorem SR.startS {K : PySem.W.Frag} {G : Addr → Prop} {as : List Addr} {H : Hp} {N : List Str} {p : Addr} {s : PyData} {ws : List V} {ds : List PyData} (hN : 0 < N.length) (h : SdIn K G as H p s) (hd : DOs K (GA G as) H ws ds) : SR K (offH H as) G (fp0 as) (L2.start N (.ref p :: ws)) H (startS N.length p s ds) := by
  have hl := hd.length
  refine ⟨by simp [L2.start, Pu.startS, startR, hl]; omega, offH_same H as, h.gt, fun i a ha => ?_, fun i a ha => ?_, fun i a ha => ?_, fun i j a ha hb => ?_, fun i c e => ?_⟩
  · unfold fp0 at ha
    split at ha
    · unfold offH; rw [if_pos ha]
    · simp at ha
  · unfold fp0 at ha
    split at ha
    · exact (h.own a ha).1
    · simp at ha
  · unfold fp0 at ha
    split at ha
    · exact (h.own a ha).2
    · simp at ha
  · unfold fp0 at ha hb
    split at ha
    · split at hb
      · simp_all
      · simp at hb
    · simp at ha
  · cases i with
    | zero =>
      cases e
      exact ⟨.ref p, rfl, p, rfl, h.mem, fun q z => Option.some.inj z, h.at_.less (fun a ha => (ow_fp0 a).mp ha) h.mem⟩
    | succ i =>
      have e' : (startR (N.length - 1) ds)[i]? = some (some c) := by simpa [Pu.startS] using e
      unfold startR at e'
      have hi : i < ds.length := by
        by_cases hi : i < ds.length
        · exact hi
        · rw [List.getElem?_append_right (by simpa using hi), List.getElem?_replicate] at e'
          split at e' <;> cases e'
      rw [List.getElem?_append_left (by simpa using hi), List.getElem?_map] at e'
      obtain ⟨d, e1, e2⟩ := Option.map_eq_some_iff.mp e'
      cases e2
      obtain ⟨v, h1, h2⟩ := hd.get e1
      refine ⟨v, ?_, h2.less fun a ha => (ow_fp0 a).mp ha⟩
      unfold L2.start
      rw [List.map_cons, List.cons_append, List.getElem?_cons_succ, List.getElem?_append_left (by rw [List.length_map, hl]; exact hi), List.getElem?_map, h1]
      rfl
/-! reading -/
def spR (K : PySem.W.Frag) (mg : Str → Option Value) (n : Nat) (F : PyData → List PyData → R PyData) : Sp := fun vs H Q E => vs.length = n ∧ ∃ G as p s ws ds, vs = .ref p :: ws ∧ SdIn K G as H p s ∧ DOs K (GA G as) H ws ds ∧ match F s ds with
  | .ok d => ∀ v H', Same H H' → DO K (GA G as) H' v d → Q v H'
  | .ex x => ∀ cls dd H', Same H H' → XR K mg (GA G as) H' x cls dd → E cls dd H'
  | .no => False
structure FnR (P : Program) (w : World) (K : PySem.W.Frag) (mg : Str → Option Value) (base : Heap) (k : Nat) (m : Str) (n : Nat) (F : PyData → List PyData → R PyData) : Prop where
  ex : ∃ f fd ps, Meth K (sdC K) m f ∧ Binds K fd ps [] ∧ FnOk P w K mg base (L2N.CX P w) k f fd ps (spR K mg n F)
theorem FnR.mono {P : Program} {w : World} {K : PySem.W.Frag} {mg : Str → Option Value} {base : Heap} {k k' : Nat} {m : Str} {n : Nat} {F : PyData → List PyData → R PyData} (h : FnR P w K mg base k m n F) (l : k ≤ k') : FnR P w K mg base k' m n F := by
  obtain ⟨f, fd, ps, h1, h2, h3⟩ := h.ex
  exact ⟨f, fd, ps, h1, h2, h3.mono l⟩
section
variable {P : Program} {w : World} {K : PySem.W.Frag} {mg : Str → Option Value} {base : Heap}
theorem fn_readS {m q : Str} {st : Stmt} {f : Addr} {fd : FuncData} {N ps : List Str} {k : Nat} {fe : Ro → R PyData} {FF : PyData → List PyData → R PyData} (F : FnPM K m q st f fd) (S : FnScope N ps (defScope st)) (hN : 0 < N.length) (hm : Meth K (sdC K) m f) (hb : Binds K fd ps []) (hFF : ∀ p s ds, FF s ds ≠ .no → fe (startS N.length p s ds) = FF s ds)
    (body : ∀ (cdv : Value) (A : Around) (outer : List Env) (s : Shared) (H : Hp) (E : XK), Bd (cxOf (L2N.CX P w) P w K mg base N q (defScope st) f cdv A outer s H E) (fun cls d _ H => E cls d H) k →
      PSs (cxOf (L2N.CX P w) P w K mg base N q (defScope st) f cdv A outer s H E) (defBody st) (tRet (tD K mg (fun cls d _ H => E cls d H) fe))) : FnR P w K mg base (k + 1) m ps.length FF := by
  refine ⟨f, fd, ps, hm, hb, F.ok S (fun vs H Q E h => h.1) fun cdv A outer s H vs Q E hr h => ?_⟩
  obtain ⟨hl, G, as, p, s0, ws, ds, rfl, hi, hd, hF⟩ := h
  refine ⟨_, body cdv A outer s H E ⟨hr, L2N.takes_of rfl rfl rfl rfl, passes_of rfl⟩, ?_⟩
  refine tD_iff.mpr ⟨offH H as, G, fp0 as, startS N.length p s0 ds, SR.startS hN hi hd, ?_⟩
  have hn : FF s0 ds ≠ .no := fun z => by rw [z] at hF; exact hF
  rw [← hFF p s0 ds hn] at hF
  cases e : fe (startS N.length p s0 ds) with
  | ok d => rw [e] at hF; exact fun v H' s' dv => hF v H' s' (dv.less fun a ha => (ow_fp0 a).mpr ha)
  | ex x => rw [e] at hF; exact fun cls dd H' s' xr => hF cls dd H' s' (xr.less fun a ha => (ow_fp0 a).mpr ha)
  | no => rw [e] at hF; exact hF.elim
end
/-- o.m(), o in the slot i -/
def dMethR (F : PyData → List PyData → R PyData) (i : Nat) : Ro → R PyData := fun ρ => ownS ρ i .no fun _ bk st cts rows => okO (F (sdD bk st cts rows) [])
/-- the rest of what is owned -/
def offO (G : Addr → Prop) (fp : Nat → List Addr) (i : Nat) : Addr → Prop := fun a => Ow G fp a ∧ a ∉ fp i
theorem ga_off {G : Addr → Prop} {fp : Nat → List Addr} {i : Nat} (a : Addr) : GA (offO G fp i) (fp i) a ↔ Ow G fp a := by
  unfold GA offO
  constructor
  · rintro (h | h)
    · exact h.1
    · exact .inr ⟨i, h⟩
  · intro h
    by_cases z : a ∈ fp i
    · exact .inr z
    · exact .inl ⟨h, z⟩
theorem SR.sdIn {K : PySem.W.Frag} {B : Hp} {G : Addr → Prop} {fp : Nat → List Addr} {σ : St} {H : Hp} {ρ : Ro} {i : Nat} {t : Option Addr} {s : PyData} (S : SR K B G fp σ H ρ) (h : ρ[i]? = some (sCel t s)) : ∃ p, σ[i]? = some (some (.ref p)) ∧ (∀ q, t = some q → p = q) ∧ SdIn K (offO G fp i) (fp i) H p s := by
  obtain ⟨p, ht, h1, h2, h3, h4⟩ := S.ownS h
  refine ⟨p, h1, ht, ?_⟩
  exact ⟨fun a ha => S.trk a ha.1, fun a ha => ⟨fun z => z.2 ha, S.fpH i a ha⟩, h2, h3.less (fun a ha => (ga_off a).mp ha) h2⟩
theorem SdR.ins {K : PySem.W.Frag} {O : Addr → Prop} {H : Hp} {as : List Addr} {p : Addr} {d : PyData} (h : SdR K O H as p d) : ∃ dx vb vs vc r, H p = some (.ins (sdC K) dx [("book", vb), ("strict", vs), ("counts", vc), ("rows", r)]) := by
  obtain ⟨_, _, _, _, dx, vb, vs, vc, r, _, _, h, _⟩ := h
  exact ⟨dx, vb, vs, vc, _, h⟩
theorem lookup4 {m : Str} (hm : ([("book", V.non), ("strict", V.non), ("counts", V.non), ("rows", V.non)] : List (Str × V)).lookup m = none) (a b c d : V) : ([("book", a), ("strict", b), ("counts", c), ("rows", d)] : List (Str × V)).lookup m = none := by
  simp only [List.lookup] at hm ⊢
  repeat' split at hm
  all_goals first | (cases hm; rfl) | (cases hm; done) | simp_all
section
variable {X : Cx} {W : WX} {o e : Expr} {es : List Expr} {fa : Ro → R (List PyData)} {n k i : Nat} {m : Str} {apos pos p : Pos}
theorem pd_methR {pl : Sem Bool} {F : PyData → List PyData → R PyData} (FM : FnR X.prog X.w X.K X.mg X.base k m 1 F) (cl : Cls X.K (sdC X.K)) (hr : Room k X.A) (ho : PE X o (tVar i)) (hm : ([("book", V.non), ("strict", V.non), ("counts", V.non), ("rows", V.non)] : List (Str × V)).lookup m = none := by decide)
    (ht : eval (.Call (.Attribute o m apos) [] [] pos) X.env = (do
      let ov ← eval o X.env
      standAt apos.atName
      let (f, first) ← holding [ov] (getMethod ov m pl)
      callWith pos f first (backTo pos (starEach [] X.env)) (backToKw pos (keywordEach [] X.env))) := by rfl) :
    PD X W (.Call (.Attribute o m apos) [] [] pos) (dMethR F i) := by
  obtain ⟨f, fd, ps, h1, h2, h3⟩ := FM.ex
  refine peW (pe_meth0 ho cl h1 h3 hr h2 .nil pass_no ht) fun σ H Q h => ?_
  obtain ⟨B, G, fp, ρ, S, h⟩ := tD_iff.mp h
  unfold dMethR at h
  rcases own_cases ρ i with ⟨t, bk, st, cts, rows, e1, e2⟩ | e2
  · rw [e2] at h
    obtain ⟨p, g1, _, hin⟩ := S.sdIn e1
    obtain ⟨dx, vb, vs, vc, r, hins⟩ := hin.at_.ins
    refine ⟨.ref p, g1, p, dx, _, rfl, hins, ?_, rfl, offO G fp i, fp i, p, _, [], [], rfl, hin, .nil, ?_⟩
    · exact lookup4 hm _ _ _ _
    · cases q : F (sdD bk st cts rows) [] with
      | ok d => rw [q] at h; exact fun v H' s' dv => h v H' s' (dv.less fun a ha => (ga_off a).mpr ha)
      | ex x => rw [q] at h; exact h.elim
      | no => rw [q] at h; exact h.elim
  · rw [e2] at h; exact h.elim
end
/-! changing -/
inductive RS where
  | ok (s d : PyData)
  | ex (x : Xc) (s : PyData)
  | no
structure SdOut (K : PySem.W.Frag) (G : Addr → Prop) (as : List Addr) (H : Hp) (p : Addr) (s' : PyData) (H' : Hp) (as' : List Addr) : Prop where
  mem : p ∈ as'
  own : ∀ a ∈ as', (a ∈ as ∨ H a = none) ∧ ¬ G a ∧ ∃ o, H' a = some o
  same : Same (offH H as) H'
  evo : Evo (GA G as) H (GA G as') H'
  at_ : SdR K (GA G as') H' as' p s'
def spS (K : PySem.W.Frag) (mg : Str → Option Value) (n : Nat) (F : PyData → List PyData → RS) : Sp := fun vs H Q E => vs.length = n ∧ ∃ G as p s ws ds, vs = .ref p :: ws ∧ SdIn K G as H p s ∧ DOs K (GA G as) H ws ds ∧ match F s ds with
  | .ok s' d => ∀ v H' as', SdOut K G as H p s' H' as' → DO K (GA G as') H' v d → Q v H'
  | .ex x s' => ∀ cls dd H' as', SdOut K G as H p s' H' as' → XR K mg (GA G as') H' x cls dd → E cls dd H'
  | .no => False
structure FnS (P : Program) (w : World) (K : PySem.W.Frag) (mg : Str → Option Value) (base : Heap) (k : Nat) (m : Str) (n : Nat) (F : PyData → List PyData → RS) : Prop where
  ex : ∃ f fd ps, Meth K (sdC K) m f ∧ Binds K fd ps [] ∧ FnOk P w K mg base (L2N.CX P w) k f fd ps (spS K mg n F)
structure FnSD (P : Program) (w : World) (K : PySem.W.Frag) (mg : Str → Option Value) (base : Heap) (k : Nat) (x : Str) (n : Nat) (F : PyData → List PyData → RS) : Prop where
  ex : ∃ f fd ps, mg x = some (.ref f) ∧ PySem.W.keepIn K (.ref f) = true ∧ Binds K fd ps [] ∧ FnOk P w K mg base (L2N.CX P w) k f fd ps (spS K mg n F)
theorem FnS.mono {P : Program} {w : World} {K : PySem.W.Frag} {mg : Str → Option Value} {base : Heap} {k k' : Nat} {m : Str} {n : Nat} {F : PyData → List PyData → RS} (h : FnS P w K mg base k m n F) (l : k ≤ k') : FnS P w K mg base k' m n F := by
  obtain ⟨f, fd, ps, h1, h2, h3⟩ := h.ex
  exact ⟨f, fd, ps, h1, h2, h3.mono l⟩
theorem FnSD.mono {P : Program} {w : World} {K : PySem.W.Frag} {mg : Str → Option Value} {base : Heap} {k k' : Nat} {m : Str} {n : Nat} {F : PyData → List PyData → RS} (h : FnSD P w K mg base k m n F) (l : k ≤ k') : FnSD P w K mg base k' m n F := by
  obtain ⟨f, fd, ps, h1, h2, h3, h4⟩ := h.ex
  exact ⟨f, fd, ps, h1, h2, h3, h4.mono l⟩
/-! expressions that change what is owned -/
inductive RX where
  | ok (d : PyData) (ρ : Ro)
  | ex (x : Xc) (ρ : Ro)
  | no
def tDX (K : PySem.W.Frag) (mg : Str → Option Value) (W : WX) (f : Ro → RX) : TE := fun σ H Q => ∃ B G fp ρ, SR K B G fp σ H ρ ∧ match f ρ with
  | .ok d ρ' => ∀ v H' fp', SR K B G fp' σ H' ρ' → Evo (Ow G fp) H (Ow G fp') H' → DO K (Ow G fp') H' v d → Q v H'
  | .ex x ρ' => ∀ cls dd H' fp', SR K B G fp' σ H' ρ' → Evo (Ow G fp) H (Ow G fp') H' → XR K mg (Ow G fp') H' x cls dd → W cls dd σ H'
  | .no => False
abbrev PDX (X : Cx) (W : WX) (e : Expr) (f : Ro → RX) : Prop := PE X e (tDX X.K X.mg W f)
/-- behind a def that has changed the stand-in of a slot -/
theorem SR.outS {K : PySem.W.Frag} {B : Hp} {G : Addr → Prop} {fp : Nat → List Addr} {σ : St} {H H' : Hp} {ρ : Ro} {i : Nat} {t : Option Addr} {p : Addr} {s s' : PyData} {as' : List Addr} (S : SR K B G fp σ H ρ) (h : ρ[i]? = some (sCel t s)) (hp : σ[i]? = some (some (.ref p))) (out : SdOut K (offO G fp i) (fp i) H p s' H' as') :
    SR K B G (fpSet fp i as') σ H' (ρ.set i (sCel t s')) ∧ Evo (Ow G fp) H (Ow G (fpSet fp i as')) H' := by
  obtain ⟨p', ht, h1, h2, h3, h4⟩ := S.ownS h
  rw [hp] at h1
  cases h1
  have sub : ∀ a, Ow G (fpSet fp i as') a ↔ GA (offO G fp i) as' a := fun a => by
    unfold GA offO Ow fpSet
    constructor
    · rintro (z | ⟨j, z⟩)
      · exact .inl ⟨.inl z, fun y => S.fpG i a y z⟩
      · by_cases hj : j = i
        · rw [if_pos hj] at z; exact .inr z
        · rw [if_neg hj] at z; exact .inl ⟨.inr ⟨j, z⟩, fun y => hj (S.dis j i a z y)⟩
    · rintro (⟨z | ⟨j, z⟩, y⟩ | z)
      · exact .inl z
      · by_cases hj : j = i
        · subst hj; exact (y z).elim
        · exact .inr ⟨j, by rw [if_neg hj]; exact z⟩
      · exact .inr ⟨i, by rw [if_pos rfl]; exact z⟩
  have ev : Evo (Ow G fp) H (Ow G (fpSet fp i as')) H' := ⟨fun a ha => by
      rcases out.evo.own a ((sub a).mp ha) with z | z
      · exact .inl ((ga_off a).mp z)
      · exact .inr z, fun b u hb n ne => out.evo.off b u hb (fun z => n ((ga_off b).mp z)) ne, out.evo.dom, out.evo.memo, out.evo.tup⟩
  have keep : ∀ b u, b ∉ fp i → isExt u = false → H b = some u → H' b = some u := fun b u hb ne hu => out.same.keep b u (offH_some.mpr ⟨hb, hu⟩) ne
  refine ⟨⟨by rw [List.length_set]; exact S.len, ⟨fun b u hb ne => ?_, fun b u hb => ?_, fun K' a bk cs mm => out.evo.memo K' a bk cs (S.same.memo K' a bk cs mm)⟩, fun a ha => ?_, fun j a ha => ?_, fun j a ha => ?_, fun j a ha => ?_, fun j l a ha hb => ?_, fun j c e => ?_⟩, ev⟩
  · have hn : b ∉ fp i := fun z => by rw [S.fpB i b z] at hb; cases hb
    exact keep b u hn ne (S.same.keep b u hb ne)
  · obtain ⟨u', e⟩ := S.same.dom b u hb
    exact out.evo.dom b u' e
  · obtain ⟨o, e⟩ := S.gt a ha
    exact out.evo.dom a o e
  · unfold fpSet at ha
    split at ha
    · rcases (out.own a ha).1 with z | z
      · exact S.fpB i a z
      · exact S.same.free z
    · exact S.fpB j a ha
  · unfold fpSet at ha
    split at ha
    · exact fun g => (out.own a ha).2.1 ⟨.inl g, fun y => S.fpG i a y g⟩
    · exact S.fpG j a ha
  · unfold fpSet at ha
    split at ha
    · exact (out.own a ha).2.2
    · obtain ⟨o, e⟩ := S.fpH j a ha
      exact out.evo.dom a o e
  · unfold fpSet at ha hb
    by_cases hj : j = i
    · by_cases hl : l = i
      · rw [hj, hl]
      · rw [if_pos hj] at ha
        rw [if_neg hl] at hb
        exact ((out.own a ha).2.1 ⟨.inr ⟨l, hb⟩, fun y => hl (S.dis l i a hb y)⟩).elim
    · rw [if_neg hj] at ha
      by_cases hl : l = i
      · rw [if_pos hl] at hb
        exact ((out.own a hb).2.1 ⟨.inr ⟨j, ha⟩, fun y => hj (S.dis j i a ha y)⟩).elim
      · rw [if_neg hl] at hb
        exact S.dis j l a ha hb
  · by_cases hj : i = j
    · subst hj
      rw [List.getElem?_set_self h4] at e
      cases e
      have e0 : fpSet fp i as' i = as' := by unfold fpSet; rw [if_pos rfl]
      rw [e0]
      exact ⟨.ref p, hp, p, rfl, out.mem, ht, out.at_.less (fun a ha => (sub a).mp ha) out.mem⟩
    · rw [List.getElem?_set_ne hj] at e
      obtain ⟨w, g1, g2⟩ := S.slot j c e
      refine ⟨w, g1, ?_⟩
      have e0 : fpSet fp i as' j = fp j := by unfold fpSet; rw [if_neg (Ne.symm hj)]
      rw [e0]
      exact CelR.evo ev (fun b hb u ne q => keep b u (fun z => hj (S.dis i j b z hb)) ne q) g2
/-- f(.., ds) of the stand-in of the slot i, behind the arguments -/
def goTo (ρ : Ro) (i : Nat) (t : Option Addr) : RS → RX
  | .ok s' d => .ok d (ρ.set i (sCel t s'))
  | .ex x s' => .ex x (ρ.set i (sCel t s'))
  | .no => .no
def goS (F : PyData → List PyData → RS) (i n : Nat) (ρ : Ro) (ds : List PyData) : RX := ownS ρ i .no fun t bk st cts rows => if ds.length + 1 = n then goTo ρ i t (F (sdD bk st cts rows) ds) else .no
def RX.of {α : Type} (ρ : Ro) (r : R α) (k : α → RX) : RX := match r with
  | .ok a => k a
  | .ex x => .ex x ρ
  | .no => .no
def EndX (K : PySem.W.Frag) (mg : Str → Option Value) (W : WX) (B : Hp) (G : Addr → Prop) (fp : Nat → List Addr) (σ : St) (H : Hp) (Q : VK) : RX → Prop
  | .ok d ρ' => ∀ v H' fp', SR K B G fp' σ H' ρ' → Evo (Ow G fp) H (Ow G fp') H' → DO K (Ow G fp') H' v d → Q v H'
  | .ex x ρ' => ∀ cls dd H' fp', SR K B G fp' σ H' ρ' → Evo (Ow G fp) H (Ow G fp') H' → XR K mg (Ow G fp') H' x cls dd → W cls dd σ H'
  | .no => False
theorem tDX_iff {K : PySem.W.Frag} {mg : Str → Option Value} {W : WX} {f : Ro → RX} {σ : St} {H : Hp} {Q : VK} : tDX K mg W f σ H Q ↔ ∃ B G fp ρ, SR K B G fp σ H ρ ∧ EndX K mg W B G fp σ H Q (f ρ) := by
  unfold tDX
  constructor
  · rintro ⟨B, G, fp, ρ, S, h⟩
    refine ⟨B, G, fp, ρ, S, ?_⟩
    cases e : f ρ <;> rw [e] at h <;> exact h
  · rintro ⟨B, G, fp, ρ, S, h⟩
    refine ⟨B, G, fp, ρ, S, ?_⟩
    cases e : f ρ <;> rw [e] at h <;> exact h
def dMethS (n : Nat) (F : PyData → List PyData → RS) (i : Nat) (fa : Ro → R (List PyData)) : Ro → RX := fun ρ => ownS ρ i .no fun _ _ _ _ _ => RX.of ρ (fa ρ) (goS F i n ρ)
theorem EndX.aft {α : Type} {K : PySem.W.Frag} {mg : Str → Option Value} {W : WX} {B : Hp} {G : Addr → Prop} {fp : Nat → List Addr} {σ : St} {H : Hp} {ρ : Ro} {Q : VK} {r : R α} {k : α → RX} (S : SR K B G fp σ H ρ) {P : α → Prop} (h : EndX K mg W B G fp σ H Q (RX.of ρ r k)) (q : ∀ a, r = .ok a → EndX K mg W B G fp σ H Q (k a) → P a) : Aft K mg W (Ow G fp) σ H P r := by
  cases r with
  | ok a => exact q a rfl h
  | ex x => exact fun cls dd H' s xr => h cls dd H' fp (S.mono s) (Evo.same s) xr
  | no => exact h
theorem goS_run {K : PySem.W.Frag} {mg : Str → Option Value} {W : WX} {B : Hp} {G : Addr → Prop} {fp : Nat → List Addr} {σ : St} {H H2 : Hp} {ρ : Ro} {F : PyData → List PyData → RS} {i n : Nat} {vs : List V} {ds : List PyData} {Q : VK} (S : SR K B G fp σ H ρ) (s2 : Same H H2) (d2 : DOs K (Ow G fp) H2 vs ds)
    (h : EndX K mg W B G fp σ H Q (goS F i n ρ ds)) : ∃ p, σ[i]? = some (some (.ref p)) ∧ (∃ dx vb vs' vc r, H p = some (.ins (sdC K) dx [("book", vb), ("strict", vs'), ("counts", vc), ("rows", r)])) ∧ spS K mg n F (.ref p :: vs) H2 Q (WE W σ) := by
  unfold goS at h
  rcases own_cases ρ i with ⟨t, bk, st, cts, rows, e1, e2⟩ | e2
  · rw [e2] at h
    obtain ⟨p, _, g1, g2, g3, g4⟩ := S.ownS e1
    refine ⟨p, g1, g3.ins, ?_⟩
    have S2 := S.mono s2
    obtain ⟨p', g1', _, hin⟩ := S2.sdIn e1
    rw [g1] at g1'
    cases g1'
    by_cases hl : ds.length + 1 = n
    · rw [if_pos hl] at h
      refine ⟨by rw [List.length_cons, d2.length]; exact hl, offO G fp i, fp i, p, _, vs, ds, rfl, hin, d2.less fun a ha => (ga_off a).mp ha, ?_⟩
      have sub : ∀ {as' : List Addr} (a : Addr), Ow G (fpSet fp i as') a → GA (offO G fp i) as' a := fun {as'} a z => by
        unfold GA offO
        rcases z with z | ⟨j, z⟩
        · exact .inl ⟨.inl z, fun y => S.fpG i a y z⟩
        · unfold fpSet at z
          split at z
          · exact .inr z
          · rename_i hj; exact .inl ⟨.inr ⟨j, z⟩, fun y => hj (S.dis j i a z y)⟩
      cases q : F (sdD bk st cts rows) ds with
      | ok s' d =>
        rw [q] at h
        intro v H' as' out dv
        obtain ⟨S3, ev⟩ := S2.outS e1 g1 out
        exact h v H' _ S3 ((Evo.same s2).trans ev) (dv.less sub)
      | ex x s' =>
        rw [q] at h
        intro cls dd H' as' out xr
        obtain ⟨S3, ev⟩ := S2.outS e1 g1 out
        exact h cls dd H' _ S3 ((Evo.same s2).trans ev) (xr.less sub)
      | no => rw [q] at h; exact h.elim
    · rw [if_neg hl] at h; exact h.elim
  · rw [e2] at h; exact h.elim
section
variable {X : Cx} {W : WX} {o e : Expr} {es : List Expr} {fa : Ro → R (List PyData)} {n k i : Nat} {m x : Str} {apos pos p : Pos} {F : PyData → List PyData → RS}
theorem pdx_meth {pl : Sem Bool} (FM : FnS X.prog X.w X.K X.mg X.base k m n F) (cl : Cls X.K (sdC X.K)) (hr : Room k X.A) (tk : L2N.Takes X W) (ho : PE X o (tVar i)) (ha : PAs X W (e :: es) fa) (hm : ([("book", V.non), ("strict", V.non), ("counts", V.non), ("rows", V.non)] : List (Str × V)).lookup m = none := by decide)
    (hst : starEach (e :: es) X.env = (false, eval e X.env) :: starEach es X.env := by rfl) (hpl : (backTo pos (starEach es X.env)).any (·.1) = false := by rfl)
    (ht : eval (.Call (.Attribute o m apos) (e :: es) [] pos) X.env = (do
      let ov ← eval o X.env
      standAt apos.atName
      let (f, first) ← holding [ov] (getMethod ov m pl)
      callWith pos f first (backTo pos (starEach (e :: es) X.env)) (backToKw pos (keywordEach [] X.env))) := by rfl) :
    PDX X W (.Call (.Attribute o m apos) (e :: es) [] pos) (dMethS n F i fa) := by
  obtain ⟨f, fd, ps, h1, h2, h3⟩ := FM.ex
  refine peW (Pu_methS (E := WE W) ho cl h1 h3 hr h2 (fun σ => L2N.passAt tk σ) ha hst hpl ht) fun σ H Q h => ?_
  obtain ⟨B, G, fp, ρ, S, h⟩ := tDX_iff.mp h
  unfold dMethS at h
  rcases own_cases ρ i with ⟨t, bk, st, cts, rows, e1, e2⟩ | e2
  · rw [e2] at h
    obtain ⟨p, _, g1, g2, g3, g4⟩ := S.ownS e1
    obtain ⟨dx, vb, vs', vc, r, g5⟩ := g3.ins
    refine ⟨.ref p, g1, p, dx, _, rfl, g5, lookup4 hm _ _ _ _, ?_⟩
    refine tAD_iff.mpr ⟨B, G, fp, ρ, S, h.aft S fun ds _ h vs H2 s2 d2 => ?_⟩
    obtain ⟨p', k1, _, k3⟩ := goS_run S s2 d2 h
    rw [g1] at k1
    cases k1
    exact k3
  · rw [e2] at h; exact h.elim
theorem pdx_meth0 {pl : Sem Bool} (FM : FnS X.prog X.w X.K X.mg X.base k m n F) (cl : Cls X.K (sdC X.K)) (hr : Room k X.A) (tk : L2N.Takes X W) (ho : PE X o (tVar i)) (hm : ([("book", V.non), ("strict", V.non), ("counts", V.non), ("rows", V.non)] : List (Str × V)).lookup m = none := by decide)
    (ht : eval (.Call (.Attribute o m apos) [] [] pos) X.env = (do
      let ov ← eval o X.env
      standAt apos.atName
      let (f, first) ← holding [ov] (getMethod ov m pl)
      callWith pos f first (backTo pos (starEach [] X.env)) (backToKw pos (keywordEach [] X.env))) := by rfl) :
    PDX X W (.Call (.Attribute o m apos) [] [] pos) (dMethS n F i dNil) := by
  obtain ⟨f, fd, ps, h1, h2, h3⟩ := FM.ex
  refine peW (Pu_methS0 (E := WE W) ho cl h1 h3 hr h2 (fun σ => L2N.passAt tk σ) ht) fun σ H Q h => ?_
  obtain ⟨B, G, fp, ρ, S, h⟩ := tDX_iff.mp h
  unfold dMethS at h
  rcases own_cases ρ i with ⟨t, bk, st, cts, rows, e1, e2⟩ | e2
  · rw [e2] at h
    obtain ⟨p, _, g1, g2, g3, g4⟩ := S.ownS e1
    obtain ⟨dx, vb, vs', vc, r, g5⟩ := g3.ins
    refine ⟨.ref p, g1, p, dx, _, rfl, g5, lookup4 hm _ _ _ _, ?_⟩
    obtain ⟨p', k1, _, k3⟩ := goS_run (vs := []) (ds := []) S (Same.refl H) .nil h
    rw [g1] at k1
    cases k1
    exact k3
  · rw [e2] at h; exact h.elim
/-- f(x, ..), x the stand-in of the slot i -/
theorem pdx_call {q : Pos} (FM : FnSD X.prog X.w X.K X.mg X.base k x n F) (hr : Room k X.A) (tk : L2N.Takes X W) (hg : Gl X x) (ho : PE X o (tVar i)) (ha : PAs X W es fa)
    (hdb : (x == ("__debug__" : Str)) = false := by decide) (he : starEach (o :: es) X.env = (false, eval o X.env) :: starEach es X.env := by rfl) (hpl : (backTo pos (starEach es X.env)).any (·.1) = false := by rfl) :
    PDX X W (.Call (.Name x q) (o :: es) [] pos) (dMethS n F i fa) := by
  obtain ⟨f, fd, ps, h1, h2, h3, h4⟩ := FM.ex
  refine peW (pe_callS (E := WE W) h4 hr hg h1 h2 h3 (fun σ => L2N.passAt tk σ) (pa_cons ho ha he) hdb he hpl) fun σ H Q h => ?_
  obtain ⟨B, G, fp, ρ, S, h⟩ := tDX_iff.mp h
  unfold dMethS at h
  rcases own_cases ρ i with ⟨t, bk, st, cts, rows, e1, e2⟩ | e2
  · rw [e2] at h
    obtain ⟨p, _, g1, g2, g3, g4⟩ := S.ownS e1
    refine ⟨.ref p, g1, ?_⟩
    refine tAD_iff.mpr ⟨B, G, fp, ρ, S, h.aft S fun ds _ h vs H2 s2 d2 => ?_⟩
    obtain ⟨p', k1, _, k3⟩ := goS_run S s2 d2 h
    rw [g1] at k1
    cases k1
    exact k3
  · rw [e2] at h; exact h.elim
/-! statements -/
def sExprX (f : Ro → RX) : Ro → Fl := fun ρ => match f ρ with
  | .ok _ ρ' => .nx ρ'
  | .ex x ρ' => .ex x ρ'
  | .no => .no
def sAsgX (f : Ro → RX) (i : Nat) : Ro → Fl := fun ρ => match f ρ with
  | .ok d ρ' => .nx (ρ'.set i (some (.fz d)))
  | .ex x ρ' => .ex x ρ'
  | .no => .no
theorem psd_exprX {f : Ro → RX} (he : PDX X W e f) (hs : swapsWith e none pos.line X.env = pure false := by rfl) : PSD X W (.Expr e pos) (sExprX f) := psW (ps_expr he hs) fun D σ H h => by
  obtain ⟨B, G, fp, ρ, S, h⟩ := h
  refine tDX_iff.mpr ⟨B, G, fp, ρ, S, ?_⟩
  unfold sExprX at h
  cases q : f ρ with
  | ok d ρ' => rw [q] at h; exact fun v H' fp' S' ev _ => h σ H' fp' S' ev
  | ex x ρ' => rw [q] at h; exact fun cls dd H' fp' S' ev xr => h cls dd σ H' fp' S' ev xr
  | no => rw [q] at h; exact h
theorem psd_setX {f : Ro → RX} {j : Nat} {y : Str} {pos' : Pos} (hN : X.N.Nodup) (hi : X.N[j]? = some y) (hx : Loc X.env.scope y) (he : PDX X W e f) (hs : swapsWith e (some (.Name y pos')) pos.line X.env = pure false := by rfl) (hf : X.fn y = true ∨ X.env.scope.names.lookup y = some .local := by first | exact .inl rfl | exact .inr rfl | assumption) :
    PSD X W (.Assign [.Name y pos'] e pos) (sAsgX f j) := psW (ps_set hN hi hx he hs hf) fun D σ H h => by
  obtain ⟨B, G, fp, ρ, S, h⟩ := h
  refine tDX_iff.mpr ⟨B, G, fp, ρ, S, ?_⟩
  unfold sAsgX at h
  cases q : f ρ with
  | ok d ρ' => rw [q] at h; exact fun v H' fp' S' ev dv => h _ H' fp' (S'.set j dv) ev
  | ex x ρ' => rw [q] at h; exact fun cls dd H' fp' S' ev xr => h cls dd σ H' fp' S' ev xr
  | no => rw [q] at h; exact h
end
/-! ### bodies at whose end the stand-in is told -/
inductive Fx where
  | nx (ρ : Ro)
  | rt (d : PyData) (ρ : Ro)
  | ex (x : Xc) (ρ : Ro)
  | no
def SEndX (K : PySem.W.Frag) (mg : Str → Option Value) (W : WX) (B : Hp) (G : Addr → Prop) (O : Addr → Prop) (H : Hp) (D : Ends) : Fx → Prop
  | .nx ρ => ∀ σ' H' fp', SR K B G fp' σ' H' ρ → Evo O H (Ow G fp') H' → D.nx σ' H'
  | .rt d ρ => ∀ v σ' H' fp', SR K B G fp' σ' H' ρ → Evo O H (Ow G fp') H' → DO K (Ow G fp') H' v d → D.rt v H'
  | .ex x ρ => ∀ cls dd σ' H' fp', SR K B G fp' σ' H' ρ → Evo O H (Ow G fp') H' → XR K mg (Ow G fp') H' x cls dd → W cls dd σ' H'
  | .no => False
def tSX (K : PySem.W.Frag) (mg : Str → Option Value) (W : WX) (f : Ro → Fx) : TS := fun D σ H => ∃ B G fp ρ, SR K B G fp σ H ρ ∧ SEndX K mg W B G (Ow G fp) H D (f ρ)
abbrev PSX (X : Cx) (W : WX) (st : Stmt) (f : Ro → Fx) : Prop := PS X st (tSX X.K X.mg W f)
abbrev PSXs (X : Cx) (W : WX) (st : List Stmt) (f : Ro → Fx) : Prop := PSs X st (tSX X.K X.mg W f)
theorem SEndX.later {K : PySem.W.Frag} {mg : Str → Option Value} {W : WX} {B : Hp} {G : Addr → Prop} {O O1 : Addr → Prop} {H H1 : Hp} {D : Ends} {r : Fx} (e : Evo O H O1 H1) (h : SEndX K mg W B G O H D r) : SEndX K mg W B G O1 H1 D r := by
  cases r with
  | nx ρ => exact fun σ' H' fp' S' e' => h σ' H' fp' S' (e.trans e')
  | rt d ρ => exact fun v σ' H' fp' S' e' => h v σ' H' fp' S' (e.trans e')
  | ex x ρ => exact fun cls dd σ' H' fp' S' e' => h cls dd σ' H' fp' S' (e.trans e')
  | no => exact h
def xLift (f : Ro → Fl) : Ro → Fx := fun ρ => match f ρ with
  | .nx ρ' => .nx ρ'
  | .ex x ρ' => .ex x ρ'
  | _ => .no
def xSeq (f g : Ro → Fx) : Ro → Fx := fun ρ => match f ρ with
  | .nx ρ' => g ρ'
  | r => r
def xNil : Ro → Fx := fun ρ => .nx ρ
def xOf {α : Type} (ρ : Ro) (r : R α) (k : α → Fx) : Fx := match r with
  | .ok a => k a
  | .ex x => .ex x ρ
  | .no => .no
def xRet (f : Ro → R PyData) : Ro → Fx := fun ρ => xOf ρ (f ρ) fun d => .rt d ρ
def xRetN : Ro → Fx := fun ρ => .rt .none ρ
def xIf (c : Ro → R Bool) (f g : Ro → Fx) : Ro → Fx := fun ρ => xOf ρ (c ρ) fun b => if b then f ρ else g ρ
section
variable {X : Cx} {W : WX} {st : Stmt} {rest a b : List Stmt} {f g : Ro → Fx} {e c : Expr} {fe : Ro → R PyData} {pos : Pos}
theorem psx_of {f : Ro → Fl} (h : PSD X W st f) : PSX X W st (xLift f) := psW h fun D σ H h => by
  obtain ⟨B, G, fp, ρ, S, h⟩ := h
  refine ⟨B, G, fp, ρ, S, ?_⟩
  unfold xLift at h
  cases q : f ρ with
  | nx ρ' => rw [q] at h; exact h
  | ex x ρ' => rw [q] at h; exact h
  | bk ρ' => rw [q] at h; exact h.elim
  | ct ρ' => rw [q] at h; exact h.elim
  | rt d => rw [q] at h; exact h.elim
  | no => rw [q] at h; exact h.elim
theorem psxs_nil : PSXs X W [] xNil := pssW pss_nil fun D σ H ⟨B, G, fp, ρ, S, h⟩ => h σ H fp S (Evo.refl _ _)
theorem psxs_cons (h1 : PSX X W st f) (h2 : PSXs X W rest g) : PSXs X W (st :: rest) (xSeq f g) := by
  refine pssW (pss_cons h1 h2) fun D σ H ⟨B, G, fp, ρ, S, h⟩ => ⟨B, G, fp, ρ, S, ?_⟩
  unfold xSeq at h
  cases q : f ρ with
  | nx ρ' => rw [q] at h; exact fun σ' H' fp' S' ev => ⟨B, G, fp', ρ', S', SEndX.later ev h⟩
  | rt d ρ' => rw [q] at h; exact h
  | ex x ρ' => rw [q] at h; exact h
  | no => rw [q] at h; exact h
theorem psxs_one (h1 : PSX X W st f) : PSXs X W [st] f := by
  refine pssW (pss_one h1) fun D σ H h => h
theorem SEndX.aft {α : Type} {K : PySem.W.Frag} {mg : Str → Option Value} {B : Hp} {G : Addr → Prop} {fp : Nat → List Addr} {σ : St} {H : Hp} {ρ : Ro} {D : Ends} {r : R α} {k : α → Fx} (S : SR K B G fp σ H ρ) {P : α → Prop} (h : SEndX K mg W B G (Ow G fp) H D (xOf ρ r k)) (q : ∀ a, r = .ok a → SEndX K mg W B G (Ow G fp) H D (k a) → P a) : Aft K mg W (Ow G fp) σ H P r := by
  cases r with
  | ok a => exact q a rfl h
  | ex x => exact fun cls dd H' s x => h cls dd σ H' fp (S.mono s) (Evo.same s) x
  | no => exact h
theorem psx_ret (he : PD X W e fe) : PSX X W (.Return (some e) pos) (xRet fe) := psW (ps_ret he) fun D σ H ⟨B, G, fp, ρ, S, h⟩ =>
  tD_iff.mpr ⟨B, G, fp, ρ, S, h.aft S fun d _ h v H' s dv => h v σ H' fp (S.mono s) (Evo.same s) dv⟩
theorem psx_retN : PSX X W (.Return none pos) xRetN := psW ps_retN fun D σ H ⟨B, G, fp, ρ, S, h⟩ => h .non σ H fp S (Evo.refl _ _) .non
theorem psx_if {tc : Ro → R Bool} (hc : PB X W c tc) (ha : PSXs X W a f) (hb : PSXs X W b g) : PSX X W (.If c a b pos) (xIf tc f g) := by
  refine psW (ps_if hc ha hb) fun D σ H ⟨B, G, fp, ρ, S, h⟩ => ?_
  refine tBD_iff.mpr ⟨B, G, fp, ρ, S, h.aft S fun b _ h H' s => ?_⟩
  cases b with
  | true =>
    simp only [if_true] at h
    exact (if_pos rfl).mpr ⟨B, G, fp, ρ, S.mono s, SEndX.later (Evo.same s) h⟩
  | false =>
    simp only [Bool.false_eq_true, if_false] at h
    exact (if_neg Bool.false_ne_true).mpr ⟨B, G, fp, ρ, S.mono s, SEndX.later (Evo.same s) h⟩
end
/-! a def's function -/
def endS (p : Addr) (ρ : Ro) (k : PyData → RS) : RS := match (ρ : List (Option Cel))[0]? with
  | some (some (Cel.st (Kd.sd (some q)) s)) => if q = p then k s else .no
  | _ => .no
def runS (n : Nat) (f : Ro → Fx) (p : Addr) : PyData → List PyData → RS := fun s ds => match f (startS n p s ds) with
  | .rt d ρ => endS p ρ fun s' => .ok s' d
  | .nx ρ => endS p ρ fun s' => .ok s' .none
  | .ex x ρ => endS p ρ fun s' => .ex x s'
  | .no => .no
theorem endS_inv {p : Addr} {ρ : Ro} {k : PyData → RS} (h : endS p ρ k ≠ .no) : ∃ s, ρ[0]? = some (sCel (some p) s) ∧ endS p ρ k = k s := by
  unfold endS at h ⊢
  split at h
  · rename_i q s e
    by_cases z : q = p
    · subst z
      exact ⟨s, e, if_pos rfl⟩
    · rw [if_neg z] at h; exact (h rfl).elim
  · exact (h rfl).elim
theorem out_of {K : PySem.W.Frag} {G : Addr → Prop} {as : List Addr} {H H' : Hp} {p : Addr} {s' : PyData} {σ' : St} {fp' : Nat → List Addr} {ρ' : Ro} (S : SR K (offH H as) G fp' σ' H' ρ') (ev : Evo (Ow G (fp0 as)) H (Ow G fp') H') (h : ρ'[0]? = some (sCel (some p) s')) : SdOut K G as H p s' H' (fp' 0) ∧ ∀ a, GA G (fp' 0) a → Ow G fp' a := by
  obtain ⟨p', ht, h1, h2, h3, h4⟩ := S.ownS h
  have := ht p rfl
  subst this
  have sub : ∀ a, GA G (fp' 0) a → Ow G fp' a := fun a z => z.elim .inl fun z => .inr ⟨0, z⟩
  refine ⟨⟨h2, fun a ha => ⟨offH_none (S.fpB 0 a ha), S.fpG 0 a ha, S.fpH 0 a ha⟩, S.same, ⟨fun a ha => ?_, fun b u hb n ne => ev.off b u hb (fun z => n ((ow_fp0 b).mp z)) ne, ev.dom, ev.memo, ev.tup⟩, h3.less sub h2⟩, sub⟩
  rcases ev.own a (sub a ha) with z | z
  · exact .inl ((ow_fp0 a).mp z)
  · exact .inr z
theorem fn_stX {P : Program} {w : World} {K : PySem.W.Frag} {mg : Str → Option Value} {base : Heap} {m q : Str} {st : Stmt} {f : Addr} {fd : FuncData} {N ps : List Str} {k : Nat} {fb : Ro → Fx} {FF : PyData → List PyData → RS} (F : FnPM K m q st f fd) (S : FnScope N ps (defScope st)) (hN : 0 < N.length) (hFF : ∀ p s ds, FF s ds ≠ .no → runS N.length fb p s ds = FF s ds)
    (body : ∀ (cdv : Value) (A : Around) (outer : List Env) (s : Shared) (H : Hp) (E : XK), Bd (cxOf (L2N.CX P w) P w K mg base N q (defScope st) f cdv A outer s H E) (fun cls d _ H => E cls d H) k →
      PSXs (cxOf (L2N.CX P w) P w K mg base N q (defScope st) f cdv A outer s H E) (fun cls d _ H => E cls d H) (defBody st) fb) : FnOk P w K mg base (L2N.CX P w) (k + 1) f fd ps (spS K mg ps.length FF) := by
  refine F.ok S (fun vs H Q E h => h.1) fun cdv A outer s H vs Q E hr h => ?_
  obtain ⟨hl, G, as, p, s0, ws, ds, rfl, hi, hd, hF⟩ := h
  refine ⟨_, body cdv A outer s H E ⟨hr, L2N.takes_of rfl rfl rfl rfl, passes_of rfl⟩, offH H as, G, fp0 as, startS N.length p s0 ds, SR.startS hN hi hd, ?_⟩
  have hn : FF s0 ds ≠ .no := fun z => by rw [z] at hF; exact hF
  rw [← hFF p s0 ds hn] at hF
  unfold runS at hF
  cases e : fb (startS N.length p s0 ds) with
  | nx ρ =>
    rw [e] at hF
    intro σ' H' fp' S' ev
    by_cases z : endS p ρ (fun s' => .ok s' .none) = .no
    · simp only [z] at hF
    · obtain ⟨s', e1, e2⟩ := endS_inv z
      simp only [e2] at hF
      obtain ⟨out, sub⟩ := out_of S' ev e1
      exact hF .non H' _ out .non
  | rt d ρ =>
    rw [e] at hF
    intro v σ' H' fp' S' ev dv
    by_cases z : endS p ρ (fun s' => .ok s' d) = .no
    · simp only [z] at hF
    · obtain ⟨s', e1, e2⟩ := endS_inv z
      simp only [e2] at hF
      obtain ⟨out, sub⟩ := out_of S' ev e1
      exact hF v H' _ out (dv.less sub)
  | ex x ρ =>
    rw [e] at hF
    intro cls dd σ' H' fp' S' ev xr
    by_cases z : endS p ρ (fun s' => .ex x s') = .no
    · simp only [z] at hF
    · obtain ⟨s', e1, e2⟩ := endS_inv z
      simp only [e2] at hF
      obtain ⟨out, sub⟩ := out_of S' ev e1
      exact hF cls dd H' _ out (xr.less sub)
  | no => rw [e] at hF; exact hF.elim
end Pu

namespace Pu
open PySem PySem.Spec PyProof.Rows L2
variable [MemoSpec]
/-! ### a stand-in is made -/
def czD (bk : PyData) : Option PyData := (lenD [bk]).bind (tmulA (.tuple [.int 0]))
def spIS (K : PySem.W.Frag) (Fn : List PyData → R PyData) : Sp := fun vs H Q _ => ∃ (x dx : Addr) (vb vs' : V) (G : Addr → Prop) (bk st c : PyData), vs = [.ref x, vb, vs'] ∧ H x = some (.ins (sdC K) dx []) ∧ (∀ a, G a → ∃ o, H a = some o) ∧ DO K (GA G [x]) H vb bk ∧ DO K (GA G [x]) H vs' st ∧ (∃ z, Fn [bk] = .ok z) ∧ czD bk = some c ∧
  ∀ H' r, Same (offH H [x]) H' → H r = none → r ≠ x → SdR K (GA G [x, r]) H' [x, r] x (sdD bk st c []) → Q .non H'
structure FnIS (P : Program) (w : World) (K : PySem.W.Frag) (mg : Str → Option Value) (base : Heap) (k : Nat) (Fn : List PyData → R PyData) : Prop where
  ex : ∃ fd ps, Binds K fd ps [] ∧ FnOk P w K mg base (L2N.CX P w) k (He.ma K (sdC K) "__init__") fd ps (spIS K Fn)
theorem FnIS.mono {P : Program} {w : World} {K : PySem.W.Frag} {mg : Str → Option Value} {base : Heap} {k k' : Nat} {Fn : List PyData → R PyData} (h : FnIS P w K mg base k Fn) (l : k ≤ k') : FnIS P w K mg base k' Fn := by
  obtain ⟨fd, ps, h2, h3⟩ := h.ex
  exact ⟨fd, ps, h2, h3.mono l⟩
theorem SR.updG {K : PySem.W.Frag} {B : Hp} {G : Addr → Prop} {fp : Nat → List Addr} {σ : St} {H : Hp} {ρ : Ro} {x : Addr} {u0 o : HO} (S : SR K B G fp σ H ρ) (hx : G x) (hB : B x = none) (h0 : H x = some u0) (ne : isExt u0 = false) (nt : ∀ xs, u0 ≠ .tup xs ∧ ∀ ob, u0 ≠ .frz ob (.tup xs)) : SR K B G fp σ (upd H x o) ρ := by
  refine S.off (fun b u hb n _ => ?_) dom_upd (fun K' a bk cs m => m.upd h0 ne nt) (tup_upd h0 nt) (fun a u ha hu _ => ?_)
  · have : b ≠ x := fun z => n (by rw [z]; exact hx)
    rw [upd_ne this]; exact hb
  · by_cases z : a = x
    · subst z; exact .inl hB
    · rw [upd_ne z]; exact .inr hu
theorem initS_read {K : PySem.W.Frag} {mg : Str → Option Value} {Fn : List PyData → R PyData} (cl : Cls K (sdC K)) (n1 : NoAttr K (sdC K) "book") (n2 : NoAttr K (sdC K) "strict") (n3 : NoAttr K (sdC K) "counts") (n4 : NoAttr K (sdC K) "rows") {vs : List V} {H : Hp} {Q : VK} {E : XK} (h : spIS K Fn vs H Q E) :
    tSeq (fun D σ H => tD K mg (fun cls d _ H => E cls d H) (dCallF 1 Fn (dCons (dVar 1) dNil)) σ H fun _ H1 => D.nx σ H1) (tSeq (sFld K (tVar 0) (tVar 1) "book") (tSeq (sFld K (tVar 0) (tVar 2) "strict") (tSeq (sFld K (tVar 0) (tD K mg (fun cls d _ H => E cls d H) (dBin tmulA (dTup (dCons (dC (.int 0)) dNil)) (dCall lenD (dCons (dVar 1) dNil)))) "counts") (sFld K (tVar 0) (tLst tNil) "rows")))) { nx := fun _ H' => Q .non H', rt := Q } (L2.start ["self", "book", "strict"] vs) H := by
  obtain ⟨x, dx, vb, vs', G, bk, st, c, rfl, hx, hG, db, dst, ⟨z, hz⟩, hc, q⟩ := h
  have hB : offH H [x] x = none := by unfold offH; rw [if_pos (by simp)]
  have hGx : GA G [x] x := .inr (by simp)
  have ow : ∀ a, Ow (GA G [x]) (fun _ => []) a ↔ GA G [x] a := fun a => ⟨fun h => h.elim id fun ⟨_, z⟩ => by simp at z, .inl⟩
  have S0 : SR K (offH H [x]) (GA G [x]) (fun _ => []) (L2.start ["self", "book", "strict"] [.ref x, vb, vs']) H [some (.rf x), some (.fz bk), some (.fz st)] := by
    refine ⟨rfl, offH_same H [x], fun a ha => ?_, fun i a ha => by simp at ha, fun i a ha => by simp at ha, fun i a ha => by simp at ha, fun i j a ha => by simp at ha, fun i cc e => ?_⟩
    · rcases ha with ha | ha
      · exact hG a ha
      · simp at ha; subst ha; exact ⟨_, hx⟩
    · match i, e with
      | 0, e => cases e; exact ⟨.ref x, rfl, rfl⟩
      | 1, e => cases e; exact ⟨vb, rfl, db.less fun a ha => (ow a).mp ha⟩
      | 2, e => cases e; exact ⟨vs', rfl, dst.less fun a ha => (ow a).mp ha⟩
      | i + 3, e => simp at e
  unfold tSeq
  refine tD_iff.mpr ⟨_, _, _, _, S0, ?_⟩
  have e1 : dCallF 1 Fn (dCons (dVar 1) dNil) [some (.rf x), some (.fz bk), some (.fz st)] = .ok z := by
    show (if ([bk] : List PyData).length = 1 then Fn [bk] else R.no) = _
    simp [hz]
  rw [e1]
  intro v0 H1 s1 _
  have S1 := S0.mono s1
  have x1 := s1.keep _ _ hx rfl
  refine ⟨vb, rfl, .ref x, rfl, x, sdC K, dx, [], rfl, x1, cl, n1, (by show 0 < 1000; decide), ?_⟩
  have S2 := S1.updG (o := .ins (sdC K) dx (putF "book" vb [])) hGx hB x1 rfl (ntI _ _ _)
  refine ⟨vs', rfl, .ref x, rfl, x, sdC K, dx, _, rfl, upd_same, cl, n2, (by show 1 < 1000; decide), ?_⟩
  have S3 := S2.updG (o := .ins (sdC K) dx (putF "strict" vs' (putF "book" vb []))) hGx hB upd_same rfl (ntI _ _ _)
  have x3 : upd (upd H1 x (.ins (sdC K) dx (putF "book" vb []))) x (.ins (sdC K) dx (putF "strict" vs' (putF "book" vb []))) x = some (.ins (sdC K) dx (putF "strict" vs' (putF "book" vb []))) := upd_same
  generalize upd (upd H1 x (.ins (sdC K) dx (putF "book" vb []))) x (.ins (sdC K) dx (putF "strict" vs' (putF "book" vb []))) = H3 at S3 x3 ⊢
  refine tD_iff.mpr ⟨_, _, _, _, S3, ?_⟩
  have e2 : dBin tmulA (dTup (dCons (dC (.int 0)) dNil)) (dCall lenD (dCons (dVar 1) dNil)) [some (.rf x), some (.fz bk), some (.fz st)] = .ok c := by
    show R.bind (.ok (.tuple [.int 0])) (fun x => R.bind (R.of (lenD [bk])) fun y => R.of (tmulA x y)) = _
    simp only [R.bind_ok]
    unfold czD at hc
    cases hl : lenD [bk] with
    | none => rw [hl] at hc; cases hc
    | some n =>
      rw [hl] at hc
      simp only [R.of_some, R.bind_ok]
      have hc' : tmulA (.tuple [.int 0]) n = some c := hc
      rw [hc']
      rfl
  rw [e2]
  intro vc H4 s4 dc
  have S4 := S3.mono s4
  have x4 := s4.keep _ _ x3 rfl
  refine ⟨.ref x, rfl, x, sdC K, dx, _, rfl, x4, cl, n3, (by show 2 < 1000; decide), ?_⟩
  have S5 := S4.updG (o := .ins (sdC K) dx (putF "counts" vc (putF "strict" vs' (putF "book" vb [])))) hGx hB x4 rfl (ntI _ _ _)
  have x5 : upd H4 x (.ins (sdC K) dx (putF "counts" vc (putF "strict" vs' (putF "book" vb [])))) x = some (.ins (sdC K) dx (putF "counts" vc (putF "strict" vs' (putF "book" vb [])))) := upd_same
  have d5 : DO K (Ow (GA G [x]) (fun _ => [])) (upd H4 x (.ins (sdC K) dx (putF "counts" vc (putF "strict" vs' (putF "book" vb []))))) vc c := DO.evo (Evo.chg (.inl hGx) x4 rfl (ntI _ _ _)) _ _ dc
  generalize upd H4 x (.ins (sdC K) dx (putF "counts" vc (putF "strict" vs' (putF "book" vb [])))) = H5 at S5 x5 d5 ⊢
  refine ⟨by rw [sizeLine_eq]; show 0 ≤ _; omega, fun r hr => ?_⟩
  have hrx : r ≠ x := fun e => by rw [e, x5] at hr; cases hr
  have x6 : upd H5 r (.lst []) x = some (.ins (sdC K) dx (putF "counts" vc (putF "strict" vs' (putF "book" vb [])))) := by rw [upd_ne (Ne.symm hrx)]; exact x5
  refine ⟨.ref x, rfl, x, sdC K, dx, _, rfl, x6, cl, n4, (by show 3 < 1000; decide), ?_⟩
  have S6 := S5.mono (same_new (o := .lst []) hr)
  have S7 := S6.updG (o := .ins (sdC K) dx (putF "rows" (.ref r) (putF "counts" vc (putF "strict" vs' (putF "book" vb []))))) hGx hB x6 rfl (ntI _ _ _)
  have ef : putF "rows" (.ref r) (putF "counts" vc (putF "strict" vs' (putF "book" vb []))) = ([("book", vb), ("strict", vs'), ("counts", vc), ("rows", .ref r)] : List (Str × V)) := by
    have a1 : putF "book" vb [] = ([("book", vb)] : List (Str × V)) := rfl
    have a2 : putF "strict" vs' [("book", vb)] = ([("book", vb), ("strict", vs')] : List (Str × V)) := by unfold putF; rw [if_neg (by decide)]; rfl
    have a3 : putF "counts" vc [("book", vb), ("strict", vs')] = ([("book", vb), ("strict", vs'), ("counts", vc)] : List (Str × V)) := by unfold putF; rw [if_neg (by decide)]; unfold putF; rw [if_neg (by decide)]; rfl
    rw [a1, a2, a3]
    unfold putF; rw [if_neg (by decide)]; unfold putF; rw [if_neg (by decide)]; unfold putF; rw [if_neg (by decide)]; rfl
  rw [ef] at S7 ⊢
  have ev : Evo (Ow (GA G [x]) (fun _ => [])) H5 (GA G [x, r]) (upd (upd H5 r (.lst [])) x (.ins (sdC K) dx [("book", vb), ("strict", vs'), ("counts", vc), ("rows", .ref r)])) := by
    have a := Evo.put (O := Ow (GA G [x]) (fun _ => [])) (o := .lst []) hr
    have b : Evo (fun a => Ow (GA G [x]) (fun _ => []) a ∨ a = r) (upd H5 r (.lst [])) (fun a => Ow (GA G [x]) (fun _ => []) a ∨ a = r) (upd (upd H5 r (.lst [])) x (.ins (sdC K) dx [("book", vb), ("strict", vs'), ("counts", vc), ("rows", .ref r)])) := Evo.chg (.inl (.inl hGx)) x6 rfl (ntI _ _ _)
    refine (a.trans b).trans (Evo.less fun y hy => ?_)
    rcases hy with hy | hy
    · exact .inl (.inl (.inl hy))
    · simp at hy
      rcases hy with rfl | rfl
      · exact .inl (.inl hGx)
      · exact .inr rfl
  obtain ⟨_, z1, k1⟩ := S5.slot 1 _ rfl
  cases z1
  obtain ⟨_, z2, k2⟩ := S5.slot 2 _ rfl
  cases z2
  have hr0 : H r = none := by
    have := S5.same.free hr
    rcases offH_none this with z | z
    · simp at z; exact (hrx z).elim
    · exact z
  exact q _ r S7.same hr0 hrx ⟨bk, st, c, [], dx, vb, vs', vc, r, [], rfl, upd_same, by simp, hrx, by rw [upd_ne hrx]; exact upd_same, DO.evo ev _ _ k1, DO.evo ev _ _ k2, DO.evo ev _ _ d5, .nil, by show 0 ≤ 1000000; decide⟩
/-- new things are owned by a slot -/
theorem SR.ownN {K : PySem.W.Frag} {B : Hp} {G : Addr → Prop} {fp : Nat → List Addr} {σ : St} {H H' : Hp} {ρ : Ro} (S : SR K B G fp σ H ρ) {i : Nat} {as : List Addr} {v : V} {c0 : Cel} (hn : ∀ a ∈ as, H a = none) (s : Same H H') (hh : ∀ a ∈ as, ∃ o, H' a = some o) (hd : CelR K (GA (Ow G fp) as) H' v as c0) (hi : i < ρ.length) :
    SR K B G (fpSet fp i as) (σ.set i (some v)) H' (ρ.set i (some c0)) ∧ Evo (Ow G fp) H (Ow G (fpSet fp i as)) H' := by
  have sub : ∀ a, Ow G (fpSet fp i as) a → GA (Ow G fp) as a := fun a ha => by
    rcases ha with ha | ⟨j, ha⟩
    · exact .inl (.inl ha)
    · unfold fpSet at ha
      split at ha
      · exact .inr ha
      · exact .inl (.inr ⟨j, ha⟩)
  have ev : Evo (Ow G fp) H (Ow G (fpSet fp i as)) H' := ⟨fun a ha => (sub a ha).elim .inl fun h => .inr (hn a h), fun b u hb _ ne => s.keep b u hb ne, s.dom, s.memo, fun a xs h => s.keep _ _ h rfl⟩
  have nofp : ∀ j a, a ∈ as → a ∉ fp j := fun j a ha hj => by obtain ⟨o', e⟩ := S.fpH j a hj; rw [hn a ha] at e; cases e
  refine ⟨⟨by rw [List.length_set, List.length_set]; exact S.len, S.same.trans s, fun a ha => let ⟨o, e⟩ := S.gt a ha; s.dom _ _ e, fun j a ha => ?_, fun j a ha => ?_, fun j a ha => ?_, fun j k a ha hb => ?_, fun j c e => ?_⟩, ev⟩
  · unfold fpSet at ha
    split at ha
    · exact S.same.free (hn a ha)
    · exact S.fpB j a ha
  · unfold fpSet at ha
    split at ha
    · intro z
      obtain ⟨o', e⟩ := S.gt a z; rw [hn a ha] at e; cases e
    · exact S.fpG j a ha
  · unfold fpSet at ha
    split at ha
    · exact hh a ha
    · obtain ⟨o', e⟩ := S.fpH j a ha; exact s.dom _ _ e
  · unfold fpSet at ha hb
    split at ha
    · split at hb
      · simp_all
      · exact absurd hb (nofp k a ha)
    · split at hb
      · exact absurd ha (nofp j a hb)
      · exact S.dis j k a ha hb
  · by_cases hj : i = j
    · subst hj
      rw [List.getElem?_set_self hi] at e
      cases e
      refine ⟨v, by rw [List.getElem?_set_self (by rw [S.len]; exact hi)], ?_⟩
      have e0 : fpSet fp i as i = as := by simp [fpSet]
      rw [e0]
      exact CelR.evo (Evo.less sub) (fun b _ u _ q => q) hd
    · rw [List.getElem?_set_ne hj] at e
      obtain ⟨w, h1, h2⟩ := S.slot j c e
      refine ⟨w, by rw [List.getElem?_set_ne hj]; exact h1, ?_⟩
      have e0 : fpSet fp i as j = fp j := by unfold fpSet; rw [if_neg (Ne.symm hj)]
      rw [e0]
      exact CelR.evo ev (fun b _ u ne q => s.keep _ _ q ne) h2
def mkTo (Fn : List PyData → R PyData) (ρ : Ro) (j : Nat) : List PyData → Fl
  | [bk, st] => match Fn [bk] with
    | .ok _ => (match czD bk with
      | some c => if j < ρ.length then .nx (ρ.set j (sCel none (sdD bk st c []))) else .no
      | none => .no)
    | _ => .no
  | _ => .no
/-- y = Standin(b, s) -/
def sMkS (Fn : List PyData → R PyData) (j : Nat) (fa : Ro → R (List PyData)) : Ro → Fl := fun ρ => Fl.of ρ (fa ρ) (mkTo Fn ρ j)
theorem psd_mkS {X : Cx} {W : WX} {e : Expr} {es : List Expr} {fa : Ro → R (List PyData)} {k j : Nat} {y : Str} {Fn : List PyData → R PyData} {pos pos' pos2 p : Pos} (FI : FnIS X.prog X.w X.K X.mg X.base k Fn) (M : Mk X.K (sdC X.K) (He.ma X.K (sdC X.K) "__init__")) (hr : Room (k + 1) X.A) (hg : Gl X "Standin") (gm : X.mg "Standin" = some (.ref (sdC X.K)))
    (hN : X.N.Nodup) (hi : X.N[j]? = some y) (hx : Loc X.env.scope y) (ha : PAs X W (e :: es) fa) (he : starEach (e :: es) X.env = (false, eval e X.env) :: starEach es X.env := by rfl) (hpl : (backTo pos2 (starEach es X.env)).any (·.1) = false := by rfl)
    (hs : swapsWith (.Call (.Name "Standin" p) (e :: es) [] pos2) (some (.Name y pos')) pos.line X.env = pure false := by rfl) (hf : X.fn y = true ∨ X.env.scope.names.lookup y = some .local := by first | exact .inl rfl | exact .inr rfl | assumption) :
    PSD X W (.Assign [.Name y pos'] (.Call (.Name "Standin" p) (e :: es) [] pos2) pos) (sMkS Fn j fa) := by
  obtain ⟨fd, ps, h2, h3⟩ := FI.ex
  refine psW (ps_set hN hi hx (pe_make M h3 hr hg gm h2 .nil pass_no ha (by decide) he hpl) hs hf) fun D σ H h => ?_
  obtain ⟨B, G, fp, ρ, S, h⟩ := h
  refine tAD_iff.mpr ⟨B, G, fp, ρ, S, h.aft S fun ds eds g => fun vs H1 s1 d1 => ?_⟩
  clear eds
  intro x dx nx nd ne
  unfold mkTo at g
  split at g
  · rename_i bk st
    split at g
    · rename_i z hz
      split at g
      · rename_i c hc
        split at g
        · rename_i hj
          match vs, d1 with
          | _, .cons q1 (.cons q2 .nil) =>
            have S1 := S.mono s1
            have ev : Evo (Ow G fp) H1 (GA (Ow G fp) [x]) (upd (upd H1 dx (.own x)) x (.ins (sdC X.K) dx [])) := by
              have nx' : upd H1 dx (.own x) x = none := by rw [upd_ne (Ne.symm ne)]; exact nx
              refine (Evo.same (same_new nd)).trans ((Evo.put nx').trans (Evo.less fun a ha => ?_))
              rcases ha with ha | ha
              · exact .inl ha
              · simp at ha; exact .inr ha
            refine ⟨x, dx, _, _, Ow G fp, bk, st, c, rfl, upd_same, fun a ha => ?_, DO.evo ev _ _ q1, DO.evo ev _ _ q2, ⟨z, hz⟩, hc, fun H' r sm hr0 hrx sd => ?_⟩
            · obtain ⟨o, eo⟩ := S1.trk a ha
              exact ev.dom a o eo
            · have hrdx : r ≠ dx := fun e => by rw [e, upd_ne ne, upd_same] at hr0; cases hr0
              have hr1 : H1 r = none := by rw [upd_ne hrx, upd_ne hrdx] at hr0; exact hr0
              have s12 : Same H1 (offH (upd (upd H1 dx (.own x)) x (.ins (sdC X.K) dx [])) [x]) := .of fun b u hb => by
                have hbx : b ≠ x := ne_of_none hb nx
                refine offH_some.mpr ⟨by simpa using hbx, ?_⟩
                rw [upd_ne hbx, upd_ne (ne_of_none hb nd)]
                exact hb
              have sH : Same H H' := (s1.trans s12).trans sm
              have sd' := sd
              obtain ⟨_, _, _, _, dx', _, _, _, r', xs', z0, z1, z2, z3, z4, _⟩ := sd'
              have hr' : r' = r := by
                simp at z2
                rcases z2 with z2 | z2
                · exact (z3 z2).elim
                · exact z2
              subst hr'
              obtain ⟨S2, ev2⟩ := S.ownN (i := j) (as := [x, r']) (v := .ref x) (c0 := .st (.sd none) (sdD bk st c [])) (fun a ha => by
                simp at ha
                rcases ha with rfl | rfl
                · exact s1.free nx
                · exact s1.free hr1) sH (fun a ha => by
                simp at ha
                rcases ha with rfl | rfl
                · exact ⟨_, z1⟩
                · exact ⟨_, z4⟩) ⟨x, rfl, by simp, (fun _ z => nomatch z), sd⟩ hj
              exact ⟨rfl, g _ H' _ S2 ev2⟩
        · exact g.elim
      · exact g.elim
    · exact g.elim
  · exact g.elim
end Pu

namespace L2
open PySem PySem.Spec PyProof.Rows
/-! ### an own exception with an own __init__, raised where nothing is handled -/
theorem Pu_mk_end {X : Cx} {pins : List (Addr × Obj)} {σ : St} {H1 H2 : Hp} {Q : XK} {hp hp2 h2 : Heap} {g1 g2 : Array GenState} {d1 d2 : Drawn} {t1 t2 : Nat} {os1 os2 : OsState} {a C d : Addr} {fs : List (Str × V)}
    (T : Raises X (.ref C)) (I1 : Inv X pins σ H1 ⟨hp, g1, d1, t1, os1⟩) (ha : hp.objs.size ≤ a)
    (kp : ∀ b o, hp.get? b = some o → hp2.get? b = some o) (un : Un (frs X.stack) [] (upd H1 a (exo a C none)) H2 hp2 h2)
    (hok : HOk X.prog X.w H2 h2) (ho : os2 = os1) (hb : AllBare g2) (ea : H2 a = some (exo a C (some d)))
    (ed : H2 d = some (exd d fs)) (hd1 : H1 d = none) (q : Q (.ref C) (some d) (upd (del H2 a) d (.xd fs))) :
    L2N.MkP X pins σ Q (.ref a) ⟨h2, g2, d2, t2, os2⟩ := by
  obtain ⟨t0, G, J, kG, ge, hoe, na⟩ := mk_end0 (d2 := d2) (t2 := t2) I1 ha kp un hok ho hb ea ed hd1
  refine ⟨a, _, _, ⟨G, g2, d2, t2, os2⟩, _, .ref C, some d, rfl, J, kG, ge, hoe, ⟨rfl, rfl, fun vs e => ?_⟩, rfl, rfl, na, rfl, hb, T, q⟩
  cases e
  rfl
theorem Pu_pmk_oex {X : Cx} {CX : CXT} {x : Str} {e : Expr} {es : List Expr} {ta : TA} {p pos : Pos} {C fI : Addr} {k : Nat} {fd : FuncData} {ps : List Str} {sp : Sp} (T : OexC X.K C)
    (iC : PySem.W.findIn X.K (.ref C) "__init__" = some (some (.ref fI))) (tI : PySem.W.typeIn X.K (.ref fI) = some (.type "function"))
    (FO : FnOk X.prog X.w X.K X.mg X.base CX k fI fd ps sp) (hr : Room (k + 1) X.A) (hb : Binds X.K fd ps []) (hx : Passes CX X (fun _ _ _ => False))
    (hg : Gl X x) (hm : X.mg x = some (.ref C)) (ha : PA X (e :: es) ta) (hdb : (x == ("__debug__" : Str)) = false := by decide)
    (he : starEach (e :: es) X.env = (false, eval e X.env) :: starEach es X.env := by rfl)
    (hpl : (backTo pos (starEach es X.env)).any (·.1) = false := by rfl) : L2N.PMk X (.Call (.Name x p) (e :: es) [] pos) (tMkO C sp [] ta) := by
  intro pins s σ H Q I h
  obtain ⟨nm, q0, N, bs, bm, sn, sub, ab, col, dd, k0, k1, k2, k3, k5, hC, hbm⟩ := T.cls
  refine wpAny_Call_Name_kw (ld_glob I hg hm ?_ hdb)
  refine PySem.W.callWith_K (h₀ := X.base) I.ok.mod.kin T.kC (thn (ha.run pos pins s σ H _ I h) fun us s1 z1 => ?_) he hpl
  obtain ⟨vs, H1, I1, r1, hz, q1⟩ := z1
  refine ⟨I1.kIn, ?_⟩
  show wpAny _ _ (call (.ref C) us) _ _ _
  obtain ⟨hp, g, dr, tk, os⟩ := s1
  have hsz : hp.objs.size ≤ hp.objs.size + 1 := Nat.le_succ _
  have hq := q1 (hp.objs.size + 1) (I1.hok.fresh hsz)
  rw [List.append_nil] at hq
  have kk : ∀ b o, hp.get? b = some o →
      ((hp.push (PySem.W.kdv_tup us)).push (PySem.HandSPX.excO C hp.objs.size)).get? b = some o :=
    fun b o z => Heap.get?_push_of_some _ (Heap.get?_push_of_some _ z)
  have hget : ((hp.push (PySem.W.kdv_tup us)).push
      (PySem.HandSPX.excO C hp.objs.size)).get? (hp.objs.size + 1) =
      some (PySem.HandSPX.excO C hp.objs.size) := by heap_get
  have I2 := I1.laid (t' := tk) (a := hp.objs.size + 1)
    (o := exo (hp.objs.size + 1) C none)
    (h' := (hp.push (PySem.W.kdv_tup us)).push (PySem.HandSPX.excO C hp.objs.size)) kk hsz (exo_ok hget)
  have r2 : Vals (V.ref (hp.objs.size + 1) :: vs)
      (Value.ref (hp.objs.size + 1) :: us) := .cons rfl r1
  have hl : (Value.ref (hp.objs.size + 1) :: us).length = ps.length := by
    rw [← r2.length]
    exact FO.len _ _ _ _ hq
  have hus : us.length ≤ sizeLine := by
    have := Paired.length r1
    rw [sizeLine_eq]
    omega
  have b2 := hb _ (Value.ref (hp.objs.size + 1) :: us) I2.kIn (by rw [List.append_nil]; exact hl)
  rw [List.append_nil] at b2
  refine wpAny_call (PySem.HandSPX.call_own F.excBase_ValueError
    (fun Y => PySem.HandSPX.refsVE_contains Y bm hbm) (I1.kIn _ _ hC)
    (PySem.W.looks_findIn I1.kIn iC) (fun self => PySem.W.bind_fn I1.kIn self tI) hus
    (codeAny_mono (FO.run _ X.stack _ _ ⟨Value.ref (hp.objs.size + 1) :: us, []⟩
      (Value.ref (hp.objs.size + 1) :: us) _ _ (fun _ _ _ => False) (hr.make C us [])
      (I2.env0.make C us []) b2 r2 hq) fun r s' hq' => ?_))
  cases r with
  | error er => exact hx pins σ _ _ er s' I2 hq'
  | ok fl =>
    cases fl with
    | ret u =>
      obtain ⟨v, H2, os2, bare2, un2, hok2, rv, ev, d, fs, ea, ed, hd1, q2⟩ := hq'
      subst ev
      obtain ⟨h2, g2, d2, t2, os'⟩ := s'
      exact ⟨rv, Pu_mk_end (raises_own T.exC T.tyC) I1 hsz kk un2 hok2 os2 bare2 ea ed hd1 q2⟩
    | next => exact False.elim hq'
    | brk => exact False.elim hq'
    | cont => exact False.elim hq'
end L2
namespace Pu
open PySem PySem.Spec PyProof.Rows L2
variable [MemoSpec]
abbrev brC (K : PySem.W.Frag) : Addr := He.ga K "Broken"
/-- Broken's __init__ -/
def spB (K : PySem.W.Frag) : Sp := fun vs H Q _ => ∃ (a : Addr) (y : V), vs = [.ref a, y] ∧ H a = some (exo a (brC K) none) ∧ ∀ dx, H dx = none → dx ≠ a → Q .non (upd (upd H dx (exd dx [("word", y)])) a (exo a (brC K) (some dx)))
structure FnB (P : Program) (w : World) (K : PySem.W.Frag) (mg : Str → Option Value) (base : Heap) (k : Nat) : Prop where
  ex : ∃ fd ps, Binds K fd ps [] ∧ FnOk P w K mg base (L2N.CX P w) k (He.ma K (brC K) "__init__") fd ps (spB K)
theorem FnB.mono {P : Program} {w : World} {K : PySem.W.Frag} {mg : Str → Option Value} {base : Heap} {k k' : Nat} (h : FnB P w K mg base k) (l : k ≤ k') : FnB P w K mg base k' := by
  obtain ⟨fd, ps, h2, h3⟩ := h.ex
  exact ⟨fd, ps, h2, h3.mono l⟩
/-- what is known of the class -/
structure BrC (K : PySem.W.Frag) : Prop where
  oex : OexC K (brC K)
  ini : PySem.W.findIn K (.ref (brC K)) "__init__" = some (some (.ref (He.ma K (brC K) "__init__")))
  fn : PySem.W.typeIn K (.ref (He.ma K (brC K) "__init__")) = some (.type "function")
  word : PySem.W.findIn K (.ref (brC K)) "word" = some none
theorem initB_read {K : PySem.W.Frag} (T : BrC K) {vs : List V} {H : Hp} {Q : VK} {E : XK} (h : spB K vs H Q E) : tOst K "word" (tVar 0) (tVar 1) { nx := fun _ H' => Q .non H', rt := Q } (L2.start ["self", "word"] vs) H := by
  obtain ⟨a, y, rfl, ha, q⟩ := h
  exact ⟨y, rfl, .ref a, rfl, a, brC K, rfl, T.oex, T.word, .inl ⟨ha, q⟩⟩
def sRaiseB (f : Ro → R PyData) : Ro → Fl := fun ρ => Fl.of ρ (f ρ) fun d => .ex ⟨"Broken", some d⟩ ρ
theorem psd_raiseB {X : Cx} {W : WX} {e : Expr} {fe : Ro → R PyData} {k : Nat} {p pos pos2 : Pos} (FI : FnB X.prog X.w X.K X.mg X.base k) (T : BrC X.K) (hc : X.calm = true) (tk : L2N.Takes X W) (hr : Room (k + 1) X.A) (hg : Gl X "Broken") (gm : X.mg "Broken" = some (.ref (brC X.K))) (ha : PD X W e fe)
    (he : starEach [e] X.env = (false, eval e X.env) :: starEach [] X.env := by rfl) (hpl : (backTo pos (starEach [] X.env)).any (·.1) = false := by rfl) : PSD X W (.Raise (some (.Call (.Name "Broken" p) [e] [] pos)) none pos2) (sRaiseB fe) := by
  obtain ⟨fd, ps, h2, h3⟩ := FI.ex
  refine psW (L2N.ps_raise hc tk (Pu_pmk_oex T.oex T.ini T.fn h3 hr h2 pass_no hg gm (pa_cons ha pa_nil he) (by decide) he hpl)) fun D σ H h => ?_
  obtain ⟨B, G, fp, ρ, S, h⟩ := h
  refine tD_iff.mpr ⟨B, G, fp, ρ, S, h.aft S fun d _ g v H1 s1 dv => ⟨by show 1 ≤ 1000; decide, fun a na => ?_⟩⟩
  rw [List.append_nil]
  refine ⟨a, v, rfl, upd_same, fun dx ndx hne => ?_⟩
  have nd : H1 dx = none := by rw [upd_ne hne] at ndx; exact ndx
  refine ⟨rfl, dx, [("word", v)], upd_same, by rw [upd_ne hne]; exact upd_same, nd, ?_⟩
  have eH : upd (del (upd (upd (upd H1 a (exo a (brC X.K) none)) dx (exd dx [("word", v)])) a (exo a (brC X.K) (some dx))) a) dx (.xd [("word", v)]) = upd H1 dx (.xd [("word", v)]) := by
    funext b
    by_cases hb : b = dx
    · subst hb; rw [upd_same, upd_same]
    · rw [upd_ne hb, upd_ne hb]
      by_cases hba : b = a
      · subst hba; rw [del_same, na]
      · rw [del_ne hba, upd_ne hba, upd_ne hb, upd_ne hba]
  rw [eH]
  have sm : Same H1 (upd H1 dx (.xd [("word", v)])) := same_new nd
  exact g (.ref (brC X.K)) (some dx) σ _ fp ((S.mono s1).mono sm) (Evo.same (s1.trans sm)) ⟨gm, dx, v, rfl, upd_same, dv.same sm⟩
/-! ### try: e; except StandError: return -/
def xTry (f : Ro → RX) (ca : Xc → Bool) : Ro → Fx := fun ρ => match f ρ with
  | .ok _ ρ' => .nx ρ'
  | .ex x ρ' => if ca x then .rt .none ρ' else .no
  | .no => .no
theorem psx_try {X : Cx} {W : WX} {e : Expr} {f : Ro → RX} {y : Str} {Sd : Addr} {np pos pos' p1 p2 : Pos} {ca : Xc → Bool} (hs : X.stack = X.env :: X.outer) (hf : X.env.frame = some X.env.locals) (hc : Names X y (.ref Sd)) (tk : L2N.Takes X W)
    (hb : ∀ (W' : WX) (pn : List (Addr × Obj)) (xe : Value → Shared → Prop), L2N.Takes (X.tr pn xe) W' → PassesOwn (model X.prog X.w) X.A X.env xe → PDX (X.tr pn xe) W' e f)
    (hca : ∀ xc, ca xc = true → ∀ C, X.mg xc.cls = some C → PySem.W.exmOne X.K C (.ref Sd) = some true)
    (hsw : swapsWith e none p1.line X.env = pure false := by rfl) :
    PSX X W (.Try [.Expr e p1] [.ExceptHandler (some (.Name y np)) none [.Return none p2] pos'] [] [] pos) (xTry f ca) := by
  refine psW (L2N.ps_try_many (tb := fun W' D σ H => tDX X.K X.mg W' f σ H fun _ H1 => D.nx σ H1) (l := [(.ref Sd, fun _ _ _ D _ H => D.rt .non H)]) (Wout := W) hs hf tk (fun W' pn xe tk' hp' => pss_one (ps_expr (hb W' pn xe tk' hp') hsw)) (.cons hc (fun a oe cls d pn hz hfl => pss_one ps_retN) .nil)) fun D σ H h => ?_
  obtain ⟨B, G, fp, ρ, S, h⟩ := h
  refine tDX_iff.mpr ⟨B, G, fp, ρ, S, ?_⟩
  unfold xTry at h
  cases q : f ρ with
  | ok d ρ' => rw [q] at h; exact fun v H' fp' S' ev _ => h σ H' fp' S' ev
  | ex x ρ' =>
    rw [q] at h
    intro cls dd H' fp' S' ev xr
    by_cases hx : ca x = true
    · simp only [if_pos hx] at h
      exact ⟨true, hca x hx cls xr.1, fun _ a ha => h .non σ H' fp' S' ev .non, fun z => Bool.noConfusion z⟩
    · simp only [if_neg hx] at h
      exact h.elim
  | no => rw [q] at h; exact h
end Pu

namespace Pu
open PySem PySem.Spec PyProof.Rows L2
/-! ### what is asked of the class Broken, checked -/
def oexB (K : PySem.W.Frag) (C : Addr) : Bool := match K.lookup C with
  | some ⟨.type "type", _, .cls cd, sl⟩ => (match cd.mro, sl.toList with
    | .ref C' :: bm, [_, _, _, _, some (.builtin n), _] => decide (C' = C) && (decide (n = "ValueError.__new__") && (!cd.hasDel && (cd.hasDict && PySem.HandSPX.refsVE bm)))
    | _, _ => false)
  | _ => false
theorem oexB_ok {K : PySem.W.Frag} {C : Addr} (q : oexB K C = true) : ∃ nm q N bs bm sn sub ab col dd k0 k1 k2 k3 k5, K.lookup C = some (excClassObj nm q C N bs bm true sn sub ab col dd k0 k1 k2 k3 k5 "ValueError.__new__") ∧ PySem.HandSPX.refsVE bm = true := by
  unfold oexB at q
  split at q
  · rename_i dd cd sl ho
    split at q
    · rename_i C' bm k0 k1 k2 k3 n k5 hm hs
      simp only [Bool.and_eq_true, decide_eq_true_eq, Bool.not_eq_true'] at q
      obtain ⟨rfl, rfl, q3, q4, q5⟩ := q
      obtain ⟨nm, bs, mro, ns, qn, hd, sn, sub, ab, col, del⟩ := cd
      dsimp only at hm q3 q4
      subst hm q3 q4
      obtain ⟨l⟩ := sl
      simp only at hs
      subst hs
      exact ⟨nm, qn, ns, bs, bm, sn, sub, ab, col, dd, k0, k1, k2, k3, k5, ho, q5⟩
    · cases q
  · cases q
def brB (K : PySem.W.Frag) : Bool := oexB K (brC K) && (He.eqO (PySem.W.findIn K (.ref (brC K)) "__setattr__") (some (some (.builtin "object.__setattr__"))) && (decide (PySem.W.subIn K (.ref (brC K)) (.type "BaseException") = some true) && (decide (PySem.W.typeIn K (.ref (brC K)) = some (.type "type")) && (PySem.W.keepIn K (.ref (brC K)) &&
  (He.eqO (PySem.W.findIn K (.ref (brC K)) "__init__") (some (some (.ref (He.ma K (brC K) "__init__")))) && (decide (PySem.W.typeIn K (.ref (He.ma K (brC K) "__init__")) = some (.type "function")) && He.eqO (PySem.W.findIn K (.ref (brC K)) "word") (some none)))))))
theorem brB_ok {K : PySem.W.Frag} (h : brB K = true) : BrC K := by
  unfold brB at h
  obtain ⟨h1, h⟩ := He.ba h
  obtain ⟨h2, h⟩ := He.ba h
  obtain ⟨h3, h⟩ := He.ba h
  obtain ⟨h4, h⟩ := He.ba h
  obtain ⟨h5, h⟩ := He.ba h
  obtain ⟨h6, h⟩ := He.ba h
  obtain ⟨h7, h8⟩ := He.ba h
  exact ⟨⟨oexB_ok h1, He.eqO_ok h2, of_decide_eq_true h3, of_decide_eq_true h4, h5⟩, He.eqO_ok h6, of_decide_eq_true h7, He.eqO_ok h8⟩
/-- which exceptions are StandErrors -/
def stErr (x : Xc) : Bool := decide (x.cls = "NoCall") || (decide (x.cls = "Unwished") || decide (x.cls = "Broken"))
end Pu

namespace Pu
open PySem PySem.Spec PyProof.Rows L2
variable [MemoSpec]
/-! ### dicts whose keys are whole numbers or texts -/
def kyOf : PyData → Option Key
  | .int i => some (.inl i)
  | .str x => some (.inr x)
  | _ => none
theorem kyOf_keyD (k : Key) : kyOf (keyD k) = some k := by cases k <;> rfl
theorem kyOf_inv {d : PyData} {k : Key} (h : kyOf d = some k) : d = keyD k := by cases d <;> cases h <;> rfl
theorem keyD_inj {a b : Key} (h : keyD a = keyD b) : a = b := Option.some.inj (by rw [← kyOf_keyD a, h, kyOf_keyD])
theorem key_V {K : PySem.W.Frag} {O : Addr → Prop} {H : Hp} {v : V} {k : Key} (h : DO K O H v (keyD k)) : v = kV k := by cases k <;> cases h <;> rfl
def putKD (ds : Kvs) (k : Key) (d : PyData) : Kvs :=
  if (ds.any fun kv => decide (kyOf kv.1 = some k)) = true then ds.map (fun kv => if kyOf kv.1 = some k then (kv.1, d) else kv) else ds ++ [(keyD k, d)]
theorem dks_any {K : PySem.W.Frag} {O : Addr → Prop} {H : Hp} (k : Key) : ∀ {ds : Kvs} {kvs : List (Key × V)}, DKs K O H kvs ds → (kvs.any fun kv => decide (kv.1 = k)) = (ds.any fun kv => decide (kyOf kv.1 = some k))
  | [], _, h => by cases h; rfl
  | (_, d) :: ds, _, h => by
    cases h with
    | @cons j v vs _ _ a b =>
      rw [List.any_cons, List.any_cons, dks_any k b]
      congr 1
      simp [kyOf_keyD]
theorem dks_map {K : PySem.W.Frag} {O : Addr → Prop} {H : Hp} (k : Key) {v : V} {d : PyData} (hd : DO K O H v d) : ∀ {ds : Kvs} {kvs : List (Key × V)}, DKs K O H kvs ds → DKs K O H (kvs.map fun kv => if kv.1 = k then (kv.1, v) else kv) (ds.map fun kv => if kyOf kv.1 = some k then (kv.1, d) else kv)
  | [], _, h => by cases h; exact .nil
  | (_, d') :: ds, _, h => by
    cases h with
    | @cons j v' vs _ _ a b =>
      have r := dks_map k hd b
      rw [List.map_cons, List.map_cons]
      by_cases e : j = k
      · subst e
        rw [if_pos rfl, if_pos (kyOf_keyD j)]
        exact .cons hd r
      · rw [if_neg e, if_neg (fun z => e (by rw [kyOf_keyD] at z; exact Option.some.inj z))]
        exact .cons a r
theorem dks_snoc {K : PySem.W.Frag} {O : Addr → Prop} {H : Hp} (k : Key) {v : V} {d : PyData} (hd : DO K O H v d) : ∀ {ds : Kvs} {kvs : List (Key × V)}, DKs K O H kvs ds → DKs K O H (kvs ++ [(k, v)]) (ds ++ [(keyD k, d)])
  | [], _, h => by cases h; exact .cons hd .nil
  | (_, d') :: ds, _, h => by cases h with | cons a b => exact .cons a (dks_snoc k hd b)
theorem dks_put {K : PySem.W.Frag} {O : Addr → Prop} {H : Hp} (k : Key) {v : V} {d : PyData} (hd : DO K O H v d) {ds : Kvs} {kvs : List (Key × V)} (h : DKs K O H kvs ds) : DKs K O H (putK kvs k v) (putKD ds k d) := by
  unfold putK putKD
  rw [dks_any k h]
  split
  · exact dks_map k hd h
  · exact dks_snoc k hd h
theorem dks_len {K : PySem.W.Frag} {O : Addr → Prop} {H : Hp} : ∀ {ds : Kvs} {kvs : List (Key × V)}, DKs K O H kvs ds → kvs.length = ds.length
  | [], _, h => by cases h; rfl
  | (_, d) :: ds, _, h => by cases h with | cons a b => simp [dks_len b]
theorem putKD_len (ds : Kvs) (k : Key) (v : PyData) : (putKD ds k v).length ≤ ds.length + 1 := by
  unfold putKD
  split
  · rw [List.length_map]; omega
  · rw [List.length_append]; exact Nat.le_refl _
def mergeD (ds : Kvs) (ps : List (Key × PyData)) : Kvs := ps.foldl (fun acc q => putKD acc q.1 q.2) ds
theorem mergeD_len : ∀ (ps : List (Key × PyData)) (ds : Kvs), (mergeD ds ps).length ≤ ds.length + ps.length
  | [], ds => Nat.le_refl _
  | q :: ps, ds => by
    have := mergeD_len ps (putKD ds q.1 q.2)
    have l := putKD_len ds q.1 q.2
    show (mergeD (putKD ds q.1 q.2) ps).length ≤ _
    simp only [List.length_cons]
    omega
def kdsD (ps : List (Key × PyData)) : Kvs := ps.map fun q => (keyD q.1, q.2)
theorem dks_merge {K : PySem.W.Frag} {O : Addr → Prop} {H : Hp} : ∀ {ps : List (Key × PyData)} {more acc : List (Key × V)} {ds : Kvs}, DKs K O H acc ds → DKs K O H more (kdsD ps) → DKs K O H (mergeK acc more) (mergeD ds ps)
  | [], _, _, _, h, q => by cases q; exact h
  | p :: ps, _, acc, ds, h, q => by
    obtain ⟨k, d⟩ := p
    generalize e : kdsD ((k, d) :: ps) = l at q
    cases q with
    | nil => cases e
    | @cons k' v vs d' ds' a b =>
      have e1 : keyD k = keyD k' ∧ d = d' ∧ kdsD ps = ds' := by
        have : (keyD k, d) :: kdsD ps = (keyD k', d') :: ds' := e
        simp only [List.cons.injEq, Prod.mk.injEq] at this
        exact ⟨this.1.1, this.1.2, this.2⟩
      obtain ⟨e2, rfl, rfl⟩ := e1
      cases keyD_inj e2
      show DKs K O H (mergeK (putK acc k v) vs) (mergeD (putKD ds k d) ps)
      exact dks_merge (dks_put k a h) b
def pairOf : PyData → Option (Key × PyData)
  | .tuple [k, d] => (kyOf k).map fun k => (k, d)
  | _ => none
def pairsOf : List PyData → Option (List (Key × PyData))
  | [] => some []
  | p :: ps => (pairOf p).bind fun q => (pairsOf ps).map (q :: ·)
theorem pairs_read {K : PySem.W.Frag} {O : Addr → Prop} {H : Hp} : ∀ {ps : List PyData} {xs : List V} {kds : List (Key × PyData)}, DOs K O H xs ps → pairsOf ps = some kds → ∃ (as : List Addr) (kvs : List (Key × V)), xs = as.map V.ref ∧ Paired (fun p kv => SqT K H p [kV kv.1, kv.2]) as kvs ∧ DKs K O H kvs (kdsD kds)
  | [], _, _, h, e => by cases h; cases e; exact ⟨[], [], rfl, .nil, .nil⟩
  | p :: ps, _, kds, h, e => by
    cases h with
    | cons a b =>
      unfold pairsOf at e
      obtain ⟨q, e1, e2⟩ := Option.bind_eq_some_iff.mp e
      obtain ⟨qs, e3, rfl⟩ := Option.map_eq_some_iff.mp e2
      obtain ⟨as, kvs, rfl, h2, h3⟩ := pairs_read b e3
      unfold pairOf at e1
      split at e1
      · rename_i k d
        obtain ⟨k', e4, rfl⟩ := Option.map_eq_some_iff.mp e1
        cases kyOf_inv e4
        cases a with
        | tup s qq z =>
          cases qq with
          | cons a1 qq =>
            cases qq with
            | cons a2 qq =>
              cases qq
              cases key_V a1
              exact ⟨_ :: as, (k', _) :: kvs, rfl, .cons s.sq h2, .cons a2 h3⟩
      · cases e1
theorem ntKd (acc : List (Key × V)) : ∀ xs, HO.dK acc ≠ .tup xs ∧ ∀ ob, HO.dK acc ≠ .frz ob (.tup xs) := fun xs => ⟨(fun h => nomatch h), (fun ob h => nomatch h)⟩
theorem DKs.same {K : PySem.W.Frag} {O : Addr → Prop} {H H' : Hp} {ds : Kvs} {vs : List (Key × V)} (h : DKs K O H vs ds) (s : Same H H') : DKs K O H' vs ds := DKs.evo (Evo.same s) ds vs h
theorem pairsOf_len : ∀ {ps : List PyData} {kds : List (Key × PyData)}, pairsOf ps = some kds → kds.length = ps.length
  | [], _, e => by cases e; rfl
  | p :: ps, _, e => by
    unfold pairsOf at e
    obtain ⟨q, e1, e2⟩ := Option.bind_eq_some_iff.mp e
    obtain ⟨qs, e3, rfl⟩ := Option.map_eq_some_iff.mp e2
    simp [pairsOf_len e3]
def setDP (ρ : Ro) (i : Nat) (ps : List PyData) : Fl := match pairsOf ps with
  | some kds => if i < ρ.length then .nx (ρ.set i (some (.ow (.dict (mergeD [] kds))))) else .no
  | none => .no
/-- x = dict(e), owned -/
def sAsgDP (i : Nat) (f : Ro → R (List PyData)) : Ro → Fl := fun ρ => Fl.of ρ (f ρ) (setDP ρ i)
def ownK (ρ : Ro) (i : Nat) (k : Kvs → Fl) : Fl := match ρ[i]? with
  | some (some (.ow (.dict ds))) => k ds
  | _ => .no
def putToK (ρ : Ro) (i : Nat) (ds : Kvs) (kd d : PyData) : Fl := match kyOf kd with
  | some k => if ds.length < 1000000 then .nx (ρ.set i (some (.ow (.dict (putKD ds k d))))) else .no
  | none => .no
/-- x[k] = e -/
def sPutK (i : Nat) (fk fe : Ro → R PyData) : Ro → Fl := fun ρ => ownK ρ i fun ds => Fl.of ρ (fe ρ) fun d => Fl.of ρ (fk ρ) fun kd => putToK ρ i ds kd d
theorem ownK_inv {K : PySem.W.Frag} {mg : Str → Option Value} {W : WX} {B : Hp} {G O : Addr → Prop} {H : Hp} {D : Ends} {ρ : Ro} {i : Nat} {k : Kvs → Fl} (h : SEnd K mg W B G O H D (ownK ρ i k)) : ∃ ds, ρ[i]? = some (some (.ow (.dict ds))) ∧ SEnd K mg W B G O H D (k ds) := by
  unfold ownK at h
  split at h
  · rename_i ds e
    exact ⟨ds, e, h⟩
  · exact h.elim
theorem SR.ownK {K : PySem.W.Frag} {B : Hp} {G : Addr → Prop} {fp : Nat → List Addr} {σ : St} {H : Hp} {ρ : Ro} {i : Nat} {ds : Kvs} (S : SR K B G fp σ H ρ) (h : ρ[i]? = some (some (.ow (.dict ds)))) :
    ∃ a xs, σ[i]? = some (some (.ref a)) ∧ a ∈ fp i ∧ H a = some (.dK xs) ∧ DKs K (Ow G fp) H xs ds ∧ ds.length ≤ 1000000 ∧ i < ρ.length := by
  obtain ⟨v, h1, a, rfl, h3, xs, q1, q2, q3⟩ := S.slot i _ h
  exact ⟨a, xs, h1, h3, q1, q2, q3, (List.getElem?_eq_some_iff.mp h).1⟩
def keyK (kv : PyData × PyData) : Bool := match kv.1 with
  | .int _ => true
  | .str x => PyData.canLay0 (.str x) && decide (x.length ≤ 1000000)
  | _ => false
def keysK : PyData → R (List PyData)
  | .dict ds => if ds.all keyK && (!ds.isEmpty && decide (ds.length ≤ 1000000)) then .ok (ds.map (·.1)) else .no
  | _ => .no
def dKeysK (f : Ro → R PyData) : Ro → R (List PyData) := fun ρ => (f ρ).bind keysK
theorem keysK_DO {K : PySem.W.Frag} {O : Addr → Prop} {H : Hp} : ∀ {ds : Kvs} {kvs : List (Key × V)}, DKs K O H kvs ds → ds.all keyK = true → DOs K O H (kvs.map fun kv => kV kv.1) (ds.map (·.1))
  | [], _, h, _ => by cases h; exact .nil
  | (_, d) :: ds, _, h, ha => by
    cases h with
    | @cons k v vs _ _ a b =>
      rw [List.all_cons, Bool.and_eq_true] at ha
      refine .cons ?_ (keysK_DO b ha.2)
      cases k with
      | inl i => exact .int i
      | inr x =>
        have := ha.1
        unfold keyK keyD at this
        simp only [Bool.and_eq_true, decide_eq_true_eq] at this
        exact .str x this
section
variable {X : Cx} {W : WX} {o e k v : Expr} {f : Ro → R (List PyData)} {fk fe : Ro → R PyData} {pos pos' pos2 apos p : Pos} {i : Nat} {x : Str}
theorem psd_setDP (hc : X.calm = true) (hg : Gl X "dict") (hm : X.mg "dict" = none) (hN : X.N.Nodup) (hi : X.N[i]? = some x) (hx : Loc X.env.scope x) (ha : PL X W e f) (hst : starEach [e] X.env = (false, eval e X.env) :: starEach [] X.env := by rfl) (hpl : (backTo pos2 (starEach [] X.env)).any (·.1) = false := by rfl)
    (hs : swapsWith (.Call (.Name "dict" p) [e] [] pos2) (some (.Name x pos')) pos.line X.env = pure false := by rfl) (hf : X.fn x = true ∨ X.env.scope.names.lookup x = some .local := by first | exact .inl rfl | exact .inr rfl | assumption) :
    PSD X W (.Assign [.Name x pos'] (.Call (.Name "dict" p) [e] [] pos2) pos) (sAsgDP i f) := by
  refine psW (ps_set hN hi hx (pe_callTy (x := "dict") (call_dictP hc) hg hm (by decide +kernel) (pa_cons ha pa_nil hst) (by decide) (by decide) hst hpl) hs hf) fun D σ H h => ?_
  obtain ⟨B, G, fp, ρ, S, h⟩ := h
  unfold tAsg tCB tCons tNil gName
  refine tL_iff.mpr ⟨B, G, fp, ρ, S, h.aft S fun ps _ h => fun a xs H1 s1 r1 d1 hz => ?_⟩
  unfold setDP at h
  split at h
  · rename_i kds ek
    split at h
    · rename_i hi
      obtain ⟨as, kvs, rfl, h2, h3⟩ := pairs_read d1 ek
      refine ⟨a, as, kvs, rfl, .inl r1, h2, fun q hq => ?_⟩
      have hl := mergeD_len kds []
      have hpl := pairsOf_len ek
      have S1 := S.mono s1
      have hd : DKs X.K (Ow G fp) H1 (mergeK [] kvs) (mergeD [] kds) := dks_merge .nil h3
      obtain ⟨S2, ev⟩ := S1.own (i := i) (o := .dK (mergeK [] kvs)) (c0 := .ow (.dict (mergeD [] kds))) hq (same_new hq) upd_same ⟨q, rfl, by simp, _, upd_same, DKs.evo (Evo.put hq) _ _ hd, by simp at hl; omega⟩ hi
      exact h _ _ _ S2 ((Evo.same s1).trans ev)
    · exact h.elim
  · exact h.elim
theorem psd_putK (hu : X.A.units + 1 < cLine) (ho : PE X o (tVar i)) (hk : PD X W k fk) (he : PD X W e fe) (hs : swapsWith e (some (.Subscript o k pos')) pos.line X.env = pure false := by rfl) : PSD X W (.Assign [.Subscript o k pos'] e pos) (sPutK i fk fe) := by
  refine psW (ps_dput hu ho hk he hs) fun D σ H h => ?_
  obtain ⟨B, G, fp, ρ, S, h⟩ := h
  obtain ⟨ds, e1, h⟩ := ownK_inv h
  obtain ⟨a, xs, h1, h2, h3, h4, h5, h6⟩ := S.ownK e1
  refine tD_iff.mpr ⟨B, G, fp, ρ, S, h.aft S fun d _ h v H1 s1 dv => ⟨.ref a, h1, ?_⟩⟩
  have h := SEnd.later (Evo.same s1) h
  refine tD_iff.mpr ⟨B, G, fp, ρ, S.mono s1, h.aft (S.mono s1) fun kd _ h y H2 s2 dk => ?_⟩
  unfold putToK at h
  split at h
  · rename_i kk en
    split at h
    · rename_i hl
      have ek := kyOf_inv en
      subst ek
      cases key_V dk
      have s12 := s1.trans s2
      have S2 := (S.mono s1).mono s2
      have h3' := s12.keep _ _ h3 rfl
      have el := dks_len h4
      refine ⟨a, _, rfl, DPut.k h3' (by rw [el]; exact lineLt (by omega)), ?_⟩
      have evo : Evo (Ow G fp) H2 (Ow G fp) (upd H2 a (.dK (putK xs kk v))) := Evo.chg (.inr ⟨i, h2⟩) h3' rfl (ntKd _)
      obtain ⟨S3, ev⟩ := S2.chg (o := .dK (putK xs kk v)) (c0 := .ow (.dict (putKD ds kk d))) h2 h6 h1 h3' rfl (ntKd _) ⟨a, rfl, h2, _, upd_same, DKs.evo evo _ _ (dks_put kk (dv.same s2) (h4.same s12)), by have := putKD_len ds kk d; omega⟩
      exact h σ _ fp S3 ((Evo.same s2).trans ev)
    · exact h.elim
  · exact h.elim
theorem pf_keysK (hc : X.calm = true) (hg : Gl X "list") (hm : X.mg "list" = none) (ha : PD X W e fe) (hs : starEach [e] X.env = (false, eval e X.env) :: starEach [] X.env := by rfl) (hpl : (backTo pos (starEach [] X.env)).any (·.1) = false := by rfl) :
    PF X W (.Call (.Name "list" p) [e] [] pos) (dKeysK fe) := by
  refine peW (pe_callTy (x := "list") (call_list_dK hc) hg hm (by decide +kernel) (pa_cons ha pa_nil hs) (by decide) (by decide) hs hpl) fun σ H Q h => ?_
  obtain ⟨B, G, fp, ρ, S, h⟩ := tFr_iff.mp h
  refine tD_iff.mpr ⟨B, G, fp, ρ, S, Aft.bind h fun d e1 h => fun v H1 s1 d1 => ?_⟩
  unfold keysK at h
  split at h
  · rename_i ds
    split at h
    · rename_i hk
      rw [Bool.and_eq_true, Bool.and_eq_true] at hk
      obtain ⟨hk1, hk2, hk3⟩ := hk
      have hl : ds.length ≤ 1000000 := of_decide_eq_true hk3
      cases d1 with
      | dct s n kk => exact ⟨_, _, rfl, s, fun p hp => h p _ _ (s1.free hp) (s1.trans (same_new hp)) upd_same ((keysK_DO kk hk1).laid hp) (by rw [List.length_map]; exact hl)⟩
      | shr s n c q1 q2 m => exact absurd hk1 (by simp [keyK])
      | dcT s n kk =>
        cases kk with
        | nil => exact absurd hk2 (by simp)
        | cons a b => exact absurd hk1 (by simp [keyK])
    · exact h.elim
  · exact h.elim
/-- x = {}, owned, its keys whole numbers or texts -/
def sAsgK (i : Nat) : Ro → Fl := fun ρ => if i < ρ.length then .nx (ρ.set i (some (.ow (.dict [])))) else .no
theorem psd_setK (hN : X.N.Nodup) (hi : X.N[i]? = some x) (hx : Loc X.env.scope x) (hs : swapsWith (.Dict [] [] p) (some (.Name x pos')) pos.line X.env = pure false := by rfl) (hf : X.fn x = true ∨ X.env.scope.names.lookup x = some .local := by first | exact .inl rfl | exact .inr rfl | assumption) :
    PSD X W (.Assign [.Name x pos'] (.Dict [] [] p) pos) (sAsgK i) := psW (ps_set hN hi hx pe_dnewK hs hf) fun D σ H h => by
  obtain ⟨B, G, fp, ρ, S, h⟩ := h
  intro p hp
  unfold sAsgK at h
  split at h
  · rename_i hi
    obtain ⟨S', ev⟩ := S.own (i := i) (o := .dK []) (c0 := .ow (.dict [])) hp (same_new hp) upd_same ⟨p, rfl, by simp, [], upd_same, .nil, by show 0 ≤ 1000000; decide⟩ hi
    exact h _ _ _ S' ev
  · exact h.elim
/-- x = {k1: v1, k2: v2}, its keys whole numbers, its values truths -/
def sAsgD2 (i : Nat) (k1 v1 k2 v2 : Ro → R PyData) : Ro → Fl := fun ρ => match k1 ρ, v1 ρ, k2 ρ, v2 ρ with
  | .ok (.int a), .ok (.bool b), .ok (.int c), .ok (.bool d) => if i < ρ.length then .nx (ρ.set i (some (.ow (.dict (mergeD [] [(.inl a, .bool b), (.inl c, .bool d)]))))) else .no
  | _, _, _, _ => .no
theorem psd_setD2 {ek1 ev1 ek2 ev2 : Expr} {k1 v1 k2 v2 : Ro → R PyData} (hN : X.N.Nodup) (hi : X.N[i]? = some x) (hx : Loc X.env.scope x) (h1 : PD X W ek1 k1) (h2 : PD X W ev1 v1) (h3 : PD X W ek2 k2) (h4 : PD X W ev2 v2) (hs : swapsWith (.Dict [some ek1, some ek2] [ev1, ev2] p) (some (.Name x pos')) pos.line X.env = pure false := by rfl) (hf : X.fn x = true ∨ X.env.scope.names.lookup x = some .local := by first | exact .inl rfl | exact .inr rfl | assumption) :
    PSD X W (.Assign [.Name x pos'] (.Dict [some ek1, some ek2] [ev1, ev2] p) pos) (sAsgD2 i k1 v1 k2 v2) := by
  refine psW (ps_set hN hi hx (pe_disp (pps_cons h1 h2 (pps_cons h3 h4 pps_nil)) rfl rfl (fun h => nomatch h) (by show 2 ≤ 15; decide)) hs hf) fun D σ H h => ?_
  obtain ⟨B, G, fp, ρ, S, h⟩ := h
  unfold sAsgD2 at h
  split at h
  · rename_i a b c d e1 e2 e3 e4
    split at h
    · rename_i hi
      intro q hq
      have Sg := S.guard (o := .dK []) hq
      unfold tPairs
      refine tD_iff.mpr ⟨B, _, fp, ρ, Sg, ?_⟩
      rw [e1]
      intro w1 H1 s1 d1
      cases d1
      refine tD_iff.mpr ⟨B, _, fp, ρ, Sg.mono s1, ?_⟩
      rw [e2]
      intro w2 H2 s2 d2
      cases d2
      unfold tPairs
      refine tD_iff.mpr ⟨B, _, fp, ρ, (Sg.mono s1).mono s2, ?_⟩
      rw [e3]
      intro w3 H3 s3 d3
      cases d3
      refine tD_iff.mpr ⟨B, _, fp, ρ, ((Sg.mono s1).mono s2).mono s3, ?_⟩
      rw [e4]
      intro w4 H4 s4 d4
      cases d4
      unfold tPairs
      have sA := ((s1.trans s2).trans s3).trans s4
      have hs0 := sA.keep _ _ (upd_same (H := H) (a := q) (o := .dK [])) rfl
      refine ⟨hs0, [(.inl a, .bl b), (.inl c, .bl d)], rfl, by show 2 ≤ 15; decide, ?_⟩
      have sm : Same H (upd H4 q (.dK (mergeK [] [(.inl a, .bl b), (.inl c, .bl d)]))) := ((same_new hq).trans sA).upd hq hs0 rfl (ntKd _)
      have hd : ∀ O H', DKs X.K O H' (mergeK [] [(.inl a, .bl b), (.inl c, .bl d)]) (mergeD [] [(.inl a, .bool b), (.inl c, .bool d)]) := fun O H' => dks_merge .nil (.cons (k := .inl a) (.bl b) (.cons (k := .inl c) (.bl d) .nil))
      obtain ⟨S2, ev⟩ := S.own (i := i) (o := .dK (mergeK [] [(.inl a, .bl b), (.inl c, .bl d)])) (c0 := .ow (.dict (mergeD [] [(.inl a, .bool b), (.inl c, .bool d)]))) hq sm upd_same ⟨q, rfl, by simp, _, upd_same, hd _ _, by have := mergeD_len [(.inl a, .bool b), (.inl c, .bool d)] []; simp at this; omega⟩ hi
      exact h _ _ _ S2 ev
    · exact h.elim
  · exact h.elim
end
end Pu

namespace Pu
open PySem PySem.Spec PyProof.Rows L2
def fb_Sharer_later : Ro → Fl :=
  (sRet (dBin addD (dBin addD (dSl (dVar 1) none (some (dVar 2))) (dTup (dCons (dBin addD (dBin ixD (dVar 1) (dVar 2)) (dC (.int 1))) dNil))) (dSl (dVar 1) (some (dBin addD (dVar 2) (dC (.int 1)))) none)))

def fb_Sharer_takers (F_likes F_may_take : List PyData → R PyData) : Ro → Fl :=
  (sSeq (sAsg (dBin ixD (dUn shRow (dVar 0)) (dVar 1)) (bName 3))
    (sRet (dAsL (dLc (dEnum (dCons (dUn shBook (dVar 0)) dNil)) (bTup 2 (bCons (bName 4) (bCons (bName 5) bNil))) (dAnd (dTest (dCallF 2 F_likes (dCons (dVar 5) (dCons (dVar 3) dNil)))) (dTest (dCallF 3 F_may_take (dCons (dUn shBook (dVar 0)) (dCons (dVar 2) (dCons (dVar 4) dNil)))))) (dVar 4) [4, 5]))))

def fb_Sharer_found (F_Sharer_takers F_Sharer_later F_Sharer_can_be : List PyData → R PyData) : Ro → Fl :=
  (sSeq (sIf (dTest (dBin eqD (dVar 1) (dCall lenD (dCons (dUn shRow (dVar 0)) dNil)))) (sRet (dCall allD (dCons (dAsL (dLc (dZip (dCons (dVar 2) (dCons (dUn shBook (dVar 0)) dNil))) (bTup 2 (bCons (bName 3) (bCons (bName 4) bNil))) dYes (dBin geD (dVar 3) (dBin ixD (dVar 4) (dC (.int 3)))) [3, 4])) dNil))) sNil)
    (sRet (dCall anyD (dCons (dAsL (dLc (dItems (dMethM 3 F_Sharer_takers (dVar 0) (dCons (dVar 1) (dCons (dVar 2) dNil)))) (bName 5) dYes (dMethM 3 F_Sharer_can_be (dVar 0) (dCons (dBin addD (dVar 1) (dC (.int 1))) (dCons (dMethM 3 F_Sharer_later (dVar 0) (dCons (dVar 2) (dCons (dVar 5) dNil))) dNil))) [5])) dNil))))

def fb_Sharer_first (F_Sharer_can_be F_Sharer_takers F_Sharer_later : List PyData → R PyData) : Ro → Fl :=
  (sSeq (sAsg (dBin tmulA (dTup (dCons (dC (.int 0)) dNil)) (dCall lenD (dCons (dUn shBook (dVar 0)) dNil))) (bName 1))
    (sSeq (sIf (dNot (dTest (dMethM 3 F_Sharer_can_be (dVar 0) (dCons (dC (.int 0)) (dCons (dVar 1) dNil))))) (sRet (dC .none)) sNil)
    (sSeq (sAsgL 2 (dLst dNil))
    (sSeq (sFor (dRange1 (dCons (dCall lenD (dCons (dUn shRow (dVar 0)) dNil)) dNil)) (bName 3) (sSeq (sAsg (dBin ixD (dAsL (dLc (dItems (dMethM 3 F_Sharer_takers (dVar 0) (dCons (dVar 3) (dCons (dVar 1) dNil)))) (bName 5) (dTest (dMethM 3 F_Sharer_can_be (dVar 0) (dCons (dBin addD (dVar 3) (dC (.int 1))) (dCons (dMethM 3 F_Sharer_later (dVar 0) (dCons (dVar 1) (dCons (dVar 5) dNil))) dNil)))) (dVar 5) [5])) (dC (.int 0))) (bName 4))
    (sSeq (sApp 2 (dVar 4))
    (sAsg (dMethM 3 F_Sharer_later (dVar 0) (dCons (dVar 1) (dCons (dVar 4) dNil))) (bName 1)))))
    (sFrz 2 (sRet (dVar 2)))))))

def fb_Standin_taker (F_likes : List PyData → R PyData) (F_may_take : List PyData → R PyData) : Ro → Fx :=
  (xSeq (xLift (sAsg (dAsL (dLc (dEnum (dCons (dSdB 0) dNil)) (bTup 2 (bCons (bName 3) (bCons (bName 4) bNil))) (dAnd (dTest (dCallF 2 F_likes (dCons (dVar 4) (dCons (dVar 1) dNil)))) (dTest (dCallF 3 F_may_take (dCons (dSdB 0) (dCons (dSdC 0) (dCons (dVar 3) dNil)))))) (dVar 3) [3, 4])) (bName 2)))
    (xRet (dBin ixD (dAsL (dCat (dOfD (dVar 2)) (dLst (dCons (dC .none) dNil)))) (dC (.int 0)))))

def fb_Standin_call (F_need_call : List PyData → R PyData) (F_Standin_taker : PyData → List PyData → RS) : Ro → Fx :=
  (xSeq (xLift (sExpr (dCallF 1 F_need_call (dCons (dTup (dCons (dVar 1) (dCons (dVar 2) dNil))) dNil))))
    (xSeq (xLift (sAsgX (dMethS 2 F_Standin_taker 0 (dCons (dTup (dCons (dVar 1) (dCons (dVar 2) dNil))) dNil)) 3))
    (xSeq (xIf (dTest (dBin isND (dVar 3) (dC .none))) (xSeq (xLift (sSdApp 0 (dTup (dCons (dTup (dCons (dVar 1) (dCons (dVar 2) dNil))) (dCons (dC .none) dNil)))))
    (xSeq (xIf (dTest (dSdS 0)) (xLift (fun ρ => .ex ⟨"Unwished", none⟩ ρ)) xNil)
    (xRet (dC .none)))) xNil)
    (xSeq (xLift (sAsg (dBin ixD (dSdB 0) (dVar 3)) (bName 4)))
    (xSeq (xLift (sAsg (dBin ixD (dBin ixD (dVar 4) (dC (.int 5))) (dCall min2D (dCons (dBin ixD (dSdC 0) (dVar 3)) (dCons (dBin subD (dCall lenD (dCons (dBin ixD (dVar 4) (dC (.int 5))) dNil)) (dC (.int 1))) dNil)))) (bTup 2 (bCons (bName 5) (bCons (bName 6) bNil)))))
    (xSeq (xLift (sSdCnt 0 (dBin addD (dBin addD (dSl (dSdC 0) none (some (dVar 3))) (dTup (dCons (dBin addD (dBin ixD (dSdC 0) (dVar 3)) (dC (.int 1))) dNil))) (dSl (dSdC 0) (some (dBin addD (dVar 3) (dC (.int 1)))) none))))
    (xSeq (xLift (sSdApp 0 (dTup (dCons (dTup (dCons (dVar 1) (dCons (dVar 2) dNil))) (dCons (dBin ixD (dVar 4) (dC (.int 0))) dNil)))))
    (xSeq (xIf (dTest (dBin eqD (dVar 5) (dC (.str "break")))) (xLift (sRaiseB (dVar 6))) xNil)
    (xSeq (xIf (dTest (dBin eqD (dVar 5) (dC (.str "echo")))) (xRet (dBin ixD (dVar 2) (dVar 6))) xNil)
    (xRet (dVar 6)))))))))))

def fb_Standin_calls : Ro → R PyData :=
  (dAsL (dLc (dSdR 0) (bTup 2 (bCons (bName 1) (bCons (bName 2) bNil))) dYes (dVar 1) [1, 2]))

def fb_Standin_taken : Ro → R PyData :=
  (dAsL (dLc (dSdR 0) (bTup 2 (bCons (bName 1) (bCons (bName 2) bNil))) dYes (dVar 2) [1, 2]))

def fb_Standin_too_much : Ro → R PyData :=
  (dAsL (dLc (dSdR 0) (bTup 2 (bCons (bName 1) (bCons (bName 2) bNil))) (dTest (dBin isND (dVar 2) (dC .none))) (dVar 1) [1, 2]))

def fb_Standin_lacking : Ro → R PyData :=
  (dAsL (dLc (dZip (dCons (dSdB 0) (dCons (dSdC 0) dNil))) (bTup 2 (bCons (bName 1) (bCons (bName 2) bNil))) (dTest (dBin ltD (dVar 2) (dBin ixD (dVar 1) (dC (.int 3))))) (dTup (dCons (dBin ixD (dVar 1) (dC (.int 0))) (dCons (dBin subD (dBin ixD (dVar 1) (dC (.int 3))) (dVar 2)) dNil))) [1, 2]))

def fb_Standin_is_fulfilled (F_Standin_lacking : PyData → List PyData → R PyData) (F_Standin_too_much : PyData → List PyData → R PyData) : Ro → R PyData :=
  (dAndV (dBin eqD (dMethR F_Standin_lacking 0) (dAsL (dLst dNil))) (dBin eqD (dMethR F_Standin_too_much 0) (dAsL (dLst dNil))))

def fb_Standin_forget : Ro → Fx :=
  (xSeq (xLift (sSdCnt 0 (dBin tmulA (dTup (dCons (dC (.int 0)) dNil)) (dCall lenD (dCons (dSdB 0) dNil)))))
    (xLift (sSdNew 0)))

def fb_is_whole : Ro → Fl :=
  (sRet (dAndV (dUn (isiD "int") (dVar 0)) (dAndV (dNotV (dUn (isiD "bool") (dVar 0))) (dChain leD leD (dVar 1) (dVar 0) (dVar 2)))))

def fb_is_word : Ro → Fl :=
  (sRet (dAndV (dUn (isiD "str") (dVar 0)) (dAndV (dChain leD leD (dC (.int 1)) (dCall lenD (dCons (dVar 0) dNil)) (dC (.int 6))) (dCall allD (dCons (dAsL (dLc (dItems (dVar 0)) (bName 1) dYes (dBin inD (dVar 1) (dC (.str "abcdefghijklmnopqrstuvwxyz"))) [1])) dNil)))))

def fb_is_leaf (F_is_whole F_is_word : List PyData → R PyData) : Ro → Fl :=
  (sRet (dOrV (dBin isND (dVar 0) (dC .none)) (dOrV (dUn (isiD "bool") (dVar 0)) (dOrV (dCallF 3 F_is_whole (dCons (dVar 0) (dCons (dUn negD (dC (.int 999))) (dCons (dC (.int 999)) dNil)))) (dCallF 1 F_is_word (dCons (dVar 0) dNil))))))

def fb_is_value (F_is_leaf : List PyData → R PyData) : Ro → Fl :=
  (sSeq (sIf (dTest (dUn (isiD "tuple") (dVar 0))) (sRet (dAndV (dBin leD (dCall lenD (dCons (dVar 0) dNil)) (dC (.int 2))) (dCall allD (dCons (dAsL (dLc (dItems (dVar 0)) (bName 1) dYes (dCallF 1 F_is_leaf (dCons (dVar 1) dNil)) [1])) dNil)))) sNil)
    (sRet (dCallF 1 F_is_leaf (dCons (dVar 0) dNil))))

def fb_need_value (F_is_value : List PyData → R PyData) : Ro → Fl :=
  (sIf (dNot (dTest (dCallF 1 F_is_value (dCons (dVar 0) dNil)))) (fun ρ => .ex ⟨"NoValue", none⟩ ρ) sNil)

def fb_kind_of : Ro → Fl :=
  (sSeq (sIf (dTest (dBin isND (dVar 0) (dC .none))) (sRet (dC (.str "none"))) sNil)
    (sSeq (sIf (dTest (dUn (isiD "bool") (dVar 0))) (sRet (dC (.str "truth"))) sNil)
    (sSeq (sIf (dTest (dUn (isiD "int") (dVar 0))) (sRet (dC (.str "number"))) sNil)
    (sSeq (sIf (dTest (dUn (isiD "str") (dVar 0))) (sRet (dC (.str "text"))) sNil)
    (sRet (dC (.str "row")))))))

def fb_sort_of (F_need_value F_kind_of : List PyData → R PyData) : Ro → Fl :=
  (sSeq (sExpr (dCallF 1 F_need_value (dCons (dVar 0) dNil)))
    (sRet (dCallF 1 F_kind_of (dCons (dVar 0) dNil))))

def fb_same_as (F_kind_of F_same_as : List PyData → R PyData) : Ro → Fl :=
  (sSeq (sIf (dTest (dBin neD (dCallF 1 F_kind_of (dCons (dVar 0) dNil)) (dCallF 1 F_kind_of (dCons (dVar 1) dNil)))) (sRet (dC (.bool false))) sNil)
    (sSeq (sIf (dTest (dBin eqD (dCallF 1 F_kind_of (dCons (dVar 0) dNil)) (dC (.str "row")))) (sRet (dAndV (dBin eqD (dCall lenD (dCons (dVar 0) dNil)) (dCall lenD (dCons (dVar 1) dNil))) (dCall allD (dCons (dAsL (dLc (dZip (dCons (dVar 0) (dCons (dVar 1) dNil))) (bTup 2 (bCons (bName 2) (bCons (bName 3) bNil))) dYes (dCallF 2 F_same_as (dCons (dVar 2) (dCons (dVar 3) dNil))) [2, 3])) dNil)))) sNil)
    (sRet (dBin eqD (dVar 0) (dVar 1)))))

def fb_same (F_need_value F_same_as : List PyData → R PyData) : Ro → Fl :=
  (sSeq (sExpr (dCallF 1 F_need_value (dCons (dVar 0) dNil)))
    (sSeq (sExpr (dCallF 1 F_need_value (dCons (dVar 1) dNil)))
    (sRet (dCallF 2 F_same_as (dCons (dVar 0) (dCons (dVar 1) dNil))))))

def fb_law_cell_at : Ro → Fl :=
  (sSeq (sIf (dTest (dBin ltD (dVar 1) (dCall lenD (dCons (dVar 0) dNil)))) (sRet (dBin ixD (dVar 0) (dVar 1))) sNil)
    (sSeq (sIf (dTest (dBin eqD (dVar 0) (dAsL (dLst dNil)))) (sRet (dC (.int 0))) sNil)
    (sRet (dBin addD (dBin mulD (dBin ixD (dVar 0) (dBin modD (dVar 1) (dCall lenD (dCons (dVar 0) dNil)))) (dC (.int 31))) (dVar 1)))))

def fb_law_mixed (F_law_cell_at : List PyData → R PyData) : Ro → Fl :=
  (sSeq (sAsg (dBin modD (dBin mulD (dBin addD (dBin addD (dCallF 2 F_law_cell_at (dCons (dVar 0) (dCons (dVar 1) dNil))) (dBin mulD (dC (.int 7919)) (dVar 1))) (dC (.int 1))) (dC (.int 48271))) (dC (.int 2147483647))) (bName 3))
    (sRet (dBin modD (dBin modD (dBin addD (dBin addD (dBin mulD (dVar 3) (dVar 3)) (dBin mulD (dC (.int 7)) (dVar 3))) (dVar 1)) (dC (.int 2147483629))) (dVar 2))))

def fb_law_word (F_law_mixed : List PyData → R PyData) : Ro → Fl :=
  (sSeq (sAsg (dC (.str "")) (bName 2))
    (sSeq (sFor (dRange1 (dCons (dBin ixD (dAsL (dLst (dCons (dC (.int 1)) (dCons (dC (.int 2)) (dCons (dC (.int 3)) (dCons (dC (.int 6)) (dCons (dC (.int 1)) (dCons (dC (.int 4)) dNil)))))))) (dCallF 3 F_law_mixed (dCons (dVar 0) (dCons (dVar 1) (dCons (dC (.int 6)) dNil))))) dNil)) (bName 3) (sAsg (dBin addD (dVar 2) (dBin ixD (dC (.str "abcdefghijklmnopqrstuvwxyz")) (dCallF 3 F_law_mixed (dCons (dVar 0) (dCons (dBin addD (dBin addD (dVar 1) (dC (.int 1))) (dVar 3)) (dCons (dC (.int 26)) dNil)))))) (bName 2)))
    (sRet (dVar 2))))

def fb_law_pool (F_law_mixed F_law_word : List PyData → R PyData) : Ro → Fl :=
  (sSeq (sAsg (dBin subD (dCallF 3 F_law_mixed (dCons (dVar 0) (dCons (dVar 1) (dCons (dC (.int 1999)) dNil)))) (dC (.int 999))) (bName 2))
    (sSeq (sAsg (dAsL (dLst (dCons (dVar 2) (dCons (dCall min2D (dCons (dC (.int 999)) (dCons (dBin addD (dVar 2) (dC (.int 1))) dNil))) (dCons (dBin ixD (dAsL (dLst (dCons (dC (.int 0)) (dCons (dC (.int 1)) (dCons (dUn negD (dC (.int 999))) (dCons (dC (.int 999)) dNil)))))) (dCallF 3 F_law_mixed (dCons (dVar 0) (dCons (dBin addD (dVar 1) (dC (.int 1))) (dCons (dC (.int 4)) dNil))))) dNil))))) (bName 3))
    (sSeq (sAsg (dCallF 2 F_law_word (dCons (dVar 0) (dCons (dBin addD (dVar 1) (dC (.int 2))) dNil))) (bName 4))
    (sSeq (sAsg (dAsL (dLst (dCons (dVar 4) (dCons (dSl (dBin addD (dVar 4) (dCallF 2 F_law_word (dCons (dVar 0) (dCons (dBin addD (dVar 1) (dC (.int 10))) dNil)))) none (some (dC (.int 6)))) (dCons (dCallF 2 F_law_word (dCons (dVar 0) (dCons (dBin addD (dVar 1) (dC (.int 20))) dNil))) dNil))))) (bName 5))
    (sRet (dTup (dCons (dVar 3) (dCons (dVar 5) dNil))))))))

def fb_law_leaf (F_law_mixed : List PyData → R PyData) : Ro → Fl :=
  (sSeq (sAsg (dCallF 3 F_law_mixed (dCons (dVar 0) (dCons (dVar 1) (dCons (dC (.int 8)) dNil)))) (bName 3))
    (sSeq (sIf (dTest (dBin ltD (dVar 3) (dC (.int 3)))) (sRet (dBin ixD (dAsL (dLst (dCons (dC .none) (dCons (dC (.bool true)) (dCons (dC (.bool false)) dNil))))) (dVar 3))) sNil)
    (sSeq (sIf (dTest (dBin ltD (dVar 3) (dC (.int 6)))) (sRet (dBin ixD (dBin ixD (dVar 2) (dC (.int 0))) (dBin subD (dVar 3) (dC (.int 3))))) sNil)
    (sRet (dBin ixD (dBin ixD (dVar 2) (dC (.int 1))) (dCallF 3 F_law_mixed (dCons (dVar 0) (dCons (dBin addD (dVar 1) (dC (.int 1))) (dCons (dC (.int 3)) dNil)))))))))

def fb_law_value (F_law_mixed F_law_leaf : List PyData → R PyData) : Ro → Fl :=
  (sSeq (sAsg (dBin ixD (dAsL (dLst (dCons (dC (.int 9)) (dCons (dC (.int 9)) (dCons (dC (.int 9)) (dCons (dC (.int 0)) (dCons (dC (.int 1)) (dCons (dC (.int 2)) dNil)))))))) (dCallF 3 F_law_mixed (dCons (dVar 0) (dCons (dVar 1) (dCons (dC (.int 6)) dNil))))) (bName 3))
    (sSeq (sIf (dTest (dBin eqD (dVar 3) (dC (.int 9)))) (sRet (dCallF 3 F_law_leaf (dCons (dVar 0) (dCons (dBin addD (dVar 1) (dC (.int 1))) (dCons (dVar 2) dNil))))) sNil)
    (sRet (dCall tupleD (dCons (dAsL (dLc (dRange1 (dCons (dVar 3) dNil)) (bName 4) dYes (dCallF 3 F_law_leaf (dCons (dVar 0) (dCons (dBin addD (dBin addD (dVar 1) (dC (.int 3))) (dBin mulD (dC (.int 3)) (dVar 4))) (dCons (dVar 2) dNil)))) [4])) dNil)))))

def fb_law_kind : Ro → Fl :=
  (sSeq (sIf (dTest (dBin isND (dVar 0) (dC .none))) (sRet (dC (.str "none"))) sNil)
    (sSeq (sIf (dTest (dUn (isiD "bool") (dVar 0))) (sRet (dC (.str "truth"))) sNil)
    (sRet (dBin ixD (dAsL (dLst (dCons (dC (.str "row")) (dCons (dC (.str "text")) (dCons (dC (.str "number")) dNil))))) (dBin addD (dCall intD (dCons (dUn (isiD "str") (dVar 0)) dNil)) (dBin mulD (dC (.int 2)) (dCall intD (dCons (dUn (isiD "int") (dVar 0)) dNil))))))))

def fb_law_same (F_law_kind F_law_same : List PyData → R PyData) : Ro → Fl :=
  (sSeq (sIf (dTest (dBin neD (dCallF 1 F_law_kind (dCons (dVar 0) dNil)) (dCallF 1 F_law_kind (dCons (dVar 1) dNil)))) (sRet (dC (.bool false))) sNil)
    (sSeq (sIf (dNot (dTest (dUn (isiD "tuple") (dVar 0)))) (sRet (dBin eqD (dVar 0) (dVar 1))) sNil)
    (sRet (dAndV (dBin eqD (dCall lenD (dCons (dVar 0) dNil)) (dCall lenD (dCons (dVar 1) dNil))) (dCall allD (dCons (dAsL (dLc (dZip (dCons (dVar 0) (dCons (dVar 1) dNil))) (bTup 2 (bCons (bName 2) (bCons (bName 3) bNil))) dYes (dCallF 2 F_law_same (dCons (dVar 2) (dCons (dVar 3) dNil))) [2, 3])) dNil))))))

def fb_law_bad_value (F_law_mixed : List PyData → R PyData) : Ro → Fl :=
  (sSeq (sAsg (dAsL (dLst (dCons (dC (.int 1000)) (dCons (dUn negD (dC (.int 1000))) (dCons (dC (.str "")) (dCons (dC (.str "A")) (dCons (dC (.str "abcdefg")) (dCons (dC (.str "a b")) (dCons (dAsL (dLst (dCons (dC (.int 1)) dNil))) (dCons (dTup (dCons (dC (.int 1)) (dCons (dC (.int 2)) (dCons (dC (.int 3)) dNil)))) (dCons (dTup (dCons (dTup (dCons (dC (.int 1)) dNil)) dNil)) (dCons (dTup (dCons (dTup dNil) dNil)) (dCons (dTup (dCons (dAsL (dLst (dCons (dC (.int 1)) dNil))) dNil)) (dCons (dDict [("a", (dC (.int 1)))]) (dCons (dTup (dCons (dC (.int 1000)) dNil)) (dCons (dTup (dCons (dC (.str "A")) dNil)) dNil)))))))))))))))) (bName 2))
    (sRet (dBin ixD (dVar 2) (dCallF 3 F_law_mixed (dCons (dVar 0) (dCons (dVar 1) (dCons (dC (.int 14)) dNil)))))))

def fb_law_which (b : Str → Bool) (a : Addr) : Ro → Fl :=
  (sSeq (sAsgL 1 (dLst (dCons (dIsE 0 a (b "NoValue")) (dCons (dIsE 0 a (b "NoLikeness")) (dCons (dIsE 0 a (b "NoCall")) (dCons (dIsE 0 a (b "NoBook")) dNil))))))
    (sSeq (sExt 1 (dLst (dCons (dIsE 0 a (b "Unwished")) (dCons (dIsE 0 a (b "Broken")) (dCons (dIsE 0 a (b "NoText")) (dCons (dIsE 0 a (b "TooMany")) dNil))))))
    (sSeq (sFrz 1 (sIf (dOr (dTest (dBin neD (dMeth isLst cntD (dVar 1) (dCons (dC (.bool true)) dNil)) (dC (.int 1)))) (dNot (dTest (dIsE 0 a true)))) (sRet (dTup (dCons (dC (.str "refused")) (dCons (dUn negD (dC (.int 1))) dNil)))) sNil))
    (sFrz 1 (sRet (dTup (dCons (dC (.str "refused")) (dCons (dMeth isLst idxD (dVar 1) (dCons (dC (.bool true)) dNil)) dNil))))))))

def fb_law_told (g : Addr) (F_ask : List PyData → R PyData) : Ro → Fl :=
  (sTry 3 whX (dCallR 0 g 2 F_ask (dCons (dVar 1) (dCons (dVar 2) dNil))))

def fb_is_bare (F_is_value F_is_whole F_is_word : List PyData → R PyData) : Ro → Fl :=
  (sSeq (sIf (dTest (dBin eqD (dBin ixD (dVar 0) (dC (.int 0))) (dC (.str "any")))) (sRet (dBin eqD (dCall lenD (dCons (dVar 0) dNil)) (dC (.int 1)))) sNil)
    (sSeq (sIf (dTest (dBin neD (dCall lenD (dCons (dVar 0) dNil)) (dC (.int 2)))) (sRet (dC (.bool false))) sNil)
    (sSeq (sIf (dTest (dBin eqD (dBin ixD (dVar 0) (dC (.int 0))) (dC (.str "is")))) (sRet (dCallF 1 F_is_value (dCons (dBin ixD (dVar 0) (dC (.int 1))) dNil))) sNil)
    (sSeq (sIf (dTest (dBin eqD (dBin ixD (dVar 0) (dC (.int 0))) (dC (.str "kind")))) (sRet (dAndV (dUn (isiD "str") (dBin ixD (dVar 0) (dC (.int 1)))) (dBin inD (dBin ixD (dVar 0) (dC (.int 1))) (dC (.tuple [.str "none", .str "truth", .str "number", .str "text", .str "row"]))))) sNil)
    (sSeq (sIf (dTest (dBin eqD (dBin ixD (dVar 0) (dC (.int 0))) (dC (.str "over")))) (sRet (dCallF 3 F_is_whole (dCons (dBin ixD (dVar 0) (dC (.int 1))) (dCons (dUn negD (dC (.int 999))) (dCons (dC (.int 999)) dNil))))) sNil)
    (sRet (dAndV (dBin eqD (dBin ixD (dVar 0) (dC (.int 0))) (dC (.str "begins"))) (dCallF 1 F_is_word (dCons (dBin ixD (dVar 0) (dC (.int 1))) dNil)))))))))

def fb_inner : Ro → Fl :=
  (sSeq (sIf (dAnd (dTest (dBin inD (dBin ixD (dVar 0) (dC (.int 0))) (dTup (dCons (dC (.str "not")) (dCons (dC (.str "has")) dNil))))) (dTest (dBin eqD (dCall lenD (dCons (dVar 0) dNil)) (dC (.int 2))))) (sRet (dAsL (dLst (dCons (dBin ixD (dVar 0) (dC (.int 1))) dNil)))) sNil)
    (sSeq (sIf (dAnd (dTest (dBin inD (dBin ixD (dVar 0) (dC (.int 0))) (dTup (dCons (dC (.str "both")) (dCons (dC (.str "either")) dNil))))) (dTest (dBin eqD (dCall lenD (dCons (dVar 0) dNil)) (dC (.int 3))))) (sRet (dAsL (dLst (dCons (dBin ixD (dVar 0) (dC (.int 1))) (dCons (dBin ixD (dVar 0) (dC (.int 2))) dNil))))) sNil)
    (sSeq (sIf (dAnd (dTest (dBin eqD (dBin ixD (dVar 0) (dC (.int 0))) (dC (.str "row")))) (dAnd (dTest (dBin eqD (dCall lenD (dCons (dVar 0) dNil)) (dC (.int 2)))) (dAnd (dTest (dUn (isiD "tuple") (dBin ixD (dVar 0) (dC (.int 1))))) (dTest (dBin leD (dCall lenD (dCons (dBin ixD (dVar 0) (dC (.int 1))) dNil)) (dC (.int 2))))))) (sRet (dAsL (dListOf (dBin ixD (dVar 0) (dC (.int 1)))))) sNil)
    (sRet (dC .none)))))

def fb_is_likeness (F_is_bare F_inner : List PyData → R PyData) : Ro → Fl :=
  (sSeq (sAsgL 1 (dLst (dCons (dVar 0) dNil)))
    (sSeq (sAsg (dC (.int 0)) (bName 2))
    (sSeq (whileGo (dTest (dBinL neD (dOwL 1) (dAsL (dLst dNil)))) (sSeq (sPop 1 3)
    (sSeq (sAsg (dBin addD (dVar 2) (dC (.int 1))) (bName 2))
    (sSeq (sIf (dOr (dTest (dBin gtD (dVar 2) (dC (.int 5)))) (dOr (dNot (dTest (dUn (isiD "tuple") (dVar 3)))) (dOr (dTest (dBin eqD (dCall lenD (dCons (dVar 3) dNil)) (dC (.int 0)))) (dNot (dTest (dUn (isiD "str") (dBin ixD (dVar 3) (dC (.int 0))))))))) (sRet (dC (.bool false))) sNil)
    (sIf (dNot (dTest (dCallF 1 F_is_bare (dCons (dVar 3) dNil)))) (sSeq (sAsg (dCallF 1 F_inner (dCons (dVar 3) dNil)) (bName 4))
    (sSeq (sIf (dTest (dBin isND (dVar 4) (dC .none))) (sRet (dC (.bool false))) sNil)
    (sExt 1 (dOfD (dVar 4))))) sNil)))) 1000)
    (sRet (dC (.bool true))))))

def fb_need_likeness (F_is_likeness : List PyData → R PyData) : Ro → Fl :=
  (sIf (dNot (dTest (dCallF 1 F_is_likeness (dCons (dVar 0) dNil)))) (fun ρ => .ex ⟨"NoLikeness", none⟩ ρ) sNil)

def fb_bare_fits (F_same_as F_kind_of : List PyData → R PyData) : Ro → Fl :=
  (sSeq (sIf (dTest (dBin eqD (dBin ixD (dVar 0) (dC (.int 0))) (dC (.str "is")))) (sRet (dCallF 2 F_same_as (dCons (dBin ixD (dVar 0) (dC (.int 1))) (dCons (dVar 1) dNil)))) sNil)
    (sSeq (sIf (dTest (dBin eqD (dBin ixD (dVar 0) (dC (.int 0))) (dC (.str "kind")))) (sRet (dBin eqD (dCallF 1 F_kind_of (dCons (dVar 1) dNil)) (dBin ixD (dVar 0) (dC (.int 1))))) sNil)
    (sSeq (sIf (dTest (dBin eqD (dBin ixD (dVar 0) (dC (.int 0))) (dC (.str "over")))) (sRet (dAndV (dBin eqD (dCallF 1 F_kind_of (dCons (dVar 1) dNil)) (dC (.str "number"))) (dBin gtD (dVar 1) (dBin ixD (dVar 0) (dC (.int 1)))))) sNil)
    (sSeq (sIf (dTest (dBin eqD (dBin ixD (dVar 0) (dC (.int 0))) (dC (.str "begins")))) (sRet (dAndV (dBin eqD (dCallF 1 F_kind_of (dCons (dVar 1) dNil)) (dC (.str "text"))) (dMeth isStr startsD (dVar 1) (dCons (dBin ixD (dVar 0) (dC (.int 1))) dNil)))) sNil)
    (sRet (dC (.bool true)))))))

def fb_fits_value (F_fits_value F_kind_of F_bare_fits : List PyData → R PyData) : Ro → Fl :=
  (sSeq (sAsg (dBin ixD (dVar 0) (dC (.int 0))) (bName 2))
    (sSeq (sIf (dTest (dBin eqD (dVar 2) (dC (.str "not")))) (sRet (dNotV (dCallF 2 F_fits_value (dCons (dBin ixD (dVar 0) (dC (.int 1))) (dCons (dVar 1) dNil))))) sNil)
    (sSeq (sIf (dTest (dBin eqD (dVar 2) (dC (.str "both")))) (sRet (dAndV (dCallF 2 F_fits_value (dCons (dBin ixD (dVar 0) (dC (.int 1))) (dCons (dVar 1) dNil))) (dCallF 2 F_fits_value (dCons (dBin ixD (dVar 0) (dC (.int 2))) (dCons (dVar 1) dNil))))) sNil)
    (sSeq (sIf (dTest (dBin eqD (dVar 2) (dC (.str "either")))) (sRet (dOrV (dCallF 2 F_fits_value (dCons (dBin ixD (dVar 0) (dC (.int 1))) (dCons (dVar 1) dNil))) (dCallF 2 F_fits_value (dCons (dBin ixD (dVar 0) (dC (.int 2))) (dCons (dVar 1) dNil))))) sNil)
    (sSeq (sIf (dTest (dBin eqD (dVar 2) (dC (.str "has")))) (sRet (dAndV (dBin eqD (dCallF 1 F_kind_of (dCons (dVar 1) dNil)) (dC (.str "row"))) (dCall anyD (dCons (dAsL (dLc (dItems (dVar 1)) (bName 3) dYes (dCallF 2 F_fits_value (dCons (dBin ixD (dVar 0) (dC (.int 1))) (dCons (dVar 3) dNil))) [3])) dNil)))) sNil)
    (sSeq (sIf (dTest (dBin eqD (dVar 2) (dC (.str "row")))) (sSeq (sIf (dOr (dTest (dBin neD (dCallF 1 F_kind_of (dCons (dVar 1) dNil)) (dC (.str "row")))) (dTest (dBin neD (dCall lenD (dCons (dVar 1) dNil)) (dCall lenD (dCons (dBin ixD (dVar 0) (dC (.int 1))) dNil))))) (sRet (dC (.bool false))) sNil)
    (sRet (dCall allD (dCons (dAsL (dLc (dZip (dCons (dBin ixD (dVar 0) (dC (.int 1))) (dCons (dVar 1) dNil))) (bTup 2 (bCons (bName 4) (bCons (bName 3) bNil))) dYes (dCallF 2 F_fits_value (dCons (dVar 4) (dCons (dVar 3) dNil))) [4, 3])) dNil)))) sNil)
    (sRet (dCallF 2 F_bare_fits (dCons (dVar 0) (dCons (dVar 1) dNil))))))))))

def fb_fits (F_need_likeness F_need_value F_fits_value : List PyData → R PyData) : Ro → Fl :=
  (sSeq (sExpr (dCallF 1 F_need_likeness (dCons (dVar 0) dNil)))
    (sSeq (sExpr (dCallF 1 F_need_value (dCons (dVar 1) dNil)))
    (sRet (dCallF 2 F_fits_value (dCons (dVar 0) (dCons (dVar 1) dNil))))))

def fb_law_bare (F_law_mixed F_law_value : List PyData → R PyData) : Ro → Fl :=
  (sSeq (sAsg (dCallF 3 F_law_mixed (dCons (dVar 0) (dCons (dVar 1) (dCons (dC (.int 9)) dNil)))) (bName 3))
    (sSeq (sIf (dTest (dBin ltD (dVar 3) (dC (.int 3)))) (sRet (dTup (dCons (dC (.str "is")) (dCons (dCallF 3 F_law_value (dCons (dVar 0) (dCons (dBin addD (dVar 1) (dC (.int 1))) (dCons (dVar 2) dNil)))) dNil)))) sNil)
    (sSeq (sIf (dTest (dBin ltD (dVar 3) (dC (.int 5)))) (sRet (dTup (dCons (dC (.str "over")) (dCons (dBin ixD (dBin ixD (dVar 2) (dC (.int 0))) (dCallF 3 F_law_mixed (dCons (dVar 0) (dCons (dBin addD (dVar 1) (dC (.int 1))) (dCons (dC (.int 3)) dNil))))) dNil)))) sNil)
    (sSeq (sIf (dTest (dBin ltD (dVar 3) (dC (.int 7)))) (sRet (dTup (dCons (dC (.str "begins")) (dCons (dBin ixD (dBin ixD (dVar 2) (dC (.int 1))) (dCallF 3 F_law_mixed (dCons (dVar 0) (dCons (dBin addD (dVar 1) (dC (.int 1))) (dCons (dC (.int 3)) dNil))))) dNil)))) sNil)
    (sSeq (sIf (dTest (dBin eqD (dVar 3) (dC (.int 7)))) (sRet (dTup (dCons (dC (.str "kind")) (dCons (dBin ixD (dAsL (dLst (dCons (dC (.str "none")) (dCons (dC (.str "truth")) (dCons (dC (.str "number")) (dCons (dC (.str "text")) (dCons (dC (.str "row")) dNil))))))) (dCallF 3 F_law_mixed (dCons (dVar 0) (dCons (dBin addD (dVar 1) (dC (.int 1))) (dCons (dC (.int 5)) dNil))))) dNil)))) sNil)
    (sRet (dTup (dCons (dC (.str "any")) dNil))))))))

def fb_law_likeness (F_law_mixed F_law_bare F_law_likeness : List PyData → R PyData) : Ro → Fl :=
  (sSeq (sAsg (dCallF 3 F_law_mixed (dCons (dVar 0) (dCons (dVar 1) (dCons (dC (.int 12)) dNil)))) (bName 4))
    (sSeq (sIf (dOr (dTest (dBin ltD (dVar 4) (dC (.int 4)))) (dTest (dBin ltD (dVar 3) (dC (.int 2))))) (sRet (dCallF 3 F_law_bare (dCons (dVar 0) (dCons (dBin addD (dVar 1) (dC (.int 1))) (dCons (dVar 2) dNil))))) sNil)
    (sSeq (sIf (dTest (dBin ltD (dVar 4) (dC (.int 6)))) (sRet (dTup (dCons (dC (.str "not")) (dCons (dCallF 4 F_law_likeness (dCons (dVar 0) (dCons (dBin addD (dVar 1) (dC (.int 12))) (dCons (dVar 2) (dCons (dBin subD (dVar 3) (dC (.int 1))) dNil))))) dNil)))) sNil)
    (sSeq (sIf (dTest (dBin eqD (dVar 4) (dC (.int 6)))) (sRet (dTup (dCons (dC (.str "has")) (dCons (dCallF 4 F_law_likeness (dCons (dVar 0) (dCons (dBin addD (dVar 1) (dC (.int 12))) (dCons (dVar 2) (dCons (dBin subD (dVar 3) (dC (.int 1))) dNil))))) dNil)))) sNil)
    (sSeq (sIf (dTest (dBin ltD (dVar 3) (dC (.int 3)))) (sRet (dTup (dCons (dC (.str "row")) (dCons (dTup dNil) dNil)))) sNil)
    (sSeq (sAsg (dAsL (dLc (dRange1 (dCons (dC (.int 2)) dNil)) (bName 6) dYes (dCallF 4 F_law_likeness (dCons (dVar 0) (dCons (dBin addD (dBin addD (dVar 1) (dC (.int 14))) (dBin mulD (dC (.int 60)) (dVar 6))) (dCons (dVar 2) (dCons (dBin fdivD (dBin subD (dVar 3) (dC (.int 1))) (dC (.int 2))) dNil))))) [6])) (bName 5))
    (sSeq (sIf (dTest (dBin ltD (dVar 4) (dC (.int 9)))) (sRet (dTup (dCons (dC (.str "row")) (dCons (dCall tupleD (dCons (dAsL (dSlL (dOfD (dVar 5)) none (some (dBin addD (dC (.int 1)) (dBin modD (dVar 4) (dC (.int 2))))))) dNil)) dNil)))) sNil)
    (sRet (dTup (dCons (dBin ixD (dAsL (dLst (dCons (dC (.str "both")) (dCons (dC (.str "either")) (dCons (dC (.str "both")) dNil))))) (dBin subD (dVar 4) (dC (.int 9)))) (dCons (dBin ixD (dVar 5) (dC (.int 0))) (dCons (dBin ixD (dVar 5) (dC (.int 1))) dNil))))))))))))

def fb_law_fits (F_law_kind F_law_same F_law_fits : List PyData → R PyData) : Ro → Fl :=
  (sSeq (sAsg (dBin ixD (dVar 0) (dC (.int 0))) (bName 2))
    (sSeq (sAsg (dCallF 1 F_law_kind (dCons (dVar 1) dNil)) (bName 3))
    (sSeq (sIf (dTest (dBin eqD (dVar 2) (dC (.str "is")))) (sRet (dCallF 2 F_law_same (dCons (dBin ixD (dVar 0) (dC (.int 1))) (dCons (dVar 1) dNil)))) sNil)
    (sSeq (sIf (dTest (dBin eqD (dVar 2) (dC (.str "kind")))) (sRet (dBin eqD (dBin ixD (dVar 0) (dC (.int 1))) (dVar 3))) sNil)
    (sSeq (sIf (dTest (dBin eqD (dVar 2) (dC (.str "over")))) (sRet (dAndV (dBin eqD (dVar 3) (dC (.str "number"))) (dBin gtD (dVar 1) (dBin ixD (dVar 0) (dC (.int 1)))))) sNil)
    (sSeq (sIf (dTest (dBin eqD (dVar 2) (dC (.str "begins")))) (sRet (dAndV (dBin eqD (dVar 3) (dC (.str "text"))) (dBin eqD (dSl (dVar 1) none (some (dCall lenD (dCons (dBin ixD (dVar 0) (dC (.int 1))) dNil)))) (dBin ixD (dVar 0) (dC (.int 1)))))) sNil)
    (sSeq (sIf (dTest (dBin eqD (dVar 2) (dC (.str "not")))) (sRet (dNotV (dCallF 2 F_law_fits (dCons (dBin ixD (dVar 0) (dC (.int 1))) (dCons (dVar 1) dNil))))) sNil)
    (sSeq (sIf (dTest (dBin eqD (dVar 2) (dC (.str "has")))) (sRet (dAndV (dBin eqD (dVar 3) (dC (.str "row"))) (dCall anyD (dCons (dAsL (dLc (dItems (dVar 1)) (bName 5) dYes (dCallF 2 F_law_fits (dCons (dBin ixD (dVar 0) (dC (.int 1))) (dCons (dVar 5) dNil))) [5])) dNil)))) sNil)
    (sSeq (sIf (dTest (dBin eqD (dVar 2) (dC (.str "row")))) (sSeq (sIf (dOr (dTest (dBin neD (dVar 3) (dC (.str "row")))) (dTest (dBin neD (dCall lenD (dCons (dVar 1) dNil)) (dCall lenD (dCons (dBin ixD (dVar 0) (dC (.int 1))) dNil))))) (sRet (dC (.bool false))) sNil)
    (sRet (dCall allD (dCons (dAsL (dLc (dZip (dCons (dBin ixD (dVar 0) (dC (.int 1))) (dCons (dVar 1) dNil))) (bTup 2 (bCons (bName 6) (bCons (bName 5) bNil))) dYes (dCallF 2 F_law_fits (dCons (dVar 6) (dCons (dVar 5) dNil))) [6, 5])) dNil)))) sNil)
    (sSeq (sIf (dTest (dBin eqD (dVar 2) (dC (.str "any")))) (sRet (dC (.bool true))) sNil)
    (sSeq (sAsg (dAsL (dLst (dCons (dCallF 2 F_law_fits (dCons (dBin ixD (dVar 0) (dC (.int 1))) (dCons (dVar 1) dNil))) (dCons (dCallF 2 F_law_fits (dCons (dBin ixD (dVar 0) (dC (.int 2))) (dCons (dVar 1) dNil))) dNil)))) (bName 4))
    (sRet (dBin geD (dMeth isLst cntD (dVar 4) (dCons (dC (.bool true)) dNil)) (dBin ixD (dAsL (dLst (dCons (dC (.int 1)) (dCons (dC (.int 2)) dNil)))) (dCall intD (dCons (dBin eqD (dVar 2) (dC (.str "both"))) dNil))))))))))))))))

def fb_law_bad_likeness (F_law_mixed : List PyData → R PyData) : Ro → Fl :=
  (sSeq (sAsg (dTup (dCons (dC (.str "any")) dNil)) (bName 2))
    (sSeq (sAsgL 3 (dLst (dCons (dC .none) (dCons (dC (.str "any")) (dCons (dAsL (dLst (dCons (dC (.str "any")) dNil))) (dCons (dTup (dCons (dC (.str "any")) (dCons (dC (.int 1)) dNil))) (dCons (dTup (dCons (dC (.str "is")) dNil)) (dCons (dTup (dCons (dC (.str "is")) (dCons (dAsL (dLst (dCons (dC (.int 1)) dNil))) dNil))) (dCons (dTup (dCons (dC (.str "is")) (dCons (dC (.int 1000)) dNil))) (dCons (dTup (dCons (dC (.str "kind")) (dCons (dC (.str "int")) dNil))) (dCons (dTup dNil) dNil)))))))))))
    (sSeq (sExt 3 (dLst (dCons (dTup (dCons (dC (.str "kind")) (dCons (dC .none) dNil))) (dCons (dTup (dCons (dC (.str "over")) (dCons (dC (.bool true)) dNil))) (dCons (dTup (dCons (dC (.str "over")) (dCons (dC (.int 1000)) dNil))) (dCons (dTup (dCons (dC (.str "over")) (dCons (dC (.str "a")) dNil))) (dCons (dTup (dCons (dC (.str "begins")) (dCons (dC (.str "")) dNil))) (dCons (dTup (dCons (dC (.str "begins")) (dCons (dC (.int 1)) dNil))) dNil))))))))
    (sSeq (sExt 3 (dLst (dCons (dTup (dCons (dC (.str "begins")) (dCons (dC (.str "A")) dNil))) (dCons (dTup (dCons (dC (.str "like")) (dCons (dC (.int 1)) dNil))) (dCons (dTup (dCons (dC (.str "not")) dNil)) (dCons (dTup (dCons (dC (.str "not")) (dCons (dC .none) dNil))) (dCons (dTup (dCons (dC (.str "not")) (dCons (dVar 2) (dCons (dVar 2) dNil)))) (dCons (dTup (dCons (dC (.str "both")) (dCons (dVar 2) dNil))) dNil))))))))
    (sSeq (sExt 3 (dLst (dCons (dTup (dCons (dC (.str "either")) (dCons (dVar 2) (dCons (dC .none) dNil)))) (dCons (dTup (dCons (dC (.str "row")) (dCons (dVar 2) dNil))) (dCons (dTup (dCons (dC (.str "row")) (dCons (dBin tmulD (dTup (dCons (dVar 2) dNil)) (dC (.int 3))) dNil))) (dCons (dTup (dCons (dC (.str "row")) (dCons (dAsL (dLst (dCons (dVar 2) dNil))) dNil))) (dCons (dTup (dCons (dC (.str "row")) (dCons (dTup (dCons (dC .none) dNil)) dNil))) dNil)))))))
    (sSeq (sExt 3 (dLst (dCons (dTup (dCons (dC (.str "has")) (dCons (dTup dNil) dNil))) (dCons (dTup (dCons (dC (.int 1)) (dCons (dC (.int 2)) dNil))) (dCons (dTup (dCons (dC (.str "both")) (dCons (dVar 2) (dCons (dVar 2) (dCons (dVar 2) dNil))))) dNil)))))
    (sSeq (sApp 3 (dTup (dCons (dC (.str "not")) (dCons (dTup (dCons (dC (.str "not")) (dCons (dTup (dCons (dC (.str "not")) (dCons (dTup (dCons (dC (.str "not")) (dCons (dTup (dCons (dC (.str "not")) (dCons (dVar 2) dNil))) dNil))) dNil))) dNil))) dNil))))
    (sSeq (sApp 3 (dTup (dCons (dC (.str "both")) (dCons (dTup (dCons (dC (.str "both")) (dCons (dVar 2) (dCons (dVar 2) dNil)))) (dCons (dTup (dCons (dC (.str "not")) (dCons (dTup (dCons (dC (.str "not")) (dCons (dVar 2) dNil))) dNil))) dNil)))))
    (sFrz 3 (sRet (dBin ixD (dVar 3) (dCallF 3 F_law_mixed (dCons (dVar 0) (dCons (dVar 1) (dCons (dC (.int 31)) dNil)))))))))))))))

def fb_bare_parts (F_is_bare F_inner F_bare_parts : List PyData → R PyData) : Ro → Fl :=
  (sSeq (sIf (dTest (dCallF 1 F_is_bare (dCons (dVar 0) dNil))) (sRet (dAsL (dLst (dCons (dVar 0) dNil)))) sNil)
    (sSeq (sAsgL 1 (dLst dNil))
    (sSeq (sFor (dItems (dCallF 1 F_inner (dCons (dVar 0) dNil))) (bName 2) (sExt 1 (dOfD (dCallF 1 F_bare_parts (dCons (dVar 2) dNil)))))
    (sFrz 1 (sRet (dVar 1))))))

def fb_told_values : Ro → Fl :=
  (sSeq (sAsgL 1 (dLst dNil))
    (sSeq (sFor (dItems (dVar 0)) (bName 2) (sIf (dTest (dBin eqD (dBin ixD (dVar 2) (dC (.int 0))) (dC (.str "is")))) (sSeq (sApp 1 (dBin ixD (dVar 2) (dC (.int 1))))
    (sIf (dTest (dUn (isiD "tuple") (dBin ixD (dVar 2) (dC (.int 1))))) (sExt 1 (dListOf (dBin ixD (dVar 2) (dC (.int 1))))) sNil)) sNil))
    (sFrz 1 (sRet (dVar 1)))))

def fb_numbers_for : Ro → Fl :=
  (sSeq (sAsg (dAsL (dLc (dItems (dVar 1)) (bName 6) (dAnd (dTest (dUn (isiD "int") (dVar 6))) (dNot (dTest (dUn (isiD "bool") (dVar 6))))) (dVar 6) [6])) (bName 2))
    (sSeq (sAsgDP 3 (dLc (dItems (dVar 2)) (bName 6) dYes (dTup (dCons (dVar 6) (dCons (dC (.bool true)) dNil))) [6]))
    (sSeq (sFor (dItems (dAsL (dCat (dLst (dCons (dUn negD (dC (.int 999))) dNil)) (dLc (dItems (dVar 0)) (bName 7) (dTest (dBin eqD (dBin ixD (dVar 7) (dC (.int 0))) (dC (.str "over")))) (dBin addD (dBin ixD (dVar 7) (dC (.int 1))) (dC (.int 1))) [7])))) (bName 4) (sSeq (sAsg (dVar 4) (bName 5))
    (sSeq (whileGo (dTest (dBin inD (dVar 5) (dVar 2))) (sAsg (dBin addD (dVar 5) (dC (.int 1))) (bName 5)) 1000)
    (sIf (dTest (dBin leD (dVar 5) (dC (.int 999)))) (sPutK 3 (dVar 5) (dC (.bool true))) sNil))))
    (sFrz 3 (sRet (dAsL (dSorted (dKeysK (dVar 3)))))))))

def fb_one_longer : Ro → Fl :=
  (sFor (dItems (dC (.str "abcdefghijklmnopqrstuvwxyz"))) (bName 2) (sIf (dNot (dTest (dCall anyD (dCons (dAsL (dLc (dItems (dVar 1)) (bName 3) dYes (dMeth isStr startsD (dVar 3) (dCons (dBin addD (dVar 0) (dVar 2)) dNil)) [3])) dNil)))) (sRet (dBin addD (dVar 0) (dVar 2))) sNil))

def fb_texts_for (F_one_longer : List PyData → R PyData) : Ro → Fl :=
  (sSeq (sAsgL 2 (dLc (dItems (dVar 1)) (bName 5) (dTest (dUn (isiD "str") (dVar 5))) (dVar 5) [5]))
    (sSeq (sExt 2 (dLc (dItems (dVar 0)) (bName 6) (dTest (dBin eqD (dBin ixD (dVar 6) (dC (.int 0))) (dC (.str "begins")))) (dBin ixD (dVar 6) (dC (.int 1))) [6]))
    (sSeq (sFrz 2 (sAsgDP 3 (dLc (dItems (dVar 2)) (bName 4) dYes (dTup (dCons (dVar 4) (dCons (dC (.bool true)) dNil))) [4])))
    (sSeq (sFrz 2 (sFor (dItems (dAsL (dCat (dLst (dCons (dC (.str "")) dNil)) (dOfD (dVar 2))))) (bName 4) (sFrz 2 (sIf (dTest (dBin ltD (dCall lenD (dCons (dVar 4) dNil)) (dC (.int 6)))) (sFrz 2 (sPutK 3 (dCallF 2 F_one_longer (dCons (dVar 4) (dCons (dVar 2) dNil))) (dC (.bool true)))) sNil))))
    (sFrz 3 (sRet (dAsL (dSorted (dKeysK (dVar 3))))))))))

def fb_values_for (F_told_values F_numbers_for F_texts_for : List PyData → R PyData) : Ro → Fl :=
  (sSeq (sAsg (dCallF 1 F_told_values (dCons (dVar 0) dNil)) (bName 1))
    (sSeq (sAsg (dAsL (dCat (dCat (dLst (dCons (dC .none) (dCons (dC (.bool false)) (dCons (dC (.bool true)) dNil)))) (dOfD (dCallF 2 F_numbers_for (dCons (dVar 0) (dCons (dVar 1) dNil))))) (dOfD (dCallF 2 F_texts_for (dCons (dVar 0) (dCons (dVar 1) dNil)))))) (bName 2))
    (sSeq (sAsgL 3 (dCat (dCat (dListOf (dVar 2)) (dLst (dCons (dTup dNil) dNil))) (dLc (dItems (dVar 2)) (bName 4) dYes (dTup (dCons (dVar 4) dNil)) [4])))
    (sSeq (sFor (dItems (dVar 2)) (bName 4) (sExt 3 (dLc (dItems (dVar 2)) (bName 5) dYes (dTup (dCons (dVar 4) (dCons (dVar 5) dNil))) [5])))
    (sFrz 3 (sRet (dVar 3)))))))

def fb_sample_of (F_bare_parts F_values_for F_fits_value : List PyData → R PyData) : Ro → Fl :=
  (sSeq (sFor (dItems (dCallF 1 F_values_for (dCons (dCallF 1 F_bare_parts (dCons (dVar 0) dNil)) dNil))) (bName 1) (sIf (dTest (dCallF 2 F_fits_value (dCons (dVar 0) (dCons (dVar 1) dNil)))) (sRet (dTup (dCons (dVar 1) dNil))) sNil))
    (sRet (dC .none)))

def fb_sample (F_need_likeness F_sample_of : List PyData → R PyData) : Ro → Fl :=
  (sSeq (sExpr (dCallF 1 F_need_likeness (dCons (dVar 0) dNil)))
    (sRet (dCallF 1 F_sample_of (dCons (dVar 0) dNil))))

def fb_law_sorts : Ro → Fl :=
  (sSeq (sAsgL 1 (dLst (dCons (dC .none) (dCons (dC (.bool true)) (dCons (dC (.bool false)) dNil)))))
    (sSeq (sAsgD2 2 (dUn negD (dC (.int 999))) (dC (.bool true)) (dC (.int 999)) (dC (.bool true)))
    (sSeq (sFor (dItems (dBin ixD (dVar 0) (dC (.int 0)))) (bName 3) (sFor (dRange2 (dCons (dUn negD (dC (.int 1))) (dCons (dC (.int 5)) dNil))) (bName 4) (sIf (dTest (dChain leD leD (dUn negD (dC (.int 999))) (dBin addD (dVar 3) (dVar 4)) (dC (.int 999)))) (sPutK 2 (dBin addD (dVar 3) (dVar 4)) (dC (.bool true))) sNil)))
    (sSeq (sAsgK 5)
    (sSeq (sFor (dItems (dAsL (dCat (dLst (dCons (dC (.str "")) dNil)) (dOfD (dBin ixD (dVar 0) (dC (.int 1))))))) (bName 6) (sSeq (sFor (dItems (dC (.str "abcdefghijklmnopqrstuvwxyz"))) (bName 7) (sSeq (sAsg (dAsL (dLc (dItems (dBin ixD (dVar 0) (dC (.int 1)))) (bName 11) (dTest (dMeth isStr startsD (dVar 11) (dCons (dBin addD (dVar 6) (dVar 7)) dNil))) (dVar 11) [11])) (bName 8))
    (sIf (dAnd (dTest (dBin ltD (dCall lenD (dCons (dVar 6) dNil)) (dC (.int 6)))) (dTest (dBin eqD (dVar 8) (dAsL (dLst dNil))))) (sSeq (sPutK 5 (dBin addD (dVar 6) (dVar 7)) (dC (.bool true)))
    (fun ρ => .bk ρ)) sNil)))
    (sIf (dTest (dBin neD (dVar 6) (dC (.str "")))) (sPutK 5 (dVar 6) (dC (.bool true))) sNil)))
    (sSeq (sFrz 2 (sExt 1 (dSorted (dKeysK (dVar 2)))))
    (sSeq (sFrz 5 (sExt 1 (dSorted (dKeysK (dVar 5)))))
    (sSeq (sFrz 1 (sAsgL 9 (dCat (dCat (dOfD (dVar 1)) (dLst (dCons (dTup dNil) dNil))) (dLc (dItems (dVar 1)) (bName 10) dYes (dTup (dCons (dVar 10) dNil)) [10]))))
    (sSeq (sFrz 1 (sFor (dItems (dVar 1)) (bName 10) (sFrz 1 (sExt 9 (dLc (dItems (dVar 1)) (bName 11) dYes (dTup (dCons (dVar 10) (dCons (dVar 11) dNil))) [11])))))
    (sFrz 9 (sRet (dVar 9))))))))))))

def fb_is_less (F_need_likeness F_sample_of : List PyData → R PyData) : Ro → Fl :=
  (sSeq (sExpr (dCallF 1 F_need_likeness (dCons (dVar 0) dNil)))
    (sSeq (sExpr (dCallF 1 F_need_likeness (dCons (dVar 1) dNil)))
    (sRet (dBin isND (dCallF 1 F_sample_of (dCons (dTup (dCons (dC (.str "both")) (dCons (dVar 0) (dCons (dTup (dCons (dC (.str "not")) (dCons (dVar 1) dNil))) dNil)))) dNil)) (dC .none)))))

def fb_is_answer (F_is_value F_is_word F_is_whole : List PyData → R PyData) : Ro → Fl :=
  (sSeq (sIf (dOr (dNot (dTest (dUn (isiD "tuple") (dVar 0)))) (dOr (dTest (dBin neD (dCall lenD (dCons (dVar 0) dNil)) (dC (.int 2)))) (dNot (dTest (dUn (isiD "str") (dBin ixD (dVar 0) (dC (.int 0)))))))) (sRet (dC (.bool false))) sNil)
    (sSeq (sIf (dTest (dBin eqD (dBin ixD (dVar 0) (dC (.int 0))) (dC (.str "give")))) (sRet (dCallF 1 F_is_value (dCons (dBin ixD (dVar 0) (dC (.int 1))) dNil))) sNil)
    (sSeq (sIf (dTest (dBin eqD (dBin ixD (dVar 0) (dC (.int 0))) (dC (.str "break")))) (sRet (dCallF 1 F_is_word (dCons (dBin ixD (dVar 0) (dC (.int 1))) dNil))) sNil)
    (sRet (dAndV (dBin eqD (dBin ixD (dVar 0) (dC (.int 0))) (dC (.str "echo"))) (dCallF 3 F_is_whole (dCons (dBin ixD (dVar 0) (dC (.int 1))) (dCons (dC (.int 0)) (dCons (dBin subD (dVar 1) (dC (.int 1))) dNil)))))))))

def fb_is_pattern (F_is_word F_is_likeness : List PyData → R PyData) : Ro → Fl :=
  (sSeq (sIf (dOr (dNot (dTest (dCallF 1 F_is_word (dCons (dVar 0) dNil)))) (dOr (dNot (dTest (dUn (isiD "tuple") (dVar 1)))) (dTest (dBin gtD (dCall lenD (dCons (dVar 1) dNil)) (dC (.int 2)))))) (sRet (dC (.bool false))) sNil)
    (sRet (dCall allD (dCons (dAsL (dLc (dItems (dVar 1)) (bName 2) dYes (dCallF 1 F_is_likeness (dCons (dVar 2) dNil)) [2])) dNil))))

def fb_is_wish (F_is_word F_is_pattern F_is_whole F_is_answer : List PyData → R PyData) : Ro → Fl :=
  (sSeq (sIf (dOr (dNot (dTest (dUn (isiD "tuple") (dVar 0)))) (dOr (dTest (dBin neD (dCall lenD (dCons (dVar 0) dNil)) (dC (.int 7)))) (dOr (dNot (dTest (dCallF 1 F_is_word (dCons (dBin ixD (dVar 0) (dC (.int 0))) dNil)))) (dNot (dTest (dCallF 2 F_is_pattern (dCons (dBin ixD (dVar 0) (dC (.int 1))) (dCons (dBin ixD (dVar 0) (dC (.int 2))) dNil)))))))) (sRet (dC (.bool false))) sNil)
    (sSeq (sIf (dOr (dNot (dTest (dCallF 3 F_is_whole (dCons (dBin ixD (dVar 0) (dC (.int 3))) (dCons (dC (.int 0)) (dCons (dC (.int 5)) dNil)))))) (dOr (dNot (dTest (dCallF 3 F_is_whole (dCons (dBin ixD (dVar 0) (dC (.int 4))) (dCons (dC (.int 1)) (dCons (dC (.int 5)) dNil)))))) (dTest (dBin gtD (dBin ixD (dVar 0) (dC (.int 3))) (dBin ixD (dVar 0) (dC (.int 4))))))) (sRet (dC (.bool false))) sNil)
    (sSeq (sIf (dOr (dNot (dTest (dUn (isiD "tuple") (dBin ixD (dVar 0) (dC (.int 5)))))) (dNot (dTest (dChain leD leD (dC (.int 1)) (dCall lenD (dCons (dBin ixD (dVar 0) (dC (.int 5))) dNil)) (dC (.int 3)))))) (sRet (dC (.bool false))) sNil)
    (sSeq (sIf (dNot (dTest (dCall allD (dCons (dAsL (dLc (dItems (dBin ixD (dVar 0) (dC (.int 5)))) (bName 1) dYes (dCallF 2 F_is_answer (dCons (dVar 1) (dCons (dCall lenD (dCons (dBin ixD (dVar 0) (dC (.int 2))) dNil)) dNil))) [1])) dNil)))) (sRet (dC (.bool false))) sNil)
    (sRet (dAndV (dUn (isiD "tuple") (dBin ixD (dVar 0) (dC (.int 6)))) (dCall allD (dCons (dAsL (dLc (dItems (dBin ixD (dVar 0) (dC (.int 6)))) (bName 1) dYes (dCallF 1 F_is_word (dCons (dVar 1) dNil)) [1])) dNil))))))))

def fb_is_book (F_is_wish : List PyData → R PyData) : Ro → Fl :=
  (sSeq (sIf (dOr (dNot (dTest (dUn (isiD "tuple") (dVar 0)))) (dOr (dTest (dBin gtD (dCall lenD (dCons (dVar 0) dNil)) (dC (.int 4)))) (dNot (dTest (dCall allD (dCons (dAsL (dLc (dItems (dVar 0)) (bName 2) dYes (dCallF 1 F_is_wish (dCons (dVar 2) dNil)) [2])) dNil)))))) (sRet (dC (.bool false))) sNil)
    (sSeq (sAsgL 1 (dLst dNil))
    (sSeq (sFor (dItems (dVar 0)) (bName 2) (sSeq (sIf (dOr (dTest (dBinR inD (dBin ixD (dVar 2) (dC (.int 0))) (dOwL 1))) (dNot (dTest (dCall allD (dCons (dAsL (dLc (dItems (dBin ixD (dVar 2) (dC (.int 6)))) (bName 3) dYes (dBinR inD (dVar 3) (dOwL 1)) [3])) dNil))))) (sRet (dC (.bool false))) sNil)
    (sApp 1 (dBin ixD (dVar 2) (dC (.int 0))))))
    (sRet (dC (.bool true))))))

def fb_need_book (F_is_book : List PyData → R PyData) : Ro → Fl :=
  (sIf (dNot (dTest (dCallF 1 F_is_book (dCons (dVar 0) dNil)))) (fun ρ => .ex ⟨"NoBook", none⟩ ρ) sNil)

def fb_checked (F_need_book : List PyData → R PyData) : Ro → Fl :=
  (sSeq (sExpr (dCallF 1 F_need_book (dCons (dVar 0) dNil)))
    (sRet (dVar 0)))

def fb_law_methods (F_law_word F_law_mixed : List PyData → R PyData) : Ro → Fl :=
  (sSeq (sAsg (dCallF 2 F_law_word (dCons (dVar 0) (dCons (dVar 1) dNil))) (bName 2))
    (sRet (dAsL (dLst (dCons (dVar 2) (dCons (dBin ixD (dAsL (dLst (dCons (dBin addD (dSl (dVar 2) none (some (dC (.int 5)))) (dC (.str "m"))) (dCons (dCallF 2 F_law_word (dCons (dVar 0) (dCons (dBin addD (dVar 1) (dC (.int 10))) dNil))) dNil)))) (dCallF 3 F_law_mixed (dCons (dVar 0) (dCons (dBin addD (dVar 1) (dC (.int 20))) (dCons (dC (.int 2)) dNil))))) dNil))))))

def fb_law_answer (F_law_mixed F_law_value : List PyData → R PyData) : Ro → Fl :=
  (sSeq (sAsg (dCallF 3 F_law_mixed (dCons (dVar 0) (dCons (dVar 1) (dCons (dC (.int 5)) dNil)))) (bName 4))
    (sSeq (sIf (dTest (dBin eqD (dVar 4) (dC (.int 0)))) (sRet (dTup (dCons (dC (.str "break")) (dCons (dBin ixD (dBin ixD (dVar 2) (dC (.int 1))) (dCallF 3 F_law_mixed (dCons (dVar 0) (dCons (dBin addD (dVar 1) (dC (.int 1))) (dCons (dC (.int 3)) dNil))))) dNil)))) sNil)
    (sSeq (sIf (dAnd (dTest (dBin ltD (dVar 4) (dC (.int 3)))) (dTest (dBin gtD (dVar 3) (dC (.int 0))))) (sRet (dTup (dCons (dC (.str "echo")) (dCons (dCallF 3 F_law_mixed (dCons (dVar 0) (dCons (dBin addD (dVar 1) (dC (.int 1))) (dCons (dVar 3) dNil)))) dNil)))) sNil)
    (sRet (dTup (dCons (dC (.str "give")) (dCons (dCallF 3 F_law_value (dCons (dVar 0) (dCons (dBin addD (dVar 1) (dC (.int 2))) (dCons (dVar 2) dNil)))) dNil)))))))

def fb_law_book (F_law_mixed F_law_word F_law_likeness F_law_answer : List PyData → R PyData) : Ro → Fl :=
  (sSeq (sAsgL 6 (dLst dNil))
    (sSeq (sAsgL 7 (dLst dNil))
    (sSeq (sFor (dRange1 (dCons (dCallF 3 F_law_mixed (dCons (dVar 0) (dCons (dVar 1) (dCons (dBin addD (dVar 4) (dC (.int 1))) dNil)))) dNil)) (bName 8) (sSeq (sAsg (dBin addD (dVar 1) (dBin mulD (dC (.int 400)) (dBin addD (dVar 8) (dC (.int 1))))) (bName 9))
    (sSeq (sAsg (dCallF 2 F_law_word (dCons (dVar 0) (dCons (dVar 9) dNil))) (bName 10))
    (sSeq (sIf (dTest (dBinR inD (dVar 10) (dOwL 7))) (sAsg (dBin ixD (dAsL (dLst (dCons (dC (.str "wa")) (dCons (dC (.str "wb")) (dCons (dC (.str "wc")) (dCons (dC (.str "wd")) dNil)))))) (dVar 8)) (bName 10)) sNil)
    (sSeq (sIf (dTest (dBinR inD (dVar 10) (dOwL 7))) (sAsg (dBin ixD (dAsL (dLst (dCons (dC (.str "xxxxa")) (dCons (dC (.str "xxxxb")) (dCons (dC (.str "xxxxc")) (dCons (dC (.str "xxxxd")) dNil)))))) (dVar 8)) (bName 10)) sNil)
    (sSeq (sAsg (dCallF 3 F_law_mixed (dCons (dVar 0) (dCons (dBin addD (dVar 9) (dC (.int 8))) (dCons (dC (.int 2)) dNil)))) (bName 11))
    (sSeq (sAsg (dBin ixD (dAsL (dLst (dCons (dC (.int 1)) (dCons (dC (.int 1)) (dCons (dC (.int 2)) (dCons (dC (.int 0)) dNil)))))) (dCallF 3 F_law_mixed (dCons (dVar 0) (dCons (dBin addD (dVar 9) (dC (.int 9))) (dCons (dC (.int 4)) dNil))))) (bName 12))
    (sSeq (sAsg (dCall tupleD (dCons (dAsL (dLc (dRange1 (dCons (dVar 12) dNil)) (bName 19) dYes (dCallF 4 F_law_likeness (dCons (dVar 0) (dCons (dBin addD (dBin addD (dVar 9) (dC (.int 20))) (dBin mulD (dC (.int 130)) (dVar 19))) (dCons (dVar 2) (dCons (dVar 5) dNil))))) [19])) dNil)) (bName 13))
    (sSeq (sAsg (dBin ixD (dAsL (dLst (dCons (dC (.int 0)) (dCons (dC (.int 0)) (dCons (dC (.int 1)) (dCons (dC (.int 1)) (dCons (dC (.int 2)) dNil))))))) (dCallF 3 F_law_mixed (dCons (dVar 0) (dCons (dBin addD (dVar 9) (dC (.int 10))) (dCons (dC (.int 5)) dNil))))) (bName 14))
    (sSeq (sAsg (dCall max2D (dCons (dC (.int 1)) (dCons (dBin addD (dVar 14) (dCallF 3 F_law_mixed (dCons (dVar 0) (dCons (dBin addD (dVar 9) (dC (.int 11))) (dCons (dC (.int 3)) dNil))))) dNil))) (bName 15))
    (sSeq (sAsg (dBin addD (dC (.int 1)) (dCallF 3 F_law_mixed (dCons (dVar 0) (dCons (dBin addD (dVar 9) (dC (.int 12))) (dCons (dC (.int 3)) dNil))))) (bName 16))
    (sSeq (sAsg (dCall tupleD (dCons (dAsL (dLc (dRange1 (dCons (dVar 16) dNil)) (bName 19) dYes (dCallF 4 F_law_answer (dCons (dVar 0) (dCons (dBin addD (dBin addD (dVar 9) (dC (.int 300))) (dBin mulD (dC (.int 15)) (dVar 19))) (dCons (dVar 2) (dCons (dVar 12) dNil))))) [19])) dNil)) (bName 17))
    (sSeq (sAsg (dCall tupleD (dCons (dAsL (dLc (dEnumL (dOwL 7)) (bTup 2 (bCons (bName 19) (bCons (bName 20) bNil))) (dTest (dBin eqD (dCallF 3 F_law_mixed (dCons (dVar 0) (dCons (dBin addD (dBin addD (dVar 9) (dC (.int 13))) (dVar 19)) (dCons (dC (.int 2)) dNil)))) (dC (.int 0)))) (dVar 20) [19, 20])) dNil)) (bName 18))
    (sSeq (sApp 6 (dTup (dCons (dVar 10) (dCons (dBin ixD (dVar 3) (dVar 11)) (dCons (dVar 13) (dCons (dVar 14) (dCons (dVar 15) (dCons (dVar 17) (dCons (dVar 18) dNil)))))))))
    (sApp 7 (dVar 10))))))))))))))))
    (sFrz 6 (sRet (dCall tupleD (dCons (dVar 6) dNil)))))))

def fb_law_bad_wish (F_law_bad_likeness F_law_mixed : List PyData → R PyData) : Ro → Fl :=
  (sSeq (sAsg (dTup (dCons (dTup (dCons (dC (.str "give")) (dCons (dC (.int 1)) dNil))) dNil)) (bName 2))
    (sSeq (sAsg (dTup (dCons (dC (.str "b")) (dCons (dC (.str "m")) (dCons (dTup dNil) (dCons (dC (.int 0)) (dCons (dC (.int 1)) (dCons (dVar 2) (dCons (dTup dNil) dNil)))))))) (bName 3))
    (sSeq (sAsg (dTup (dCons (dC (.str "any")) dNil)) (bName 4))
    (sSeq (sAsgL 5 (dLst (dCons (dTup dNil) (dCons (dAsL (dLst (dCons (dTup (dCons (dC (.str "give")) (dCons (dC (.int 1)) dNil))) dNil))) (dCons (dBin tmulD (dVar 2) (dC (.int 4))) (dCons (dTup (dCons (dTup (dCons (dC (.str "give")) (dCons (dAsL (dLst (dCons (dC (.int 1)) dNil))) dNil))) dNil)) (dCons (dTup (dCons (dTup (dCons (dC (.str "echo")) (dCons (dC (.int 0)) dNil))) dNil)) (dCons (dTup (dCons (dTup (dCons (dC (.str "break")) (dCons (dC (.int 1)) dNil))) dNil)) (dCons (dTup (dCons (dTup (dCons (dC (.str "say")) (dCons (dC (.int 1)) dNil))) dNil)) dNil)))))))))
    (sSeq (sExt 5 (dLst (dCons (dTup (dCons (dC (.str "give")) dNil)) (dCons (dC .none) dNil))))
    (sSeq (sFrz 5 (sAsgL 6 (dLc (dItems (dVar 5)) (bName 7) dYes (dBin addD (dSl (dVar 3) none (some (dC (.int 5)))) (dTup (dCons (dVar 7) (dCons (dTup dNil) dNil)))) [7])))
    (sSeq (sExt 6 (dLst (dCons (dBin addD (dTup (dCons (dC (.str "B")) dNil)) (dSl (dVar 3) (some (dC (.int 1))) none)) (dCons (dBin addD (dTup (dCons (dC (.str "b")) (dCons (dC (.str "M")) dNil))) (dSl (dVar 3) (some (dC (.int 2))) none)) (dCons (dBin addD (dBin addD (dSl (dVar 3) none (some (dC (.int 2)))) (dTup (dCons (dAsL (dLst dNil)) dNil))) (dSl (dVar 3) (some (dC (.int 3))) none)) dNil)))))
    (sSeq (sApp 6 (dBin addD (dBin addD (dSl (dVar 3) none (some (dC (.int 2)))) (dTup (dCons (dBin tmulD (dTup (dCons (dVar 4) dNil)) (dC (.int 3))) dNil))) (dSl (dVar 3) (some (dC (.int 3))) none)))
    (sSeq (sExt 6 (dLst (dCons (dBin addD (dBin addD (dSl (dVar 3) none (some (dC (.int 2)))) (dTup (dCons (dTup (dCons (dCallF 2 F_law_bad_likeness (dCons (dVar 0) (dCons (dBin addD (dVar 1) (dC (.int 5))) dNil))) dNil)) dNil))) (dSl (dVar 3) (some (dC (.int 3))) none)) (dCons (dBin addD (dBin addD (dSl (dVar 3) none (some (dC (.int 3)))) (dTup (dCons (dC (.int 2)) (dCons (dC (.int 1)) dNil)))) (dSl (dVar 3) (some (dC (.int 5))) none)) dNil))))
    (sSeq (sExt 6 (dLst (dCons (dBin addD (dBin addD (dSl (dVar 3) none (some (dC (.int 3)))) (dTup (dCons (dC (.int 0)) (dCons (dC (.int 0)) dNil)))) (dSl (dVar 3) (some (dC (.int 5))) none)) (dCons (dBin addD (dBin addD (dSl (dVar 3) none (some (dC (.int 3)))) (dTup (dCons (dC (.int 0)) (dCons (dC (.int 6)) dNil)))) (dSl (dVar 3) (some (dC (.int 5))) none)) (dCons (dBin addD (dBin addD (dSl (dVar 3) none (some (dC (.int 3)))) (dTup (dCons (dUn negD (dC (.int 1))) (dCons (dC (.int 1)) dNil)))) (dSl (dVar 3) (some (dC (.int 5))) none)) (dCons (dSl (dVar 3) none (some (dC (.int 6)))) dNil))))))
    (sSeq (sExt 6 (dLst (dCons (dBin addD (dBin addD (dSl (dVar 3) none (some (dC (.int 3)))) (dTup (dCons (dC (.bool true)) (dCons (dC (.int 1)) dNil)))) (dSl (dVar 3) (some (dC (.int 5))) none)) (dCons (dBin addD (dSl (dVar 3) none (some (dC (.int 6)))) (dTup (dCons (dAsL (dLst (dCons (dC (.str "b")) dNil))) dNil))) (dCons (dBin addD (dSl (dVar 3) none (some (dC (.int 6)))) (dTup (dCons (dTup (dCons (dC (.str "b")) dNil)) dNil))) dNil)))))
    (sSeq (sExt 6 (dLst (dCons (dBin addD (dSl (dVar 3) none (some (dC (.int 6)))) (dTup (dCons (dTup (dCons (dC (.str "A")) dNil)) dNil))) (dCons (dC .none) dNil))))
    (sSeq (sExt 6 (dLst (dCons (dBin addD (dSl (dVar 3) none (some (dC (.int 2)))) (dTup (dCons (dTup (dCons (dVar 4) dNil)) (dCons (dC (.int 0)) (dCons (dC (.int 1)) (dCons (dTup (dCons (dTup (dCons (dC (.str "echo")) (dCons (dC (.int 1)) dNil))) dNil)) (dCons (dTup dNil) dNil))))))) (dCons (dAsL (dListOf (dVar 3))) (dCons (dBin addD (dVar 3) (dTup (dCons (dC (.int 0)) dNil))) (dCons (dBin addD (dSl (dVar 3) none (some (dC (.int 6)))) (dTup (dCons (dC .none) dNil))) dNil))))))
    (sFrz 6 (sRet (dBin ixD (dVar 6) (dCallF 3 F_law_mixed (dCons (dVar 0) (dCons (dVar 1) (dCons (dC (.int 28)) dNil))))))))))))))))))))

def fb_is_call (F_is_word F_is_value : List PyData → R PyData) : Ro → Fl :=
  (sSeq (sIf (dOr (dNot (dTest (dUn (isiD "tuple") (dVar 0)))) (dOr (dTest (dBin neD (dCall lenD (dCons (dVar 0) dNil)) (dC (.int 2)))) (dOr (dNot (dTest (dCallF 1 F_is_word (dCons (dBin ixD (dVar 0) (dC (.int 0))) dNil)))) (dNot (dTest (dUn (isiD "tuple") (dBin ixD (dVar 0) (dC (.int 1))))))))) (sRet (dC (.bool false))) sNil)
    (sRet (dAndV (dBin leD (dCall lenD (dCons (dBin ixD (dVar 0) (dC (.int 1))) dNil)) (dC (.int 2))) (dCall allD (dCons (dAsL (dLc (dItems (dBin ixD (dVar 0) (dC (.int 1)))) (bName 1) dYes (dCallF 1 F_is_value (dCons (dVar 1) dNil)) [1])) dNil)))))

def fb_need_calls (F_is_call : List PyData → R PyData) : Ro → Fl :=
  (sIf (dOr (dNot (dTest (dUn (isiD "list") (dVar 0)))) (dOr (dTest (dBin gtD (dCall lenD (dCons (dVar 0) dNil)) (dC (.int 20)))) (dNot (dTest (dCall allD (dCons (dAsL (dLc (dItems (dVar 0)) (bName 1) dYes (dCallF 1 F_is_call (dCons (dVar 1) dNil)) [1])) dNil)))))) (fun ρ => .ex ⟨"NoCall", none⟩ ρ) sNil)

def fb_likes (F_fits_value : List PyData → R PyData) : Ro → Fl :=
  (sSeq (sIf (dOr (dTest (dBin neD (dBin ixD (dVar 0) (dC (.int 1))) (dBin ixD (dVar 1) (dC (.int 0))))) (dTest (dBin neD (dCall lenD (dCons (dBin ixD (dVar 0) (dC (.int 2))) dNil)) (dCall lenD (dCons (dBin ixD (dVar 1) (dC (.int 1))) dNil))))) (sRet (dC (.bool false))) sNil)
    (sRet (dCall allD (dCons (dAsL (dLc (dZip (dCons (dBin ixD (dVar 0) (dC (.int 2))) (dCons (dBin ixD (dVar 1) (dC (.int 1))) dNil))) (bTup 2 (bCons (bName 2) (bCons (bName 3) bNil))) dYes (dCallF 2 F_fits_value (dCons (dVar 2) (dCons (dVar 3) dNil))) [2, 3])) dNil))))

def fb_may_take : Ro → Fl :=
  (sSeq (sAsg (dBin ixD (dVar 0) (dVar 2)) (bName 3))
    (sSeq (sIf (dTest (dBin eqD (dBin ixD (dVar 1) (dVar 2)) (dBin ixD (dVar 3) (dC (.int 4))))) (sRet (dC (.bool false))) sNil)
    (sSeq (sFor (dEnum (dCons (dVar 0) dNil)) (bTup 2 (bCons (bName 4) (bCons (bName 5) bNil))) (sSeq (sIf (dAnd (dTest (dBin inD (dBin ixD (dVar 5) (dC (.int 0))) (dBin ixD (dVar 3) (dC (.int 6))))) (dTest (dBin ltD (dBin ixD (dVar 1) (dVar 4)) (dBin ixD (dVar 5) (dC (.int 3)))))) (sRet (dC (.bool false))) sNil)
    (sIf (dAnd (dTest (dBin inD (dBin ixD (dVar 3) (dC (.int 0))) (dBin ixD (dVar 5) (dC (.int 6))))) (dTest (dBin gtD (dBin ixD (dVar 1) (dVar 4)) (dC (.int 0))))) (sRet (dC (.bool false))) sNil)))
    (sRet (dC (.bool true))))))

noncomputable def fb_shared (m_bk m_cs : PyData) (F_need_book F_need_calls F_Sharer_first : List PyData → R PyData) : Ro → Fl :=
  (sSeq (sExpr (dCallF 1 F_need_book (dCons (dVar 0) dNil)))
    (sSeq (sExpr (dCallF 1 F_need_calls (dCons (dVar 1) dNil)))
    (sSeq (sAsg (dMethM 1 F_Sharer_first (dCall (mkSh m_bk m_cs) (dCons (dVar 0) (dCons (dVar 1) dNil))) dNil) (bName 2))
    (sSeq (sIf (dTest (dBin isND (dVar 2) (dC .none))) (sRet (dC .none)) sNil)
    (sRet (dAsL (dLc (dItems (dVar 2)) (bName 3) dYes (dBin ixD (dBin ixD (dVar 0) (dVar 3)) (dC (.int 0))) [3])))))))

noncomputable def fb_ways (m_bk m_cs : PyData) (F_need_book F_need_calls F_Sharer_takers F_Sharer_later F_Sharer_can_be : List PyData → R PyData) : Ro → Fl :=
  (sSeq (sExpr (dCallF 1 F_need_book (dCons (dVar 0) dNil)))
    (sSeq (sExpr (dCallF 1 F_need_calls (dCons (dVar 1) dNil)))
    (sSeq (sAsg (dCall (mkSh m_bk m_cs) (dCons (dVar 0) (dCons (dVar 1) dNil))) (bName 2))
    (sSeq (sAsg (dBin disp1 (dBin tmulA (dTup (dCons (dC (.int 0)) dNil)) (dCall lenD (dCons (dVar 0) dNil))) (dC (.int 1))) (bName 3))
    (sSeq (sFor (dRange1 (dCons (dCall lenD (dCons (dVar 1) dNil)) dNil)) (bName 4) (sSeq (sAsgT 5)
    (sSeq (sFor (dItems (dAsL (dKeysT (dVar 3)))) (bName 6) (sFor (dItems (dMethM 3 F_Sharer_takers (dVar 2) (dCons (dVar 4) (dCons (dVar 6) dNil)))) (bName 7) (sSeq (sAsg (dMethM 3 F_Sharer_later (dVar 2) (dCons (dVar 6) (dCons (dVar 7) dNil))) (bName 8))
    (sPutT 5 (dVar 8) (dBin addD (dGetT 5 (dVar 8) (dC (.int 0))) (dBin ixT (dVar 3) (dVar 6)))))))
    (sFrzT 5 (sAsg (dVar 5) (bName 3))))))
    (sRet (dCall sumD (dCons (dAsL (dLc (dItems (dAsL (dKeysT (dVar 3)))) (bName 6) (dTest (dMethM 3 F_Sharer_can_be (dVar 2) (dCons (dCall lenD (dCons (dVar 1) dNil)) (dCons (dVar 6) dNil)))) (dBin ixT (dVar 3) (dVar 6)) [6])) dNil))))))))

def fb_law_arg (F_law_value F_law_fits : List PyData → R PyData) : Ro → Fl :=
  (sSeq (sFor (dRange1 (dCons (dC (.int 5)) dNil)) (bName 4) (sSeq (sAsg (dCallF 3 F_law_value (dCons (dVar 0) (dCons (dBin addD (dVar 1) (dBin mulD (dC (.int 12)) (dVar 4))) (dCons (dVar 2) dNil)))) (bName 5))
    (sIf (dTest (dCallF 2 F_law_fits (dCons (dVar 3) (dCons (dVar 5) dNil)))) (sRet (dVar 5)) sNil)))
    (sRet (dVar 5)))

def fb_law_call (F_law_mixed F_law_value F_law_arg : List PyData → R PyData) : Ro → Fl :=
  (sSeq (sIf (dOr (dTest (dBin eqD (dVar 4) (dTup dNil))) (dTest (dBin eqD (dCallF 3 F_law_mixed (dCons (dVar 0) (dCons (dVar 1) (dCons (dC (.int 8)) dNil)))) (dC (.int 0))))) (sSeq (sAsg (dCallF 3 F_law_mixed (dCons (dVar 0) (dCons (dBin addD (dVar 1) (dC (.int 1))) (dCons (dC (.int 3)) dNil)))) (bName 5))
    (sSeq (sAsg (dCall tupleD (dCons (dAsL (dLc (dRange1 (dCons (dVar 5) dNil)) (bName 8) dYes (dCallF 3 F_law_value (dCons (dVar 0) (dCons (dBin addD (dBin addD (dVar 1) (dC (.int 5))) (dBin mulD (dC (.int 12)) (dVar 8))) (dCons (dVar 2) dNil)))) [8])) dNil)) (bName 6))
    (sRet (dTup (dCons (dBin ixD (dVar 3) (dCallF 3 F_law_mixed (dCons (dVar 0) (dCons (dBin addD (dVar 1) (dC (.int 2))) (dCons (dC (.int 2)) dNil))))) (dCons (dVar 6) dNil)))))) sNil)
    (sSeq (sAsg (dBin ixD (dVar 4) (dCallF 3 F_law_mixed (dCons (dVar 0) (dCons (dBin addD (dVar 1) (dC (.int 1))) (dCons (dCall lenD (dCons (dVar 4) dNil)) dNil))))) (bName 7))
    (sRet (dTup (dCons (dBin ixD (dVar 7) (dC (.int 1))) (dCons (dCall tupleD (dCons (dAsL (dLc (dEnum (dCons (dBin ixD (dVar 7) (dC (.int 2))) dNil)) (bTup 2 (bCons (bName 8) (bCons (bName 9) bNil))) dYes (dCallF 4 F_law_arg (dCons (dVar 0) (dCons (dBin addD (dBin addD (dVar 1) (dC (.int 5))) (dBin mulD (dC (.int 70)) (dVar 8))) (dCons (dVar 2) (dCons (dVar 9) dNil))))) [8, 9])) dNil)) dNil))))))

def fb_law_calls (F_law_call : List PyData → R PyData) : Ro → Fl :=
  (sRet (dAsL (dLc (dRange1 (dCons (dVar 5) dNil)) (bName 6) dYes (dCallF 5 F_law_call (dCons (dVar 0) (dCons (dBin addD (dVar 1) (dBin mulD (dC (.int 150)) (dVar 6))) (dCons (dVar 2) (dCons (dVar 3) (dCons (dVar 4) dNil)))))) [6])))

def fb_law_likes (F_law_fits : List PyData → R PyData) : Ro → Fl :=
  (sSeq (sIf (dOr (dTest (dBin neD (dBin ixD (dVar 0) (dC (.int 1))) (dBin ixD (dVar 1) (dC (.int 0))))) (dTest (dBin neD (dCall lenD (dCons (dBin ixD (dVar 0) (dC (.int 2))) dNil)) (dCall lenD (dCons (dBin ixD (dVar 1) (dC (.int 1))) dNil))))) (sRet (dC (.bool false))) sNil)
    (sRet (dCall allD (dCons (dAsL (dLc (dZip (dCons (dBin ixD (dVar 0) (dC (.int 2))) (dCons (dBin ixD (dVar 1) (dC (.int 1))) dNil))) (bTup 2 (bCons (bName 2) (bCons (bName 3) bNil))) dYes (dCallF 2 F_law_fits (dCons (dVar 2) (dCons (dVar 3) dNil))) [2, 3])) dNil))))

def fb_law_may : Ro → Fl :=
  (sSeq (sAsg (dBin ixD (dVar 0) (dVar 2)) (bName 3))
    (sSeq (sAsg (dBin ltD (dBin ixD (dVar 1) (dVar 2)) (dBin ixD (dVar 3) (dC (.int 4)))) (bName 4))
    (sSeq (sFor (dEnum (dCons (dVar 0) dNil)) (bTup 2 (bCons (bName 5) (bCons (bName 6) bNil))) (sSeq (sIf (dTest (dBin inD (dBin ixD (dVar 6) (dC (.int 0))) (dBin ixD (dVar 3) (dC (.int 6))))) (sAsg (dAndV (dVar 4) (dBin geD (dBin ixD (dVar 1) (dVar 5)) (dBin ixD (dVar 6) (dC (.int 3))))) (bName 4)) sNil)
    (sIf (dTest (dBin inD (dBin ixD (dVar 3) (dC (.int 0))) (dBin ixD (dVar 6) (dC (.int 6))))) (sAsg (dAndV (dVar 4) (dBin eqD (dBin ixD (dVar 1) (dVar 5)) (dC (.int 0)))) (bName 4)) sNil)))
    (sRet (dVar 4)))))

def fb_law_takers (F_law_likes F_law_may : List PyData → R PyData) : Ro → Fl :=
  (sRet (dAsL (dLc (dEnum (dCons (dVar 0) dNil)) (bTup 2 (bCons (bName 3) (bCons (bName 4) bNil))) (dAnd (dTest (dCallF 2 F_law_likes (dCons (dVar 4) (dCons (dVar 2) dNil)))) (dTest (dCallF 3 F_law_may (dCons (dVar 0) (dCons (dVar 1) (dCons (dVar 3) dNil)))))) (dVar 3) [3, 4])))

def fb_law_more : Ro → Fl :=
  (sRet (dCall tupleD (dCons (dAsL (dLc (dEnum (dCons (dVar 0) dNil)) (bTup 2 (bCons (bName 2) (bCons (bName 3) bNil))) dYes (dBin addD (dVar 3) (dCall intD (dCons (dBin eqD (dVar 2) (dVar 1)) dNil))) [2, 3])) dNil)))

def fb_law_enough : Ro → Fl :=
  (sRet (dCall allD (dCons (dAsL (dLc (dZip (dCons (dVar 1) (dCons (dVar 0) dNil))) (bTup 2 (bCons (bName 2) (bCons (bName 3) bNil))) dYes (dBin geD (dVar 2) (dBin ixD (dVar 3) (dC (.int 3)))) [2, 3])) dNil)))

def fb_law_all (F_law_takers F_law_more F_law_enough : List PyData → R PyData) : Ro → Fl :=
  (sSeq (sAsg (dAsL (dLst (dCons (dTup (dCons (dAsL (dLst dNil)) (dCons (dBin tmulA (dTup (dCons (dC (.int 0)) dNil)) (dCall lenD (dCons (dVar 0) dNil))) dNil))) dNil))) (bName 2))
    (sSeq (sFor (dItems (dVar 1)) (bName 3) (sSeq (sAsgL 4 (dLst dNil))
    (sSeq (sFor (dItems (dVar 2)) (bTup 2 (bCons (bName 5) (bCons (bName 6) bNil))) (sFor (dItems (dCallF 3 F_law_takers (dCons (dVar 0) (dCons (dVar 6) (dCons (dVar 3) dNil))))) (bName 7) (sApp 4 (dTup (dCons (dAsL (dCat (dOfD (dVar 5)) (dLst (dCons (dBin ixD (dBin ixD (dVar 0) (dVar 7)) (dC (.int 0))) dNil)))) (dCons (dCallF 2 F_law_more (dCons (dVar 6) (dCons (dVar 7) dNil))) dNil))))))
    (sFrz 4 (sAsg (dVar 4) (bName 2))))))
    (sRet (dAsL (dLc (dItems (dVar 2)) (bTup 2 (bCons (bName 5) (bCons (bName 6) bNil))) (dTest (dCallF 2 F_law_enough (dCons (dVar 0) (dCons (dVar 6) dNil)))) (dVar 5) [5, 6])))))

noncomputable def fb_is_shared (m_bk m_cs : PyData) (F_need_book F_need_calls F_Sharer_takers F_Sharer_later : List PyData → R PyData) : Ro → Fl :=
  (sSeq (sExpr (dCallF 1 F_need_book (dCons (dVar 0) dNil)))
    (sSeq (sExpr (dCallF 1 F_need_calls (dCons (dVar 1) dNil)))
    (sSeq (sAsg (dAsL (dLc (dItems (dVar 0)) (bName 9) dYes (dBin ixD (dVar 9) (dC (.int 0))) [9])) (bName 3))
    (sSeq (sIf (dOr (dNot (dTest (dUn (isiD "list") (dVar 2)))) (dOr (dTest (dBin neD (dCall lenD (dCons (dVar 2) dNil)) (dCall lenD (dCons (dVar 1) dNil)))) (dNot (dTest (dCall allD (dCons (dAsL (dLc (dItems (dVar 2)) (bName 10) dYes (dBin inD (dVar 10) (dVar 3)) [10])) dNil)))))) (sRet (dC (.bool false))) sNil)
    (sSeq (sAsg (dCall (mkSh m_bk m_cs) (dCons (dVar 0) (dCons (dVar 1) dNil))) (bName 4))
    (sSeq (sAsg (dBin tmulA (dTup (dCons (dC (.int 0)) dNil)) (dCall lenD (dCons (dVar 0) dNil))) (bName 5))
    (sSeq (sFor (dEnum (dCons (dVar 2) dNil)) (bTup 2 (bCons (bName 6) (bCons (bName 7) bNil))) (sSeq (sAsg (dMeth isLst idxD (dVar 3) (dCons (dVar 7) dNil)) (bName 8))
    (sSeq (sIf (dTest (dBin ninD (dVar 8) (dMethM 3 F_Sharer_takers (dVar 4) (dCons (dVar 6) (dCons (dVar 5) dNil))))) (sRet (dC (.bool false))) sNil)
    (sAsg (dMethM 3 F_Sharer_later (dVar 4) (dCons (dVar 5) (dCons (dVar 8) dNil))) (bName 5)))))
    (sRet (dCall allD (dCons (dAsL (dLc (dZip (dCons (dVar 5) (dCons (dVar 0) dNil))) (bTup 2 (bCons (bName 11) (bCons (bName 9) bNil))) dYes (dBin geD (dVar 11) (dBin ixD (dVar 9) (dC (.int 3)))) [11, 9])) dNil))))))))))

def fb_call_of_both (F_sample_of : List PyData → R PyData) : Ro → Fl :=
  (sSeq (sIf (dOr (dTest (dBin neD (dBin ixD (dVar 0) (dC (.int 1))) (dBin ixD (dVar 1) (dC (.int 1))))) (dTest (dBin neD (dCall lenD (dCons (dBin ixD (dVar 0) (dC (.int 2))) dNil)) (dCall lenD (dCons (dBin ixD (dVar 1) (dC (.int 2))) dNil))))) (sRet (dC .none)) sNil)
    (sSeq (sAsgL 2 (dLst dNil))
    (sSeq (sFor (dZip (dCons (dBin ixD (dVar 0) (dC (.int 2))) (dCons (dBin ixD (dVar 1) (dC (.int 2))) dNil))) (bTup 2 (bCons (bName 3) (bCons (bName 4) bNil))) (sSeq (sAsg (dCallF 1 F_sample_of (dCons (dTup (dCons (dC (.str "both")) (dCons (dVar 3) (dCons (dVar 4) dNil)))) dNil)) (bName 5))
    (sSeq (sIf (dTest (dBin isND (dVar 5) (dC .none))) (sRet (dC .none)) sNil)
    (sApp 2 (dBin ixD (dVar 5) (dC (.int 0)))))))
    (sFrz 2 (sRet (dTup (dCons (dBin ixD (dVar 0) (dC (.int 1))) (dCons (dCall tupleD (dCons (dVar 2) dNil)) dNil))))))))

def fb_crossed (F_need_book F_call_of_both : List PyData → R PyData) : Ro → Fl :=
  (sSeq (sExpr (dCallF 1 F_need_book (dCons (dVar 0) dNil)))
    (sSeq (sAsgL 1 (dLst dNil))
    (sSeq (sFor (dEnum (dCons (dVar 0) dNil)) (bTup 2 (bCons (bName 2) (bCons (bName 3) bNil))) (sFor (dItems (dSl (dVar 0) (some (dBin addD (dVar 2) (dC (.int 1)))) none)) (bName 4) (sSeq (sAsg (dCallF 2 F_call_of_both (dCons (dVar 3) (dCons (dVar 4) dNil))) (bName 5))
    (sIf (dTest (dBin ntND (dVar 5) (dC .none))) (sApp 1 (dTup (dCons (dBin ixD (dVar 3) (dC (.int 0))) (dCons (dBin ixD (dVar 4) (dC (.int 0))) (dCons (dVar 5) dNil))))) sNil))))
    (sFrz 1 (sRet (dVar 1))))))

def fb_idle (F_need_book F_sample_of : List PyData → R PyData) : Ro → Fl :=
  (sSeq (sExpr (dCallF 1 F_need_book (dCons (dVar 0) dNil)))
    (sSeq (sAsgL 1 (dLst dNil))
    (sSeq (sFor (dItems (dVar 0)) (bName 2) (sIf (dTest (dCall anyD (dCons (dAsL (dLc (dItems (dBin ixD (dVar 2) (dC (.int 2)))) (bName 3) dYes (dBin isND (dCallF 1 F_sample_of (dCons (dVar 3) dNil)) (dC .none)) [3])) dNil))) (sApp 1 (dBin ixD (dVar 2) (dC (.int 0)))) sNil))
    (sFrz 1 (sRet (dVar 1))))))

def fb_law_common (F_law_fits : List PyData → R PyData) : Ro → Fl :=
  (sSeq (sIf (dOr (dTest (dBin neD (dBin ixD (dVar 0) (dC (.int 1))) (dBin ixD (dVar 1) (dC (.int 1))))) (dTest (dBin neD (dCall lenD (dCons (dBin ixD (dVar 0) (dC (.int 2))) dNil)) (dCall lenD (dCons (dBin ixD (dVar 1) (dC (.int 2))) dNil))))) (sRet (dC (.bool false))) sNil)
    (sSeq (sFor (dZip (dCons (dBin ixD (dVar 0) (dC (.int 2))) (dCons (dBin ixD (dVar 1) (dC (.int 2))) dNil))) (bTup 2 (bCons (bName 3) (bCons (bName 4) bNil))) (sIf (dNot (dTest (dCall anyD (dCons (dAsL (dLc (dItems (dVar 2)) (bName 5) dYes (dAndV (dCallF 2 F_law_fits (dCons (dVar 3) (dCons (dVar 5) dNil))) (dCallF 2 F_law_fits (dCons (dVar 4) (dCons (dVar 5) dNil)))) [5])) dNil)))) (sRet (dC (.bool false))) sNil))
    (sRet (dC (.bool true)))))

def fb__wall : Ro → Fl :=
  (whileGo (dTest (dC (.bool true))) sNil 1000)

def fb_need_call (F_is_call : List PyData → R PyData) : Ro → Fl :=
  (sIf (dNot (dTest (dCallF 1 F_is_call (dCons (dVar 0) dNil)))) (fun ρ => .ex ⟨"NoCall", none⟩ ρ) sNil)

def fb_law_make (F_Standin_call : PyData → List PyData → RS) : Ro → Fx :=
  (xTry (dMethS 3 F_Standin_call 0 (dCons (dBin ixD (dVar 1) (dC (.int 0))) (dCons (dBin ixD (dVar 1) (dC (.int 1))) dNil))) stErr)

-- _law_made: not translated: try with a stand-in
def fb_law_due (F_law_takers : List PyData → R PyData) : Ro → Fl :=
  (sSeq (sAsg (dCallF 3 F_law_takers (dCons (dVar 0) (dCons (dVar 1) (dCons (dVar 2) dNil)))) (bName 4))
    (sSeq (sIf (dTest (dBin eqD (dVar 4) (dAsL (dLst dNil)))) (sRet (dTup (dCons (dC .none) (dCons (dBin ixD (dAsL (dLst (dCons (dC .none) (dCons (dTup (dCons (dC (.str "refused")) (dCons (dC (.int 4)) dNil))) dNil)))) (dCall intD (dCons (dVar 3) dNil))) dNil)))) sNil)
    (sSeq (sAsg (dBin ixD (dVar 0) (dBin ixD (dVar 4) (dC (.int 0)))) (bName 5))
    (sSeq (sAsg (dBin ixD (dBin ixD (dVar 5) (dC (.int 5))) (dCall min2D (dCons (dBin ixD (dVar 1) (dBin ixD (dVar 4) (dC (.int 0)))) (dCons (dBin subD (dCall lenD (dCons (dBin ixD (dVar 5) (dC (.int 5))) dNil)) (dC (.int 1))) dNil)))) (bTup 2 (bCons (bName 6) (bCons (bName 7) bNil))))
    (sSeq (sIf (dTest (dBin eqD (dVar 6) (dC (.str "break")))) (sAsg (dTup (dCons (dC (.str "broken")) (dCons (dVar 7) (dCons (dTup (dCons (dC (.str "refused")) (dCons (dC (.int 5)) dNil))) dNil)))) (bName 7)) sNil)
    (sSeq (sIf (dTest (dBin eqD (dVar 6) (dC (.str "echo")))) (sAsg (dBin ixD (dBin ixD (dVar 2) (dC (.int 1))) (dVar 7)) (bName 7)) sNil)
    (sRet (dTup (dCons (dBin ixD (dVar 4) (dC (.int 0))) (dCons (dVar 7) dNil))))))))))

def fb_law_seen (F_Standin_is_fulfilled : PyData → List PyData → R PyData) (F_Standin_lacking : PyData → List PyData → R PyData) (F_Standin_too_much : PyData → List PyData → R PyData) (F_Standin_taken : PyData → List PyData → R PyData) (F_Standin_calls : PyData → List PyData → R PyData) : Ro → Fx :=
  (xRet (dAsL (dLst (dCons (dMethR F_Standin_calls 0) (dCons (dMethR F_Standin_taken 0) (dCons (dMethR F_Standin_too_much 0) (dCons (dMethR F_Standin_lacking 0) (dCons (dMethR F_Standin_is_fulfilled 0) dNil))))))))

def fb_need_pattern (F_is_pattern : List PyData → R PyData) : Ro → Fl :=
  (sIf (dOr (dNot (dTest (dUn (isiD "tuple") (dVar 0)))) (dOr (dTest (dBin neD (dCall lenD (dCons (dVar 0) dNil)) (dC (.int 2)))) (dNot (dTest (dCallF 2 F_is_pattern (dCons (dBin ixD (dVar 0) (dC (.int 0))) (dCons (dBin ixD (dVar 0) (dC (.int 1))) dNil))))))) (fun ρ => .ex ⟨"NoLikeness", none⟩ ρ) sNil)

def fb_fits_call (F_fits_value : List PyData → R PyData) : Ro → Fl :=
  (sSeq (sIf (dOr (dTest (dBin neD (dBin ixD (dVar 0) (dC (.int 0))) (dBin ixD (dVar 1) (dC (.int 0))))) (dTest (dBin neD (dCall lenD (dCons (dBin ixD (dVar 0) (dC (.int 1))) dNil)) (dCall lenD (dCons (dBin ixD (dVar 1) (dC (.int 1))) dNil))))) (sRet (dC (.bool false))) sNil)
    (sRet (dCall allD (dCons (dAsL (dLc (dZip (dCons (dBin ixD (dVar 0) (dC (.int 1))) (dCons (dBin ixD (dVar 1) (dC (.int 1))) dNil))) (bTup 2 (bCons (bName 2) (bCons (bName 3) bNil))) dYes (dCallF 2 F_fits_value (dCons (dVar 2) (dCons (dVar 3) dNil))) [2, 3])) dNil))))

def fb_places (F_need_calls F_need_pattern F_fits_call : List PyData → R PyData) : Ro → Fl :=
  (sSeq (sExpr (dCallF 1 F_need_calls (dCons (dVar 0) dNil)))
    (sSeq (sExpr (dCallF 1 F_need_pattern (dCons (dVar 1) dNil)))
    (sRet (dAsL (dLc (dEnum (dCons (dVar 0) dNil)) (bTup 2 (bCons (bName 2) (bCons (bName 3) bNil))) (dTest (dCallF 2 F_fits_call (dCons (dVar 1) (dCons (dVar 3) dNil)))) (dVar 2) [2, 3])))))

def fb_in_order (F_need_calls F_need_pattern F_fits_call : List PyData → R PyData) : Ro → Fl :=
  (sSeq (sExpr (dCallF 1 F_need_calls (dCons (dVar 0) dNil)))
    (sSeq (sIf (dNot (dTest (dUn (isiD "list") (dVar 1)))) (fun ρ => .ex ⟨"NoLikeness", none⟩ ρ) sNil)
    (sSeq (sFor (dItems (dVar 1)) (bName 2) (sExpr (dCallF 1 F_need_pattern (dCons (dVar 2) dNil))))
    (sSeq (sAsgL 3 (dLst dNil))
    (sSeq (sAsg (dC (.int 0)) (bName 4))
    (sSeq (sFor (dItems (dVar 1)) (bName 2) (sSeq (whileGo (dAnd (dTest (dBin ltD (dVar 4) (dCall lenD (dCons (dVar 0) dNil)))) (dNot (dTest (dCallF 2 F_fits_call (dCons (dVar 2) (dCons (dBin ixD (dVar 0) (dVar 4)) dNil)))))) (sAsg (dBin addD (dVar 4) (dC (.int 1))) (bName 4)) 1000)
    (sSeq (sIf (dTest (dBin eqD (dVar 4) (dCall lenD (dCons (dVar 0) dNil)))) (sRet (dC .none)) sNil)
    (sSeq (sApp 3 (dVar 4))
    (sAsg (dBin addD (dVar 4) (dC (.int 1))) (bName 4))))))
    (sFrz 3 (sRet (dVar 3)))))))))

def fb_law_lists : Ro → Fl :=
  (sSeq (sAsg (dAsL (dLst (dCons (dAsL (dLst dNil)) dNil))) (bName 1))
    (sSeq (sFor (dItems (dVar 0)) (bName 2) (sSeq (sAsgL 3 (dLst dNil))
    (sSeq (sFor (dItems (dVar 1)) (bName 4) (sExt 3 (dLc (dItems (dVar 2)) (bName 5) (dOr (dTest (dBin eqD (dVar 4) (dAsL (dLst dNil)))) (dTest (dBin gtD (dVar 5) (dBin ixD (dVar 4) (dUn negD (dC (.int 1))))))) (dAsL (dCat (dOfD (dVar 4)) (dLst (dCons (dVar 5) dNil)))) [5])))
    (sFrz 3 (sAsg (dVar 3) (bName 1))))))
    (sRet (dVar 1))))

def fb_nearest (F_need_book F_need_call F_fits_value : List PyData → R PyData) : Ro → Fl :=
  (sSeq (sExpr (dCallF 1 F_need_book (dCons (dVar 0) dNil)))
    (sSeq (sExpr (dCallF 1 F_need_call (dCons (dVar 1) dNil)))
    (sSeq (sAsgL 2 (dLst dNil))
    (sSeq (sFor (dItems (dVar 0)) (bTup 7 (bCons (bName 3) (bCons (bName 4) (bCons (bName 5) (bCons (bName 6) (bCons (bName 7) (bCons (bName 8) (bCons (bName 9) bNil)))))))) (sIf (dAnd (dTest (dBin eqD (dVar 4) (dBin ixD (dVar 1) (dC (.int 0))))) (dTest (dBin eqD (dCall lenD (dCons (dVar 5) dNil)) (dCall lenD (dCons (dBin ixD (dVar 1) (dC (.int 1))) dNil))))) (sSeq (sAsg (dAsL (dLc (dEnum (dCons (dVar 5) dNil)) (bTup 2 (bCons (bName 12) (bCons (bName 13) bNil))) (dNot (dTest (dCallF 2 F_fits_value (dCons (dVar 13) (dCons (dBin ixD (dBin ixD (dVar 1) (dC (.int 1))) (dVar 12)) dNil))))) (dVar 12) [12, 13])) (bName 10))
    (sApp 2 (dTup (dCons (dVar 3) (dCons (dVar 10) dNil))))) sNil))
    (sSeq (sFrz 2 (sAsg (dCall minL (dCons (dAsL (dCat (dLc (dItems (dVar 2)) (bTup 2 (bCons (bName 3) (bCons (bName 10) bNil))) dYes (dCall lenD (dCons (dVar 10) dNil)) [3, 10]) (dLst (dCons (dC (.int 9)) dNil)))) dNil)) (bName 11)))
    (sFrz 2 (sRet (dAsL (dLc (dItems (dVar 2)) (bTup 2 (bCons (bName 3) (bCons (bName 10) bNil))) (dTest (dBin eqD (dCall lenD (dCons (dVar 10) dNil)) (dVar 11))) (dTup (dCons (dVar 3) (dCons (dVar 10) dNil))) [3, 10])))))))))

-- value_text: not translated: call ' '.join([value_text(one) for one in value])
-- shown: not translated: call ', '.join([value_text(value) for value in call[1]])
def fb_read_leaf : Ro → Fl :=
  (sSeq (sIf (dTest (dBin inD (dVar 0) (dC (.tuple [.str "none", .str "false", .str "true"])))) (sRet (dBin ixD (dAsL (dLst (dCons (dC .none) (dCons (dC (.bool false)) (dCons (dC (.bool true)) dNil))))) (dMeth isLst idxD (dC (.tuple [.str "none", .str "false", .str "true"])) (dCons (dVar 0) dNil)))) sNil)
    (sSeq (sIf (dAnd (dTest (dBin gtD (dCall lenD (dCons (dVar 0) dNil)) (dC (.int 2)))) (dAnd (dTest (dBin eqD (dBin ixD (dVar 0) (dC (.int 0))) (dC (.str "'")))) (dTest (dBin eqD (dBin ixD (dVar 0) (dUn negD (dC (.int 1)))) (dC (.str "'")))))) (sRet (dSl (dVar 0) (some (dC (.int 1))) (some (dUn negD (dC (.int 1)))))) sNil)
    (sSeq (sAsg (dIf (dTest (dMeth isStr startsD (dVar 0) (dCons (dC (.str "-")) dNil))) (dSl (dVar 0) (some (dC (.int 1))) none) (dVar 0)) (bName 1))
    (sSeq (sIf (dAnd (dTest (dChain leD leD (dC (.int 1)) (dCall lenD (dCons (dVar 1) dNil)) (dC (.int 3)))) (dTest (dCall allD (dCons (dAsL (dLc (dItems (dVar 1)) (bName 2) dYes (dBin inD (dVar 2) (dC (.str "0123456789"))) [2])) dNil)))) (sRet (dCall intD (dCons (dVar 0) dNil))) sNil)
    (sRet (dAsL (dLst (dCons (dVar 0) dNil))))))))

-- read_value: not translated: call text[1:-1].split(' ')
-- read: not translated: call text[:-1].partition('(')
-- _law_text: not translated: call ' '.join([_law_text(one) for one in value])
def fb_law_read (F_read : List PyData → R PyData) : Ro → Fl :=
  (sTry 1 whX (dCallF 1 F_read (dCons (dVar 0) dNil)))

def fb_law_ordered : Ro → Fl :=
  (sSeq (sFor (dItems (dVar 0)) (bName 2) (sSeq (sAsg (dAsL (dLc (dEnum (dCons (dVar 1) dNil)) (bTup 2 (bCons (bName 6) (bCons (bName 7) bNil))) (dTest (dBin eqD (dVar 7) (dBin ixD (dVar 2) (dC (.int 0))))) (dVar 6) [6, 7])) (bName 3))
    (sSeq (sIf (dTest (dBin gtD (dCall lenD (dCons (dVar 3) dNil)) (dBin ixD (dVar 2) (dC (.int 4))))) (sRet (dC (.bool false))) sNil)
    (sFor (dItems (dVar 0)) (bName 4) (sIf (dAnd (dTest (dBin inD (dBin ixD (dVar 4) (dC (.int 0))) (dBin ixD (dVar 2) (dC (.int 6))))) (dTest (dBin neD (dVar 3) (dAsL (dLst dNil))))) (sSeq (sAsg (dAsL (dLc (dEnum (dCons (dVar 1) dNil)) (bTup 2 (bCons (bName 6) (bCons (bName 7) bNil))) (dTest (dBin eqD (dVar 7) (dBin ixD (dVar 4) (dC (.int 0))))) (dVar 6) [6, 7])) (bName 5))
    (sIf (dOr (dTest (dBin ltD (dCall lenD (dCons (dVar 5) dNil)) (dBin ixD (dVar 4) (dC (.int 3))))) (dTest (dCall anyD (dCons (dAsL (dLc (dItems (dVar 5)) (bName 6) dYes (dBin gtD (dVar 6) (dBin ixD (dVar 3) (dC (.int 0)))) [6])) dNil)))) (sRet (dC (.bool false))) sNil)) sNil)))))
    (sRet (dC (.bool true))))

-- _law_bad_book_to: not translated: call [checked, crossed, idle][what](bad)
-- _law_bad_call_to: not translated: call [shared, ways][what - 1](book, [bad])
-- _law_refusal: not translated: Try(body=[If(test=Compare(left=Name(id='kind', ctx=Load()), ops=[Eq()], comparators=[Constant(value=
def fb_law_bad_call (F_law_bad_value F_law_mixed : List PyData → R PyData) : Ro → Fl :=
  (sSeq (sAsgL 2 (dLst (dCons (dC .none) (dCons (dTup (dCons (dC (.str "a")) dNil)) (dCons (dTup (dCons (dC (.str "A")) (dCons (dTup dNil) dNil))) (dCons (dTup (dCons (dC (.str "")) (dCons (dTup dNil) dNil))) (dCons (dTup (dCons (dC (.str "a")) (dCons (dAsL (dLst (dCons (dC (.int 1)) dNil))) dNil))) (dCons (dAsL (dLst (dCons (dC (.str "a")) (dCons (dTup dNil) dNil)))) (dCons (dTup (dCons (dC (.str "a")) (dCons (dTup (dCons (dC (.int 1)) (dCons (dC (.int 2)) (dCons (dC (.int 3)) dNil)))) dNil))) (dCons (dTup (dCons (dC (.str "abcdefg")) (dCons (dTup dNil) dNil))) dNil))))))))))
    (sSeq (sExt 2 (dLst (dCons (dTup (dCons (dC (.str "a")) (dCons (dTup dNil) (dCons (dTup dNil) dNil)))) (dCons (dTup (dCons (dC (.int 1)) (dCons (dTup dNil) dNil))) dNil))))
    (sSeq (sApp 2 (dTup (dCons (dC (.str "a")) (dCons (dTup (dCons (dCallF 2 F_law_bad_value (dCons (dVar 0) (dCons (dBin addD (dVar 1) (dC (.int 1))) dNil))) dNil)) dNil))))
    (sSeq (sApp 2 (dTup (dCons (dC (.str "a")) (dCons (dTup (dCons (dC .none) (dCons (dCallF 2 F_law_bad_value (dCons (dVar 0) (dCons (dBin addD (dVar 1) (dC (.int 1))) dNil))) dNil))) dNil))))
    (sFrz 2 (sRet (dBin ixD (dVar 2) (dCallF 3 F_law_mixed (dCons (dVar 0) (dCons (dVar 1) (dCons (dC (.int 12)) dNil)))))))))))

-- _law_call_at: not translated: try with a stand-in
def fb_sorts_at (F_bare_parts F_values_for F_fits_value : List PyData → R PyData) : Ro → Fl :=
  (sSeq (sAsgL 2 (dLst dNil))
    (sSeq (sFor (dItems (dVar 0)) (bName 3) (sExt 2 (dOfD (dCallF 1 F_bare_parts (dCons (dBin ixD (dBin ixD (dVar 3) (dC (.int 2))) (dVar 1)) dNil)))))
    (sSeq (sAsgT 4)
    (sSeq (sFrz 2 (sFor (dItems (dCallF 1 F_values_for (dCons (dVar 2) dNil))) (bName 5) (sSeq (sAsg (dCall tupleD (dCons (dAsL (dLc (dItems (dVar 0)) (bName 3) dYes (dCallF 2 F_fits_value (dCons (dBin ixD (dBin ixD (dVar 3) (dC (.int 2))) (dVar 1)) (dCons (dVar 5) dNil))) [3])) dNil)) (bName 6))
    (sIf (dTest (dBinR ninD (dVar 6) (dOwL 4))) (sPutT 4 (dVar 6) (dVar 5)) sNil))))
    (sFrzT 4 (sRet (dAsL (dLc (dItems (dAsL (dKeysT (dVar 4)))) (bName 6) dYes (dBin ixT (dVar 4) (dVar 6)) [6]))))))))

-- calls_for: not translated: built-in set
def fb_behind (F_likes F_may_take : List PyData → R PyData) : Ro → Fl :=
  (sSeq (sAsgT 3)
    (sSeq (sFor (dItems (dVar 1)) (bName 4) (sFor (dEnum (dCons (dVar 0) dNil)) (bTup 2 (bCons (bName 5) (bCons (bName 6) bNil))) (sIf (dAnd (dTest (dCallF 2 F_likes (dCons (dVar 6) (dCons (dVar 2) dNil)))) (dTest (dCallF 3 F_may_take (dCons (dVar 0) (dCons (dVar 4) (dCons (dVar 5) dNil)))))) (sPutT 3 (dBin addD (dBin addD (dSl (dVar 4) none (some (dVar 5))) (dTup (dCons (dBin addD (dBin ixD (dVar 4) (dVar 5)) (dC (.int 1))) dNil))) (dSl (dVar 4) (some (dBin addD (dVar 5) (dC (.int 1)))) none)) (dC (.bool true))) sNil)))
    (sFrzT 3 (sRet (dCall tupleD (dCons (dAsL (dSorted (dKeysT (dVar 3)))) dNil))))))

def fb_enough : Ro → Fl :=
  (sRet (dCall anyD (dCons (dAsL (dLc (dItems (dVar 1)) (bName 2) dYes (dCall allD (dCons (dAsL (dLc (dZip (dCons (dVar 2) (dCons (dVar 0) dNil))) (bTup 2 (bCons (bName 3) (bCons (bName 4) bNil))) dYes (dBin geD (dVar 3) (dBin ixD (dVar 4) (dC (.int 3)))) [3, 4])) dNil)) [2])) dNil)))

-- parted_by: not translated: no new list: {first: []}
def fb_parted (F_need_book F_parted_by : List PyData → R PyData) : Ro → Fl :=
  (sSeq (sExpr (dCallF 1 F_need_book (dCons (dVar 0) dNil)))
    (sSeq (sExpr (dCallF 1 F_need_book (dCons (dVar 1) dNil)))
    (sRet (dCallF 2 F_parted_by (dCons (dVar 0) (dCons (dVar 1) dNil))))))

def fb_are_alike (F_need_book F_parted_by : List PyData → R PyData) : Ro → Fl :=
  (sSeq (sExpr (dCallF 1 F_need_book (dCons (dVar 0) dNil)))
    (sSeq (sExpr (dCallF 1 F_need_book (dCons (dVar 1) dNil)))
    (sRet (dBin isND (dCallF 2 F_parted_by (dCons (dVar 0) (dCons (dVar 1) dNil))) (dC .none)))))

-- _law_classes: not translated: built-in set
def fb_law_behind (F_law_takers F_law_more : List PyData → R PyData) : Ro → Fl :=
  (sSeq (sAsgT 3)
    (sSeq (sFor (dItems (dVar 1)) (bName 4) (sFor (dItems (dCallF 3 F_law_takers (dCons (dVar 0) (dCons (dVar 4) (dCons (dVar 2) dNil))))) (bName 5) (sPutT 3 (dCallF 2 F_law_more (dCons (dVar 4) (dCons (dVar 5) dNil))) (dC (.bool true)))))
    (sFrzT 3 (sRet (dCall tupleD (dCons (dAsL (dSorted (dKeysT (dVar 3)))) dNil))))))

def fb_law_good (F_law_enough : List PyData → R PyData) : Ro → Fl :=
  (sRet (dCall anyD (dCons (dAsL (dLc (dItems (dVar 1)) (bName 2) dYes (dCallF 2 F_law_enough (dCons (dVar 0) (dCons (dVar 2) dNil))) [2])) dNil)))

-- _law_far: not translated: no new list: {first: 0}
def fb_is_row (F_is_call F_is_value : List PyData → R PyData) : Ro → Fl :=
  (sRet (dAndV (dUn (isiD "tuple") (dVar 0)) (dAndV (dBin eqD (dCall lenD (dCons (dVar 0) dNil)) (dC (.int 2))) (dAndV (dCallF 1 F_is_call (dCons (dBin ixD (dVar 0) (dC (.int 0))) dNil)) (dCallF 1 F_is_value (dCons (dBin ixD (dVar 0) (dC (.int 1))) dNil))))))

def fb_same_call (F_same_as : List PyData → R PyData) : Ro → Fl :=
  (sSeq (sIf (dOr (dTest (dBin neD (dBin ixD (dVar 0) (dC (.int 0))) (dBin ixD (dVar 1) (dC (.int 0))))) (dTest (dBin neD (dCall lenD (dCons (dBin ixD (dVar 0) (dC (.int 1))) dNil)) (dCall lenD (dCons (dBin ixD (dVar 1) (dC (.int 1))) dNil))))) (sRet (dC (.bool false))) sNil)
    (sRet (dCall allD (dCons (dAsL (dLc (dZip (dCons (dBin ixD (dVar 0) (dC (.int 1))) (dCons (dBin ixD (dVar 1) (dC (.int 1))) dNil))) (bTup 2 (bCons (bName 2) (bCons (bName 3) bNil))) dYes (dCallF 2 F_same_as (dCons (dVar 2) (dCons (dVar 3) dNil))) [2, 3])) dNil))))

def fb_answers_of (F_same_as : List PyData → R PyData) : Ro → Fl :=
  (sSeq (sAsgL 1 (dListOf (dVar 0)))
    (sSeq (whileGo (dAnd (dTest (dBin gtD (dLenL (dOwL 1)) (dC (.int 1)))) (dTest (dCallF 2 F_same_as (dCons (dIxL (dOwL 1) (dUn negD (dC (.int 1)))) (dCons (dIxL (dOwL 1) (dUn negD (dC (.int 2)))) dNil))))) (sPopX 1) 1000)
    (sFrz 1 (sRet (dCall tupleD (dCons (dAsL (dLc (dItems (dVar 1)) (bName 2) dYes (dTup (dCons (dC (.str "give")) (dCons (dVar 2) dNil))) [2])) dNil))))))

-- learned: not translated: call known[0][1].append(value)
end Pu
namespace Pu
open PySem PySem.Spec PyProof.Rows L2
variable [MemoSpec]
theorem isE_at (a : Addr) (b : Bool) (r : Ro) : dIsE 0 a b (some (.rf a) :: r) = .ok (.bool b) := by
  show (if a = a then R.ok (PyData.bool b) else .no) = _
  rw [if_pos rfl]
theorem which_run (v1 v2 v3 v4 v5 v6 v7 v8 : Bool) (b : Str → Bool) (a : Addr) (h1 : b "NoValue" = v1) (h2 : b "NoLikeness" = v2) (h3 : b "NoCall" = v3) (h4 : b "NoBook" = v4) (h5 : b "Unwished" = v5) (h6 : b "Broken" = v6) (h7 : b "NoText" = v7) (h8 : b "TooMany" = v8) :
    fb_law_which b a [some (.rf a), none] = sSeq (sFrz 1 (sIf (dOr (dTest (dBin neD (dMeth isLst cntD (dVar 1) (dCons (dC (.bool true)) dNil)) (dC (.int 1)))) (dNot (dTest (dC (.bool true))))) (sRet (dTup (dCons (dC (.str "refused")) (dCons (dUn negD (dC (.int 1))) dNil)))) sNil))
    (sFrz 1 (sRet (dTup (dCons (dC (.str "refused")) (dCons (dMeth isLst idxD (dVar 1) (dCons (dC (.bool true)) dNil)) dNil))))) [some (.rf a), some (.ow (.list [.bool v1, .bool v2, .bool v3, .bool v4, .bool v5, .bool v6, .bool v7, .bool v8]))] := by
  subst h1 h2 h3 h4 h5 h6 h7 h8
  have e1 : sAsgL 1 (dLst (dCons (dIsE 0 a (b "NoValue")) (dCons (dIsE 0 a (b "NoLikeness")) (dCons (dIsE 0 a (b "NoCall")) (dCons (dIsE 0 a (b "NoBook")) dNil))))) [some (.rf a), none] = .nx [some (.rf a), some (.ow (.list [.bool (b "NoValue"), .bool (b "NoLikeness"), .bool (b "NoCall"), .bool (b "NoBook")]))] := by
    simp [sAsgL, dLst, dCons, dNil, isE_at]
  have e2 : sExt 1 (dLst (dCons (dIsE 0 a (b "Unwished")) (dCons (dIsE 0 a (b "Broken")) (dCons (dIsE 0 a (b "NoText")) (dCons (dIsE 0 a (b "TooMany")) dNil))))) [some (.rf a), some (.ow (.list [.bool (b "NoValue"), .bool (b "NoLikeness"), .bool (b "NoCall"), .bool (b "NoBook")]))] = .nx [some (.rf a), some (.ow (.list [.bool (b "NoValue"), .bool (b "NoLikeness"), .bool (b "NoCall"), .bool (b "NoBook"), .bool (b "Unwished"), .bool (b "Broken"), .bool (b "NoText"), .bool (b "TooMany")]))] := by
    simp [sExt, ownL, dLst, dCons, dNil, isE_at]
  unfold fb_law_which
  have e3 : ∀ r, dIsE 0 a true (some (.rf a) :: r) = dC (.bool true) (some (.rf a) :: r) := fun r => isE_at a true r
  unfold sSeq
  rw [e1]
  dsimp only
  rw [e2]
  dsimp only
  simp only [sFrz, List.getElem?_cons_succ, List.getElem?_cons_zero, List.set, sIf, dOr, dNot, dTest, e3]
theorem law_which_is {xn : Str} (hx : xn ∈ raised) : ∀ a, fb_law_which (fun c => decide (xn = c)) a (some (.rf a) :: List.replicate (2 - 1) none) = .rt (whichD xn) := by
  intro a
  simp only [raised, List.mem_cons, List.not_mem_nil, or_false] at hx
  show fb_law_which (fun c => decide (xn = c)) a [some (.rf a), none] = _
  rcases hx with h | h | h | h | h | h | h <;> subst h
  · rw [which_run true false false false false false false false _ a (by decide +kernel) (by decide +kernel) (by decide +kernel) (by decide +kernel) (by decide +kernel) (by decide +kernel) (by decide +kernel) (by decide +kernel)]; rfl
  · rw [which_run false true false false false false false false _ a (by decide +kernel) (by decide +kernel) (by decide +kernel) (by decide +kernel) (by decide +kernel) (by decide +kernel) (by decide +kernel) (by decide +kernel)]; rfl
  · rw [which_run false false true false false false false false _ a (by decide +kernel) (by decide +kernel) (by decide +kernel) (by decide +kernel) (by decide +kernel) (by decide +kernel) (by decide +kernel) (by decide +kernel)]; rfl
  · rw [which_run false false false true false false false false _ a (by decide +kernel) (by decide +kernel) (by decide +kernel) (by decide +kernel) (by decide +kernel) (by decide +kernel) (by decide +kernel) (by decide +kernel)]; rfl
  · rw [which_run false false false false true false false false _ a (by decide +kernel) (by decide +kernel) (by decide +kernel) (by decide +kernel) (by decide +kernel) (by decide +kernel) (by decide +kernel) (by decide +kernel)]; rfl
  · rw [which_run false false false false false false true false _ a (by decide +kernel) (by decide +kernel) (by decide +kernel) (by decide +kernel) (by decide +kernel) (by decide +kernel) (by decide +kernel) (by decide +kernel)]; rfl
  · rw [which_run false false false false false false false true _ a (by decide +kernel) (by decide +kernel) (by decide +kernel) (by decide +kernel) (by decide +kernel) (by decide +kernel) (by decide +kernel) (by decide +kernel)]; rfl
theorem law_told_is (g : Addr) (F : List PyData → R PyData) : ∀ ds, toldF whX (fun ds => if ds.length = 2 then F ds else .no) ds ≠ .no → runT 4 g (fb_law_told g F) ds = toldF whX (fun ds => if ds.length = 2 then F ds else .no) ds := by
  intro ds hne
  match ds, hne with
  | [], h => exact (h rfl).elim
  | [x], h => exact (h rfl).elim
  | [x, y], h =>
    have e : fb_law_told g F (startT 4 g [x, y]) = sTry 3 whX (fun _ => F [x, y]) (startT 4 g [x, y]) := by
      unfold fb_law_told sTry
      have : dCallR 0 g 2 F (dCons (dVar 1) (dCons (dVar 2) dNil)) (startT 4 g [x, y]) = F [x, y] := by
        show (if g = g then dCallF 2 F (dCons (dVar 1) (dCons (dVar 2) dNil)) (startT 4 g [x, y]) else .no) = _
        rw [if_pos rfl]
        rfl
      rw [this]
    unfold runT
    rw [e]
    unfold sTry toldF
    rw [if_pos (by show 3 < 4; decide)]
    cases k : F [x, y] with
    | ok d => simp [k]
    | no => simp [k]
    | ex xc =>
      simp [k]
      cases whX xc <;> rfl
  | x :: y :: z :: r, h => exact (h (by simp [toldF])).elim
end Pu

namespace Pu
open PySem PySem.Spec PyProof.Rows L2
variable [MemoSpec]
/-! ### values: the mirror -/
def letters : Str := "abcdefghijklmnopqrstuvwxyz"
def lett (c : Nat) : Bool := decide (c ∈ letters.cps.toList)
def isWhole (lo hi : Int) : PyData → Bool
  | .int i => decide (lo ≤ i) && decide (i ≤ hi)
  | _ => false
def isWord : PyData → Bool
  | .str s => decide (1 ≤ s.length) && (decide (s.length ≤ 6) && s.cps.toList.all lett)
  | _ => false
def isLeaf (d : PyData) : Bool := isNone d || (isBool d || (isWhole (-999) 999 d || isWord d))
def isVal : PyData → Bool
  | .tuple ds => decide (ds.length ≤ 2) && ds.all isLeaf
  | d => isLeaf d
def kindD : PyData → Str
  | .none => "none"
  | .bool _ => "truth"
  | .int _ => "number"
  | .str _ => "text"
  | _ => "row"
abbrev F_is_whole := runD 3 fb_is_whole
abbrev F_is_word := runD 2 fb_is_word
abbrev F_is_leaf := runD 1 (fb_is_leaf F_is_whole F_is_word)
abbrev F_is_value := runD 2 (fb_is_value F_is_leaf)
abbrev F_need_value := runD 1 (fb_need_value F_is_value)
abbrev F_kind_of := runD 1 fb_kind_of
theorem is_whole_eq (d : PyData) (lo hi : Int) : F_is_whole [d, .int lo, .int hi] = .ok (.bool (isWhole lo hi d)) := by
  refine runD_rt ?_
  cases d <;> simp [fb_is_whole, startR, isi_int, isi_bool, isInt, isBool, isWhole]
  split <;> simp_all <;> (intro _; omega)
theorem sgnIn_1 (c : Nat) (s : Str) : inD (.str ⟨#[c]⟩) (.str s) = some (.bool (decide (c ∈ s.cps.toList))) := rfl
def lettP : PyData → Bool
  | .str ⟨⟨[c]⟩⟩ => lett c
  | _ => false
theorem word_comp (s : Str) : lcGo (bName 1) dYes (dBin inD (dVar 1) (dC (.str "abcdefghijklmnopqrstuvwxyz"))) [some (.fz (.str s)), none] (s.cps.toList.map fun c => PyData.str ⟨#[c]⟩) = some ((s.cps.toList.map fun c => PyData.str ⟨#[c]⟩).map fun d => .bool (lettP d)) :=
  lcGo_map (fun d hd => by
    obtain ⟨c, _, rfl⟩ := List.mem_map.mp hd
    exact ⟨_, rfl, rfl⟩)
theorem word_all (l : List Nat) : ((l.map fun c => PyData.str ⟨#[c]⟩).map lettP).all id = l.all lett := by
  induction l with
  | nil => rfl
  | cons c l ih => simp only [List.map_cons, List.all_cons, ih]; rfl
theorem is_word_eq (d : PyData) : F_is_word [d] = .ok (.bool (isWord d)) := by
  refine runD_rt ?_
  cases d <;> simp [fb_is_word, startR, isi_str, isStr, isWord]
  rename_i s
  have hl : s.cps.toList.length = s.length := by simp [Str.length]
  by_cases h1 : 1 ≤ s.length
  · by_cases h2 : s.length ≤ 6
    · have h3 : s.cps.size ≤ 1000000 := by have : s.cps.size = s.length := rfl; omega
      have i1 : (1 : Int) ≤ s.length := by omega
      have i2 : (s.length : Int) ≤ 6 := by omega
      have e := word_all s.cps.toList
      have e' := e.trans (by simp : _ = s.cps.all lett)
      simp only [h1, h2, i1, i2, h3, word_comp, allD, bools_map, if_true, Option.map_some, R.of_some, R.bind_ok, Fl.of_ok, e', decide_true, Bool.true_and, asB_b]
    · have i1 : (1 : Int) ≤ s.length := by omega
      have i2 : ¬ (s.length : Int) ≤ 6 := by omega
      simp [h1, h2, i1, i2]
  · have i1 : ¬ (1 : Int) ≤ s.length := by omega
    simp [h1, i1]
theorem is_leaf_eq (d : PyData) : F_is_leaf [d] = .ok (.bool (isLeaf d)) := by
  refine runD_rt ?_
  have h1 := is_whole_eq d (-999) 999
  have h2 := is_word_eq d
  simp only [fb_is_leaf, startR, List.map_cons, List.map_nil, List.length_cons, List.length_nil, List.replicate, sRet_ap, dOrV_ap, dBin_ap, dVar_0, dC_ap, R.bind_ok, isND_n, R.of_some, asB_b, dUn_ap, isi_bool, dCallF_ap, dCons_ap, dNil_ap, negD_i, h1, h2, if_true, List.nil_append, List.cons_append, List.append_nil]
  unfold isLeaf
  cases isNone d <;> cases isBool d <;> cases isWhole (-999) 999 d <;> cases isWord d <;> rfl
theorem is_value_eq (d : PyData) : F_is_value [d] = .ok (.bool (isVal d)) := by
  refine runD_rt ?_
  cases d <;> simp [fb_is_value, startR, isi_tup, isTup, isVal, is_leaf_eq]
  rename_i ds
  by_cases h : ds.length ≤ 2
  · have h2 : ds.length ≤ 1000000 := by omega
    have i1 : (ds.length : Int) ≤ 2 := by omega
    have e : lcGo (bName 1) dYes (dCallF 1 F_is_leaf (dCons (dVar 1) dNil)) [some (.fz (.tuple ds)), none] ds = some (ds.map fun d => .bool (isLeaf d)) := lcGo_map fun d _ => ⟨_, rfl, by simp [is_leaf_eq]⟩
    simp [h, h2, i1, e, allD, bools_map]
  · have i1 : ¬ (ds.length : Int) ≤ 2 := by omega
    simp [h, i1]
theorem need_value_ok {d : PyData} (h : isVal d = true) : F_need_value [d] = .ok .none := by
  refine runD_nx (ρ := [some (.fz d)]) ?_
  simp [fb_need_value, startR, is_value_eq, h]
theorem need_value_ex {d : PyData} (h : isVal d = false) : F_need_value [d] = .ex ⟨"NoValue", none⟩ := by
  refine runD_ex (ρ := [some (.fz d)]) ?_
  simp [fb_need_value, startR, is_value_eq, h]
theorem kind_of_eq (d : PyData) : F_kind_of [d] = .ok (.str (kindD d)) := by
  refine runD_rt ?_
  cases d <;> simp [fb_kind_of, startR, isi_bool, isi_int, isi_str, isNone, isBool, isInt, isStr, kindD]
end Pu

namespace Pu
open PySem PySem.Spec PyProof.Rows L2
variable [MemoSpec]
/-! ### the script -/
abbrev scr (ns : List Int) : PyData := .list (ns.map .int)
abbrev F_cell := runD 2 fb_law_cell_at
abbrev F_mixed := runD 4 (fb_law_mixed F_cell)
def cellZ (ns : List Int) (k : Int) : Int :=
  if k < ns.length then (ns[k.toNat]?).getD 0 else if ns = [] then 0 else (ns[(k % ns.length).toNat]?).getD 0 * 31 + k
def mixZ (ns : List Int) (k many : Int) : Int :=
  let d := (cellZ ns k + 7919 * k + 1) * 48271 % 2147483647
  (d * d + 7 * d + k) % 2147483629 % many
theorem mixZ_nn (ns : List Int) (k many : Int) (h : 0 < many) : 0 ≤ mixZ ns k many := Int.emod_nonneg _ (by omega)
theorem mixZ_lt (ns : List Int) (k many : Int) (h : 0 < many) : mixZ ns k many < many := Int.emod_lt_of_pos _ h
theorem atI_ge {α : Type} {xs : List α} {i : Int} (h0 : 0 ≤ i) (d : α) (h : xs[i.toNat]? = some d) : atI xs i = some d := by
  have h1 : i.toNat < xs.length := (List.getElem?_eq_some_iff.mp h).1
  unfold atI ixN
  rw [if_pos h0, if_pos (by omega)]
  exact h
theorem atI_scr {ns : List Int} {i : Int} (h0 : 0 ≤ i) (h1 : i < ns.length) : atI (ns.map PyData.int) i = some (.int ((ns[i.toNat]?).getD 0)) := by
  have h2 : i.toNat < ns.length := by omega
  refine atI_ge h0 _ ?_
  rw [List.getElem?_map, List.getElem?_eq_getElem h2]
  rfl
theorem mulD_r (i j : Int) (h : -(2 ^ 64) < j ∧ j < 2 ^ 64) : mulD (.int i) (.int j) = some (.int (i * j)) := by
  show (if cMul i j = true then _ else _) = _
  rw [if_pos]
  simp only [cMul, h.1, h.2, decide_true, Bool.and_self, Bool.or_true]
theorem mulD_l (i j : Int) (h : -(2 ^ 64) < i ∧ i < 2 ^ 64) : mulD (.int i) (.int j) = some (.int (i * j)) := by
  show (if cMul i j = true then _ else _) = _
  rw [if_pos]
  simp only [cMul, h.1, h.2, decide_true, Bool.and_self, Bool.true_or]
theorem modD_p (i j : Int) (h : 0 < j) : modD (.int i) (.int j) = some (.int (i % j)) := by
  show (if decide (0 < j) = true then _ else _) = _
  rw [if_pos (by simpa using h)]
/-- data with no dict, at most n deep -/
def okN (n : Nat) (d : PyData) : Bool := nodict d && decide (d.depth ≤ n)
theorem okN_okd {n : Nat} {d : PyData} (h : okN n d = true) (hn : n ≤ 64) : okd d = true := by
  unfold okN at h
  unfold okd
  simp only [Bool.and_eq_true, decide_eq_true_eq] at *
  exact ⟨h.1, by omega⟩
theorem okN_alls {n : Nat} : ∀ {ds : List PyData}, (∀ d ∈ ds, okN n d = true) → nodicts ds = true ∧ PyData.depthAll ds ≤ n
  | [], _ => ⟨rfl, Nat.zero_le _⟩
  | d :: ds, h => by
    have h1 := h d (by simp)
    have h2 := okN_alls (ds := ds) fun x hx => h x (by simp [hx])
    unfold okN at h1
    simp only [Bool.and_eq_true, decide_eq_true_eq] at h1
    refine ⟨by simp [nodicts, h1.1, h2.1], ?_⟩
    show max _ _ ≤ _
    exact Nat.max_le.mpr ⟨h1.2, h2.2⟩
theorem okN_list {n : Nat} {ds : List PyData} (h : ∀ d ∈ ds, okN n d = true) : okN (n + 1) (.list ds) = true := by
  obtain ⟨h1, h2⟩ := okN_alls h
  unfold okN
  simp only [Bool.and_eq_true, decide_eq_true_eq]
  exact ⟨by simp [nodict, h1], by simp [PyData.depth]; omega⟩
theorem okN_tup {n : Nat} {ds : List PyData} (h : ∀ d ∈ ds, okN n d = true) : okN (n + 1) (.tuple ds) = true := by
  obtain ⟨h1, h2⟩ := okN_alls h
  unfold okN
  simp only [Bool.and_eq_true, decide_eq_true_eq]
  exact ⟨by simp [nodict, h1], by simp [PyData.depth]; omega⟩
theorem okN_flat {n : Nat} {d : PyData} (h : flatP d = true) : okN n d = true := by
  cases d <;> simp_all [flatP, okN, nodict, PyData.depth]
theorem okd_flat {d : PyData} (h : flatP d = true) : okd d = true := okN_okd (n := 0) (okN_flat h) (by omega)
@[simp] theorem okd_n : okd .none = true := rfl
@[simp] theorem okd_b (b : Bool) : okd (.bool b) = true := rfl
@[simp] theorem okd_i (b : Int) : okd (.int b) = true := rfl
@[simp] theorem okd_s (b : Str) : okd (.str b) = true := rfl
theorem okd_scr (ns : List Int) : okd (scr ns) = true :=
  okN_okd (n := 1) (okN_list fun d hd => by obtain ⟨i, _, rfl⟩ := List.mem_map.mp hd; exact okN_flat rfl) (by omega)
@[simp] theorem eqD_i (i j : Int) : eqD (.int i) (.int j) = some (.bool (i == j)) := rfl
@[simp] theorem neD_i (i j : Int) : neD (.int i) (.int j) = some (.bool (!(i == j))) := rfl
@[simp] theorem eqD_s (i j : Str) : eqD (.str i) (.str j) = some (.bool (i == j)) := rfl
@[simp] theorem neD_s (i j : Str) : neD (.str i) (.str j) = some (.bool (!(i == j))) := rfl
theorem eqD_ok {d e : PyData} (h1 : okd d = true) (h2 : okd e = true) : eqD d e = some (.bool (PyData.eqv d e)) := by unfold eqD; rw [h1, h2]; rfl
theorem neD_ok {d e : PyData} (h1 : okd d = true) (h2 : okd e = true) : neD d e = some (.bool (!PyData.eqv d e)) := by unfold neD; rw [h1, h2]; rfl
theorem cell_eq (ns : List Int) (k : Int) (hk : 0 ≤ k) : F_cell [scr ns, .int k] = .ok (.int (cellZ ns k)) := by
  refine runD_rt ?_
  by_cases h1 : k < ns.length
  · simp [fb_law_cell_at, startR, h1, atI_scr hk h1, cellZ]
  · have h5 : eqD (scr ns) (.list []) = some (.bool (decide (ns = []))) := by
      rw [eqD_ok (okd_scr ns) rfl]
      cases ns <;> rfl
    by_cases h2 : ns = []
    · subst h2
      have h6 : ¬ k < 0 := by omega
      simp [fb_law_cell_at, startR, h6, h5, cellZ]
    · have h3 : (0 : Int) < ns.length := by have := List.length_pos_iff.mpr h2; omega
      simp [fb_law_cell_at, startR, h1, h5, h2, cellZ, modD_p _ _ h3, atI_scr (Int.emod_nonneg k (by omega)) (Int.emod_lt_of_pos k h3), mulD_r]
theorem mixed_eq (ns : List Int) (k many : Int) (hk : 0 ≤ k) (hm : 0 < many) : F_mixed [scr ns, .int k, .int many] = .ok (.int (mixZ ns k many)) := by
  refine runD_rt ?_
  have hd : ∀ x : Int, -(2 ^ 64) < x % 2147483647 ∧ x % 2147483647 < 2 ^ 64 := fun x => by omega
  have e1 : ∀ x : Int, mulD (.int x) (.int 48271) = some (.int (x * 48271)) := fun x => mulD_r _ _ (by omega)
  have e2 : ∀ x : Int, mulD (.int 7919) (.int x) = some (.int (7919 * x)) := fun x => mulD_l _ _ (by omega)
  have e3 : ∀ x : Int, mulD (.int 7) (.int x) = some (.int (7 * x)) := fun x => mulD_l _ _ (by omega)
  have e4 : ∀ x : Int, mulD (.int (x % 2147483647)) (.int (x % 2147483647)) = some (.int ((x % 2147483647) * (x % 2147483647))) := fun x => mulD_r _ _ (hd x)
  simp only [fb_law_mixed, startR, List.map_cons, List.map_nil, List.length_cons, List.length_nil, List.replicate, sSeq_ap, sAsg_ap, sRet_ap, dBin_ap, dVar_0, dVar_s, dC_ap, dCallF_ap, dCons_ap, dNil_ap, R.bind_ok, R.of_some, cell_eq ns k hk, if_true, e1, e2, e3, e4, addD_i, modD_p _ _ hm, modD_p _ 2147483647 (by omega), modD_p _ 2147483629 (by omega), bName_ap, List.set, List.append_nil, List.nil_append, List.cons_append, Fl.of_ok, mixZ]
theorem dRange1_ap (f : Ro → R (List PyData)) (ρ : Ro) (j : Int) (h : f ρ = .ok [.int j]) (h0 : 0 ≤ j) (h1 : j ≤ 1000000) : dRange1 f ρ = .ok ((List.range j.toNat).map fun (i : Nat) => PyData.int (i : Int)) := by
  unfold dRange1
  rw [h]
  show (if _ then R.ok _ else .no) = _
  rw [if_pos (by omega)]
  simp
theorem atI_of {α : Type} {xs : List α} {P : α → Prop} (h : ∀ d ∈ xs, P d) {i : Int} (h0 : 0 ≤ i) (h1 : i < xs.length) : ∃ d, atI xs i = some d ∧ P d := by
  have h2 : i.toNat < xs.length := by omega
  exact ⟨xs[i.toNat], atI_ge h0 _ (List.getElem?_eq_getElem h2), h _ (List.getElem_mem h2)⟩
/-! ### words -/
def Word (s : Str) : Prop := isWord (.str s) = true
theorem Word_iff {s : Str} : Word s ↔ 1 ≤ s.length ∧ s.length ≤ 6 ∧ ∀ c ∈ s.cps.toList, lett c = true := by
  unfold Word isWord
  simp only [Bool.and_eq_true, List.all_eq_true, decide_eq_true_eq]
abbrev F_word := runD 4 (fb_law_word F_mixed)
theorem forGo_inv {b : PyData → Ro → Option Ro} {body : Ro → Fl} (N : Nat) (P : Nat → Ro → Prop) : ∀ {ds : List PyData} {ρ : Ro} {n : Nat}, P n ρ → n + ds.length ≤ N → (∀ d ∈ ds, ∀ n ρ, n < N → P n ρ → ∃ ρ1 ρ2, b d ρ = some ρ1 ∧ body ρ1 = .nx ρ2 ∧ P (n + 1) ρ2) → ∃ ρ', forGo b body ρ ds = .nx ρ' ∧ P (n + ds.length) ρ'
  | [], ρ, n, h, _, _ => ⟨ρ, rfl, h⟩
  | d :: ds, ρ, n, h, l, k => by
    rw [List.length_cons] at l
    obtain ⟨ρ1, ρ2, e1, e2, h2⟩ := k d (by simp) n ρ (by omega) h
    obtain ⟨ρ', e3, h3⟩ := forGo_inv N P (ds := ds) h2 (by omega) fun x hx => k x (by simp [hx])
    refine ⟨ρ', ?_, by rw [List.length_cons]; simpa [Nat.add_assoc, Nat.add_comm 1] using h3⟩
    unfold forGo
    rw [e1]
    show (match body ρ1 with | .nx ρ2 => _ | .ct ρ2 => _ | .bk ρ2 => _ | r => r) = _
    rw [e2]
    exact e3
theorem cps_add (s t : Str) : (s ++ t).cps.toList = s.cps.toList ++ t.cps.toList := by
  show (s.cps ++ t.cps).toList = _
  simp
theorem len_add (s t : Str) : (s ++ t).length = s.length + t.length := by
  show (s.cps ++ t.cps).size = _
  simp [Str.length]
theorem len_list (s : Str) : s.cps.toList.length = s.length := by simp [Str.length]
/-- a letter of the letters -/
theorem letter_at {i : Int} (h0 : 0 ≤ i) (h1 : i < 26) : ∃ c, ixD (.str "abcdefghijklmnopqrstuvwxyz") (.int i) = some (.str ⟨#[c]⟩) ∧ lett c = true := by
  have l : letters.cps.toList.length = 26 := by decide +kernel
  obtain ⟨c, e, hc⟩ := atI_of (xs := letters.cps.toList) (P := fun c => lett c = true) (by decide +kernel) h0 (i := i) (by omega)
  exact ⟨c, by show (atI letters.cps.toList i).map _ = _; rw [e]; rfl, hc⟩
theorem word_eq5 (ns : List Int) (at_ : Int) (h : 0 ≤ at_) : ∃ s, F_word [scr ns, .int at_] = .ok (.str s) ∧ Word s ∧ s.length ≠ 5 := by
  obtain ⟨d, e1, n, rfl, hn1, hn6, hn5⟩ := atI_of (α := PyData) (xs := [.int 1, .int 2, .int 3, .int 6, .int 1, .int 4]) (P := fun d => ∃ n : Nat, d = .int n ∧ 1 ≤ n ∧ n ≤ 6 ∧ n ≠ 5) (by
    intro d hd
    simp only [List.mem_cons, List.not_mem_nil, or_false] at hd
    rcases hd with h | h | h | h | h | h <;> subst h
    · exact ⟨1, rfl, by omega, by omega, by omega⟩
    · exact ⟨2, rfl, by omega, by omega, by omega⟩
    · exact ⟨3, rfl, by omega, by omega, by omega⟩
    · exact ⟨6, rfl, by omega, by omega, by omega⟩
    · exact ⟨1, rfl, by omega, by omega, by omega⟩
    · exact ⟨4, rfl, by omega, by omega, by omega⟩) (mixZ_nn ns at_ 6 (by omega)) (mixZ_lt ns at_ 6 (by omega))
  obtain ⟨ρ', e2, s, k, hs, hl, hρ⟩ := forGo_inv (b := bName 3) (body := sAsg (dBin addD (dVar 2) (dBin ixD (dC (.str "abcdefghijklmnopqrstuvwxyz")) (dCallF 3 F_mixed (dCons (dVar 0) (dCons (dBin addD (dBin addD (dVar 1) (dC (.int 1))) (dVar 3)) (dCons (dC (.int 26)) dNil)))))) (bName 2)) 6 
    (fun m ρ => ∃ s k, s.length = m ∧ (∀ c ∈ s.cps.toList, lett c = true) ∧ ρ = [some (.fz (scr ns)), some (.fz (.int at_)), some (.fz (.str s)), k]) (ds := (List.range n).map fun (i : Nat) => PyData.int (i : Int)) (ρ := [some (.fz (scr ns)), some (.fz (.int at_)), some (.fz (.str "")), none]) (n := 0) ⟨"", none, rfl, by decide +kernel, rfl⟩ (by simpa using hn6) (by
      intro d hd m ρ hm ⟨s, k, h1, h2, h3⟩
      obtain ⟨i, hi, rfl⟩ := List.mem_map.mp hd
      subst h3
      obtain ⟨c, e3, hc⟩ := letter_at (mixZ_nn ns (at_ + 1 + i) 26 (by omega)) (mixZ_lt ns (at_ + 1 + i) 26 (by omega))
      have e4 := mixed_eq ns (at_ + 1 + i) 26 (by omega) (by omega)
      have e5 : addD (.str s) (.str ⟨#[c]⟩) = some (.str (s ++ ⟨#[c]⟩)) := by
        show (if s.length + 1 ≤ 1000000 then _ else _) = _
        rw [if_pos (by omega)]
      refine ⟨_, _, rfl, by simp [e4, e3, e5]; rfl, s ++ ⟨#[c]⟩, _, ?_, ?_, rfl⟩
      · rw [len_add, h1]; rfl
      · intro x hx
        rw [cps_add] at hx
        rcases List.mem_append.mp hx with k | k
        · exact h2 x k
        · simp at k; rw [k]; exact hc)
  subst hρ
  simp only [List.length_map, List.length_range, Nat.zero_add] at hs
  refine ⟨s, runD_rt ?_, Word_iff.mpr ⟨by omega, by omega, hl⟩, by omega⟩
  have e6 := mixed_eq ns at_ 6 h (by omega)
  have e7 := dRange1_ap (dCons (dBin ixD (dAsL (dLst (dCons (dC (.int 1)) (dCons (dC (.int 2)) (dCons (dC (.int 3)) (dCons (dC (.int 6)) (dCons (dC (.int 1)) (dCons (dC (.int 4)) dNil)))))))) (dCallF 3 F_mixed (dCons (dVar 0) (dCons (dVar 1) (dCons (dC (.int 6)) dNil))))) dNil) [some (.fz (scr ns)), some (.fz (.int at_)), some (.fz (.str "")), none] n (by simp [e6, e1]) (by omega) (by omega)
  simp [fb_law_word, startR, e7]
  simp [e2]
theorem word_eq (ns : List Int) (at_ : Int) (h : 0 ≤ at_) : ∃ s, F_word [scr ns, .int at_] = .ok (.str s) ∧ Word s := by
  obtain ⟨s, h1, h2, _⟩ := word_eq5 ns at_ h
  exact ⟨s, h1, h2⟩
end Pu

namespace Pu
open PySem PySem.Spec PyProof.Rows L2
variable [MemoSpec]
/-! ### pools, leaves, values -/
def Pool (p : PyData) : Prop := ∃ ns ws : List PyData, p = .tuple [.list ns, .list ws] ∧ ns.length = 3 ∧ ws.length = 3 ∧ (∀ d ∈ ns, isWhole (-999) 999 d = true) ∧ ∀ d ∈ ws, isWord d = true
abbrev F_pool := runD 6 (fb_law_pool F_mixed F_word)
abbrev F_leaf := runD 4 (fb_law_leaf F_mixed)
abbrev F_value := runD 5 (fb_law_value F_mixed F_leaf)
theorem word_cut {s t : Str} (hs : Word s) (ht : Word t) : Word (cutS (s ++ t) none (some 6)) := by
  obtain ⟨a1, a2, a3⟩ := Word_iff.mp hs
  obtain ⟨b1, b2, b3⟩ := Word_iff.mp ht
  have hl := len_list (s ++ t)
  have hL := len_add s t
  have e : (cutS (s ++ t) none (some 6)).cps.toList = (s ++ t).cps.toList.take (min 6 (s ++ t).length) := by
    show ((s ++ t).cps.toList.drop 0).take (HT.sIx (s ++ t).length (s ++ t).length (some ((6 : Nat) : Int)) - 0) = _
    rw [HT.sIx_nat, List.drop_zero, Nat.sub_zero]
  have e2 := len_list (cutS (s ++ t) none (some 6))
  rw [e, List.length_take] at e2
  refine Word_iff.mpr ⟨by omega, by omega, fun c hc => ?_⟩
  rw [e] at hc
  have h := List.mem_of_mem_take hc
  rw [cps_add] at h
  rcases List.mem_append.mp h with k | k
  · exact a3 c k
  · exact b3 c k
theorem addD_w {s t : Str} (hs : Word s) (ht : Word t) : addD (.str s) (.str t) = some (.str (s ++ t)) := by
  obtain ⟨_, h1, _⟩ := Word_iff.mp hs
  obtain ⟨_, h2, _⟩ := Word_iff.mp ht
  show (if s.length + t.length ≤ 1000000 then _ else _) = _
  rw [if_pos (by omega)]
theorem whole_of {i : Int} (h0 : -999 ≤ i) (h1 : i ≤ 999) : isWhole (-999) 999 (.int i) = true := by
  simp [isWhole, h0, h1]
theorem pool_eq (ns : List Int) (at_ : Int) (h : 0 ≤ at_) : ∃ p, F_pool [scr ns, .int at_] = .ok p ∧ Pool p := by
  have m1 := mixed_eq ns at_ 1999 h (by omega)
  have m2 := mixed_eq ns (at_ + 1) 4 (by omega) (by omega)
  have a1 := mixZ_nn ns at_ 1999 (by omega)
  have a2 := mixZ_lt ns at_ 1999 (by omega)
  obtain ⟨w1, e1, h1⟩ := word_eq ns (at_ + 2) (by omega)
  obtain ⟨w2, e2, h2⟩ := word_eq ns (at_ + 10) (by omega)
  obtain ⟨w3, e3, h3⟩ := word_eq ns (at_ + 20) (by omega)
  obtain ⟨d, e4, n, rfl, h4, h5⟩ := atI_of (α := PyData) (xs := [.int 0, .int 1, .int (-999), .int 999]) (P := fun d => ∃ n : Int, d = .int n ∧ -999 ≤ n ∧ n ≤ 999) (by
    intro d hd
    simp only [List.mem_cons, List.not_mem_nil, or_false] at hd
    rcases hd with h | h | h | h <;> subst h <;> exact ⟨_, rfl, by omega, by omega⟩) (mixZ_nn ns (at_ + 1) 4 (by omega)) (mixZ_lt ns (at_ + 1) 4 (by omega))
  have e5 := addD_w h1 h2
  refine ⟨_, runD_rt (by simp [fb_law_pool, startR, m1, m2, e1, e2, e3, e4, e5, slD]; exact ⟨rfl, rfl⟩), _, _, rfl, rfl, rfl, ?_, ?_⟩
  · intro d hd
    simp only [List.mem_cons, List.not_mem_nil, or_false] at hd
    rcases hd with h | h | h <;> subst h
    · exact whole_of (by omega) (by omega)
    · split <;> exact whole_of (by omega) (by omega)
    · exact whole_of h4 h5
  · intro d hd
    simp only [List.mem_cons, List.not_mem_nil, or_false] at hd
    rcases hd with h | h | h <;> subst h
    · exact h1
    · exact word_cut h1 h2
    · exact h3
theorem leaf_eq (ns : List Int) (at_ : Int) (h : 0 ≤ at_) {p : PyData} (hp : Pool p) : ∃ d, F_leaf [scr ns, .int at_, p] = .ok d ∧ isLeaf d = true := by
  obtain ⟨xs, ws, rfl, l1, l2, h1, h2⟩ := hp
  have m1 := mixed_eq ns at_ 8 h (by omega)
  have m2 := mixed_eq ns (at_ + 1) 3 (by omega) (by omega)
  have a1 := mixZ_nn ns at_ 8 (by omega)
  have a2 := mixZ_lt ns at_ 8 (by omega)
  have b0 : ∀ x y : PyData, atI [x, y] 0 = some x := fun _ _ => rfl
  have b1 : ∀ x y : PyData, atI [x, y] 1 = some y := fun _ _ => rfl
  by_cases c1 : mixZ ns at_ 8 < 3
  · obtain ⟨d, e1, e2⟩ := atI_of (α := PyData) (xs := [.none, .bool true, .bool false]) (P := fun d => isLeaf d = true) (by
      intro d hd
      simp only [List.mem_cons, List.not_mem_nil, or_false] at hd
      rcases hd with h | h | h <;> subst h <;> rfl) a1 c1
    exact ⟨d, runD_rt (by simp [fb_law_leaf, startR, m1, c1, e1]), e2⟩
  · by_cases c2 : mixZ ns at_ 8 < 6
    · obtain ⟨d, e1, e2⟩ := atI_of h1 (i := mixZ ns at_ 8 - 3) (by omega) (by omega)
      exact ⟨d, runD_rt (by simp [fb_law_leaf, startR, m1, c1, c2, e1, b0]), by simp [isLeaf, e2]⟩
    · obtain ⟨d, e1, e2⟩ := atI_of h2 (i := mixZ ns (at_ + 1) 3) (mixZ_nn _ _ _ (by omega)) (by have := mixZ_lt ns (at_ + 1) 3 (by omega); omega)
      exact ⟨d, runD_rt (by simp [fb_law_leaf, startR, m1, m2, c1, c2, e1, b1]), by simp [isLeaf, e2]⟩
theorem val_of_leaf {d : PyData} (h : isLeaf d = true) : isVal d = true := by
  cases d <;> first | exact h | (simp [isLeaf, isNone, isBool, isWhole, isWord] at h)
/-- a comprehension whose items keep a law -/
theorem lcGo_all {b : PyData → Ro → Option Ro} {fe : Ro → R PyData} {ρ : Ro} {P : PyData → Prop} : ∀ {ds : List PyData}, (∀ d ∈ ds, ∃ ρ' y, b d ρ = some ρ' ∧ fe ρ' = .ok y ∧ P y) → ∃ ys, lcGo b dYes fe ρ ds = some ys ∧ ys.length = ds.length ∧ ∀ y ∈ ys, P y
  | [], _ => ⟨[], rfl, rfl, by simp⟩
  | d :: ds, h => by
    obtain ⟨ρ', y, h1, h2, h3⟩ := h d (by simp)
    obtain ⟨ys, i1, i2, i3⟩ := lcGo_all (b := b) (fe := fe) (ρ := ρ) (P := P) (ds := ds) fun x hx => h x (by simp [hx])
    refine ⟨y :: ys, ?_, by simp [i2], ?_⟩
    · unfold lcGo
      rw [h1]
      simp [h2, i1]
    · intro z hz
      rcases List.mem_cons.mp hz with k | k
      · exact k ▸ h3
      · exact i3 z k
theorem value_eq (ns : List Int) (at_ : Int) (h : 0 ≤ at_) {p : PyData} (hp : Pool p) : ∃ d, F_value [scr ns, .int at_, p] = .ok d ∧ isVal d = true := by
  have m1 := mixed_eq ns at_ 6 h (by omega)
  obtain ⟨d, e1, n, rfl, hn⟩ := atI_of (α := PyData) (xs := [.int 9, .int 9, .int 9, .int 0, .int 1, .int 2]) (P := fun d => ∃ n : Nat, d = .int n ∧ (n = 9 ∨ n ≤ 2)) (by
    intro d hd
    simp only [List.mem_cons, List.not_mem_nil, or_false] at hd
    rcases hd with h | h | h | h | h | h <;> subst h
    · exact ⟨9, rfl, by omega⟩
    · exact ⟨9, rfl, by omega⟩
    · exact ⟨9, rfl, by omega⟩
    · exact ⟨0, rfl, by omega⟩
    · exact ⟨1, rfl, by omega⟩
    · exact ⟨2, rfl, by omega⟩) (mixZ_nn ns at_ 6 (by omega)) (mixZ_lt ns at_ 6 (by omega))
  rcases hn with rfl | hn
  · obtain ⟨d, e2, h2⟩ := leaf_eq ns (at_ + 1) (by omega) hp
    exact ⟨d, runD_rt (by simp [fb_law_value, startR, m1, e1, e2]), val_of_leaf h2⟩
  · obtain ⟨ys, e2, l2, h2⟩ := lcGo_all (b := bName 4) (fe := dCallF 3 F_leaf (dCons (dVar 0) (dCons (dBin addD (dBin addD (dVar 1) (dC (.int 3))) (dBin mulD (dC (.int 3)) (dVar 4))) (dCons (dVar 2) dNil)))) (ρ := [some (.fz (scr ns)), some (.fz (.int at_)), some (.fz p), some (.fz (.int n)), none]) (P := fun d => isLeaf d = true) (ds := (List.range n).map fun (i : Nat) => PyData.int (i : Int)) (by
      intro d hd
      obtain ⟨i, hi, rfl⟩ := List.mem_map.mp hd
      obtain ⟨y, e3, h3⟩ := leaf_eq ns (at_ + 3 + 3 * i) (by omega) hp
      exact ⟨_, y, rfl, by simp [mulD_l, e3], h3⟩)
    have e7 := dRange1_ap (dCons (dVar 3) dNil) [some (.fz (scr ns)), some (.fz (.int at_)), some (.fz p), some (.fz (.int n)), none] n (by simp) (by omega) (by omega)
    have n9 : ¬ (n : Int) = 9 := by omega
    simp only [List.length_map, List.length_range] at l2
    refine ⟨.tuple ys, runD_rt ?_, ?_⟩
    · simp [fb_law_value, startR, m1, e1, n9, e7]
      rw [if_pos (by omega)]
      simp [e2]
    · simp [isVal, l2, hn, h2]
      exact h2
end Pu

namespace Pu
open PySem PySem.Spec PyProof.Rows L2
variable [MemoSpec]
/-! ### same -/
theorem dZip_t (f : Ro → R (List PyData)) (ρ : Ro) (xs ys : List PyData) (h : f ρ = .ok [.tuple xs, .tuple ys]) : dZip f ρ = .ok (zipD xs ys) := by unfold dZip; rw [h]; rfl
theorem dZip_l (f : Ro → R (List PyData)) (ρ : Ro) (xs ys : List PyData) (h : f ρ = .ok [.list xs, .list ys]) : dZip f ρ = .ok (zipD xs ys) := by unfold dZip; rw [h]; rfl
def sameL (d e : PyData) : Bool := (kindD d == kindD e) && PyData.eqv d e
def sameLs : List PyData → List PyData → Bool
  | [], [] => true
  | x :: xs, y :: ys => sameL x y && sameLs xs ys
  | _, _ => false
/-- what same says of two values -/
def sameD : PyData → PyData → Bool
  | .tuple xs, .tuple ys => sameLs xs ys
  | d, e => sameL d e
def F_same_as : Nat → List PyData → R PyData
  | 0 => fun _ => .no
  | n + 1 => runD 4 (fb_same_as F_kind_of (F_same_as n))
abbrev F_sort_of := runD 1 (fb_sort_of F_need_value F_kind_of)
abbrev F_same := runD 2 (fb_same F_need_value (F_same_as 2))
abbrev F_law_kind := runD 1 fb_law_kind
def F_law_same : Nat → List PyData → R PyData
  | 0 => fun _ => .no
  | n + 1 => runD 4 (fb_law_same F_law_kind (F_law_same n))
theorem leaf_flat {d : PyData} (h : isLeaf d = true) : flatP d = true := by
  cases d <;> first | rfl | (simp [isLeaf, isNone, isBool, isWhole, isWord] at h)
theorem kindD_t (xs : List PyData) : kindD (.tuple xs) = "row" := rfl
theorem kr1 : (("none" : Str) == ("row" : Str)) = false := by decide +kernel
theorem kr2 : (("truth" : Str) == ("row" : Str)) = false := by decide +kernel
theorem kr3 : (("number" : Str) == ("row" : Str)) = false := by decide +kernel
theorem kr4 : (("text" : Str) == ("row" : Str)) = false := by decide +kernel
theorem leaf_row {d : PyData} (h : isLeaf d = true) : (kindD d == ("row" : Str)) = false := by
  cases d <;> first | exact kr1 | exact kr2 | exact kr3 | exact kr4 | (simp [isLeaf, isNone, isBool, isWhole, isWord] at h)
theorem same_as_leaf (n : Nat) {d e : PyData} (hd : isLeaf d = true) (he : isLeaf e = true) : F_same_as (n + 1) [d, e] = .ok (.bool (sameL d e)) := by
  have h1 := eqD_ok (okd_flat (leaf_flat hd)) (okd_flat (leaf_flat he))
  have h2 := leaf_row hd
  refine runD_rt ?_
  unfold sameL
  cases k : kindD d == kindD e
  · simp [fb_same_as, startR, kind_of_eq, k]
  · simp [fb_same_as, startR, kind_of_eq, k, h1, h2]
theorem zip_same {F : List PyData → R PyData} (hF : ∀ d e, isLeaf d = true → isLeaf e = true → F [d, e] = .ok (.bool (sameL d e))) {ρ : Ro} (l4 : ρ.length = 4) : ∀ {xs ys : List PyData}, xs.length = ys.length → (∀ d ∈ xs, isLeaf d = true) → (∀ d ∈ ys, isLeaf d = true) → ∃ bs : List Bool, lcGo (bTup 2 (bCons (bName 2) (bCons (bName 3) bNil))) dYes (dCallF 2 F (dCons (dVar 2) (dCons (dVar 3) dNil))) ρ (zipD xs ys) = some (bs.map PyData.bool) ∧ bs.all id = sameLs xs ys
  | [], [], _, _, _ => ⟨[], rfl, rfl⟩
  | [], _ :: _, h, _, _ => by simp at h
  | _ :: _, [], h, _, _ => by simp at h
  | x :: xs, y :: ys, h, hx, hy => by
    obtain ⟨bs, e1, e2⟩ := zip_same hF l4 (xs := xs) (ys := ys) (by simpa using h) (fun d hd => hx d (by simp [hd])) (fun d hd => hy d (by simp [hd]))
    refine ⟨sameL x y :: bs, ?_, by simp [sameLs, ← e2]⟩
    match ρ, l4 with
    | [r0, r1, r2, r3], _ =>
      unfold zipD lcGo
      simp [hF x y (hx x (by simp)) (hy y (by simp)), e1]
theorem bools_bs : ∀ bs : List Bool, bools (bs.map PyData.bool) = some bs
  | [] => rfl
  | b :: bs => by simp [bools, bools_bs bs]
theorem allD_bs (bs : List Bool) : allD [.list (bs.map PyData.bool)] = some (.bool (bs.all id)) := by
  simp [allD, bools_bs]
theorem sameLs_len : ∀ xs ys : List PyData, ¬ xs.length = ys.length → sameLs xs ys = false
  | [], [], h => (h rfl).elim
  | [], _ :: _, _ => rfl
  | _ :: _, [], _ => rfl
  | x :: xs, y :: ys, h => by simp [sameLs, sameLs_len xs ys (by simpa using h)]
theorem val_tup {xs : List PyData} (h : isVal (.tuple xs) = true) : xs.length ≤ 2 ∧ ∀ d ∈ xs, isLeaf d = true := by
  simpa [isVal] using h
theorem val_leaf {d : PyData} (h : isVal d = true) : (∃ xs, d = .tuple xs) ∨ isLeaf d = true := by
  cases d <;> first | exact .inr h | exact .inl ⟨_, rfl⟩
theorem same_as_val {d e : PyData} (hd : isVal d = true) (he : isVal e = true) : F_same_as 2 [d, e] = .ok (.bool (sameD d e)) := by
  rcases val_leaf hd with ⟨xs, rfl⟩ | kd
  · rcases val_leaf he with ⟨ys, rfl⟩ | ke
    · obtain ⟨l1, a1⟩ := val_tup hd
      obtain ⟨l2, a2⟩ := val_tup he
      refine runD_rt ?_
      have z := dZip_t (dCons (dVar 0) (dCons (dVar 1) dNil)) [some (.fz (.tuple xs)), some (.fz (.tuple ys)), none, none] xs ys (by simp)
      by_cases l : xs.length = ys.length
      · obtain ⟨bs, e1, e2⟩ := zip_same (F := F_same_as 1) (fun d e h1 h2 => same_as_leaf 0 h1 h2) (ρ := [some (.fz (.tuple xs)), some (.fz (.tuple ys)), none, none]) rfl l a1 a2
        have zl : (zipD xs ys).length ≤ 1000000 := by rw [zipD_len]; omega
        simp [fb_same_as, startR, kind_of_eq, kindD, l, z, zl, e1, allD_bs, e2, sameD]
      · have l' : ¬ (xs.length : Int) = ys.length := by omega
        simp [fb_same_as, startR, kind_of_eq, kindD, l, l', sameD, sameLs_len xs ys l]
    · have k : ("row" == kindD e) = false := by
        have := leaf_row ke
        cases h : ("row" == kindD e) <;> simp_all
      have s : sameD (.tuple xs) e = false := by
        cases e <;> first | (simp [sameD, sameL, kindD, PyData.eqv]; done) | (simp [isLeaf, isNone, isBool, isWhole, isWord] at ke)
      refine runD_rt ?_
      simp [fb_same_as, startR, kind_of_eq, kindD_t, k, s]
  · rcases val_leaf he with ⟨ys, rfl⟩ | ke
    · have k : (kindD d == "row") = false := leaf_row kd
      have s : sameD d (.tuple ys) = false := by
        cases d <;> first | (simp [sameD, sameL, kindD, PyData.eqv]; done) | (simp [isLeaf, isNone, isBool, isWhole, isWord] at kd)
      refine runD_rt ?_
      simp [fb_same_as, startR, kind_of_eq, kindD_t, k, s]
    · rw [same_as_leaf 1 kd ke]
      cases d <;> first | rfl | (simp [isLeaf, isNone, isBool, isWhole, isWord] at kd)
theorem same_eq {d e : PyData} (hd : isVal d = true) (he : isVal e = true) : F_same [d, e] = .ok (.bool (sameD d e)) := by
  refine runD_rt ?_
  simp [fb_same, startR, need_value_ok hd, need_value_ok he, same_as_val hd he]
theorem same_ex1 {d : PyData} (e : PyData) (hd : isVal d = false) : F_same [d, e] = .ex ⟨"NoValue", none⟩ := by
  refine runD_ex (ρ := [some (.fz d), some (.fz e)]) ?_
  simp [fb_same, startR, need_value_ex hd]
theorem same_ex2 {d e : PyData} (hd : isVal d = true) (he : isVal e = false) : F_same [d, e] = .ex ⟨"NoValue", none⟩ := by
  refine runD_ex (ρ := [some (.fz d), some (.fz e)]) ?_
  simp [fb_same, startR, need_value_ok hd, need_value_ex he]
theorem sort_of_eq {d : PyData} (hd : isVal d = true) : F_sort_of [d] = .ok (.str (kindD d)) := by
  refine runD_rt ?_
  simp [fb_sort_of, startR, need_value_ok hd, kind_of_eq]
theorem law_kind_eq (d : PyData) : F_law_kind [d] = .ok (.str (kindD d)) := by
  have b0 : ∀ x y z : PyData, atI [x, y, z] 0 = some x := fun _ _ _ => rfl
  have b1 : ∀ x y z : PyData, atI [x, y, z] 1 = some y := fun _ _ _ => rfl
  have b2 : ∀ x y z : PyData, atI [x, y, z] 2 = some z := fun _ _ _ => rfl
  refine runD_rt ?_
  cases d <;> simp [fb_law_kind, startR, isi_bool, isi_int, isi_str, isNone, isBool, isInt, isStr, kindD, mulD_r, b0, b1, b2]
theorem law_same_leaf (n : Nat) {d e : PyData} (hd : isLeaf d = true) (he : isLeaf e = true) : F_law_same (n + 1) [d, e] = .ok (.bool (sameL d e)) := by
  have h1 := eqD_ok (okd_flat (leaf_flat hd)) (okd_flat (leaf_flat he))
  have h2 : isTup d = false := by cases d <;> first | rfl | (simp [isLeaf, isNone, isBool, isWhole, isWord] at hd)
  refine runD_rt ?_
  unfold sameL
  cases k : kindD d == kindD e
  · simp [fb_law_same, startR, law_kind_eq, k]
  · simp [fb_law_same, startR, law_kind_eq, k, h1, isi_tup, h2]
theorem law_same_val {d e : PyData} (hd : isVal d = true) (he : isVal e = true) : F_law_same 2 [d, e] = .ok (.bool (sameD d e)) := by
  rcases val_leaf hd with ⟨xs, rfl⟩ | kd
  · rcases val_leaf he with ⟨ys, rfl⟩ | ke
    · obtain ⟨l1, a1⟩ := val_tup hd
      obtain ⟨l2, a2⟩ := val_tup he
      refine runD_rt ?_
      have z := dZip_t (dCons (dVar 0) (dCons (dVar 1) dNil)) [some (.fz (.tuple xs)), some (.fz (.tuple ys)), none, none] xs ys (by simp)
      by_cases l : xs.length = ys.length
      · obtain ⟨bs, e1, e2⟩ := zip_same (F := F_law_same 1) (fun d e h1 h2 => law_same_leaf 0 h1 h2) (ρ := [some (.fz (.tuple xs)), some (.fz (.tuple ys)), none, none]) rfl l a1 a2
        have zl : (zipD xs ys).length ≤ 1000000 := by rw [zipD_len]; omega
        simp [fb_law_same, startR, law_kind_eq, kindD, l, z, zl, e1, allD_bs, e2, sameD, isi_tup, isTup]
      · have l' : ¬ (xs.length : Int) = ys.length := by omega
        simp [fb_law_same, startR, law_kind_eq, kindD, l, l', sameD, sameLs_len xs ys l, isi_tup, isTup]
    · have k : ("row" == kindD e) = false := by
        have := leaf_row ke
        cases h : ("row" == kindD e) <;> simp_all
      have s : sameD (.tuple xs) e = false := by
        cases e <;> first | (simp [sameD, sameL, kindD, PyData.eqv]; done) | (simp [isLeaf, isNone, isBool, isWhole, isWord] at ke)
      refine runD_rt ?_
      simp [fb_law_same, startR, law_kind_eq, kindD_t, k, s]
  · rcases val_leaf he with ⟨ys, rfl⟩ | ke
    · have k : (kindD d == "row") = false := leaf_row kd
      have s : sameD d (.tuple ys) = false := by
        cases d <;> first | (simp [sameD, sameL, kindD, PyData.eqv]; done) | (simp [isLeaf, isNone, isBool, isWhole, isWord] at kd)
      refine runD_rt ?_
      simp [fb_law_same, startR, law_kind_eq, kindD_t, k, s]
    · rw [law_same_leaf 1 kd ke]
      cases d <;> first | rfl | (simp [isLeaf, isNone, isBool, isWhole, isWord] at kd)
theorem eqv_leaf {d : PyData} (h : isLeaf d = true) : PyData.eqv d d = true := by
  cases d <;> first | (simp [PyData.eqv]; done) | (simp [isLeaf, isNone, isBool, isWhole, isWord] at h)
theorem sameL_refl {d : PyData} (h : isLeaf d = true) : sameL d d = true := by simp [sameL, eqv_leaf h]
theorem sameLs_refl : ∀ {ds : List PyData}, (∀ d ∈ ds, isLeaf d = true) → sameLs ds ds = true
  | [], _ => rfl
  | d :: ds, h => by simp [sameLs, sameL_refl (h d (by simp)), sameLs_refl (ds := ds) fun x hx => h x (by simp [hx])]
theorem sameD_refl {d : PyData} (h : isVal d = true) : sameD d d = true := by
  rcases val_leaf h with ⟨xs, rfl⟩ | k
  · exact sameLs_refl (val_tup h).2
  · have := sameL_refl k
    cases d <;> first | exact this | (simp [isLeaf, isNone, isBool, isWhole, isWord] at k)
theorem sort_of_ex {d : PyData} (hd : isVal d = false) : F_sort_of [d] = .ex ⟨"NoValue", none⟩ := by
  refine runD_ex (ρ := [some (.fz d)]) ?_
  simp [fb_sort_of, startR, need_value_ex hd]
end Pu

namespace Pu
open PySem PySem.Spec PyProof.Rows L2
variable [MemoSpec]
/-! ### asked, told, the law -/
abbrev F_law_told := toldF whX (fun ds => if ds.length = 2 then F_same ds else .no)
abbrev F_law_bad := runD 3 (fb_law_bad_value F_mixed)
def refused (i : Int) : PyData := .tuple [.str "refused", .int i]
theorem which_of (x : Str) (i : Nat) (h1 : raised.contains x = true) (h2 : (excNames.findIdx fun y => decide (x = y)) = i) : whX ⟨x, none⟩ = some (refused i) := by
  unfold whX
  rw [if_pos (by simpa using h1)]
  show some (PyData.tuple [.str "refused", .int ((excNames.findIdx fun y => decide (x = y) : Nat) : Int)]) = _
  rw [h2]
  rfl
theorem whX_nv : whX ⟨"NoValue", none⟩ = some (refused 0) := which_of _ 0 (by decide +kernel) (by decide +kernel)
theorem sTry_ok {i : Nat} {wh : Xc → Option PyData} {f : Ro → R PyData} {ρ : Ro} {d : PyData} (h : f ρ = .ok d) (hi : i < ρ.length) : sTry i wh f ρ = .rt d := by
  unfold sTry; rw [if_pos hi, h]
theorem sTry_ex {i : Nat} {wh : Xc → Option PyData} {f : Ro → R PyData} {ρ : Ro} {x : Xc} {d : PyData} (h : f ρ = .ex x) (hw : wh x = some d) (hi : i < ρ.length) : sTry i wh f ρ = .rt d := by
  unfold sTry; rw [if_pos hi, h]; simp [hw]
theorem told_ok {d e : PyData} (h : isVal d = true) (h' : isVal e = true) : F_law_told [d, e] = .ok (.bool (sameD d e)) := by
  simp [toldF, same_eq h h']
theorem told_ex1 {d : PyData} (e : PyData) (h : isVal d = false) : F_law_told [d, e] = .ok (refused 0) := by
  simp [toldF, same_ex1 e h, whX_nv]
theorem told_ex2 {d e : PyData} (h : isVal d = true) (h' : isVal e = false) : F_law_told [d, e] = .ok (refused 0) := by
  simp [toldF, same_ex2 h h', whX_nv]
theorem bad_eq (ns : List Int) (at_ : Int) (h : 0 ≤ at_) : ∃ d, F_law_bad [scr ns, .int at_] = .ok d ∧ isVal d = false := by
  have m1 := mixed_eq ns at_ 14 h (by omega)
  obtain ⟨d, e1, e2⟩ := atI_of (α := PyData) (xs := [.int 1000, .int (-1000), .str "", .str "A", .str "abcdefg", .str "a b", .list [.int 1], .tuple [.int 1, .int 2, .int 3], .tuple [.tuple [.int 1]], .tuple [.tuple []], .tuple [.list [.int 1]], .dict [(.str "a", .int 1)], .tuple [.int 1000], .tuple [.str "A"]]) (P := fun d => isVal d = false) (by
    intro d hd
    simp only [List.mem_cons, List.not_mem_nil, or_false] at hd
    rcases hd with h | h | h | h | h | h | h | h | h | h | h | h | h | h <;> subst h <;> decide +kernel) (mixZ_nn ns at_ 14 (by omega)) (mixZ_lt ns at_ 14 (by omega))
  exact ⟨d, runD_rt (by simp [fb_law_bad_value, startR, m1, dDict, dVals, e1]), e2⟩
theorem ref_eq (i : Int) : eqD (refused i) (refused i) = some (.bool true) := by
  rw [eqD_ok rfl rfl]
  simp [refused, PyData.eqv, PyData.eqvAll]
theorem ref_ne (i : Int) : neD (refused i) (refused i) = some (.bool false) := by
  rw [neD_ok rfl rfl]
  simp [refused, PyData.eqv, PyData.eqvAll]
theorem neD_bb (b : Bool) : neD (.bool b) (.bool b) = some (.bool false) := by
  rw [neD_ok rfl rfl]
  simp [PyData.eqv]
end Pu

namespace Pu
open PySem PySem.Spec PyProof.Rows L2
variable [MemoSpec]
theorem char_inj : ∀ {a b : List Char}, a.map Char.toNat = b.map Char.toNat → a = b
  | [], [], _ => rfl
  | [], _ :: _, h => by simp at h
  | _ :: _, [], h => by simp at h
  | x :: xs, y :: ys, h => by
    simp only [List.map_cons, List.cons.injEq] at h
    rw [Char.toNat_inj.mp h.1, char_inj h.2]
/-- texts of literals -/
@[simp] theorem lit_eq (a b : String) : (Str.ofString a = Str.ofString b) = (a = b) := by
  refine propext ⟨fun h => ?_, fun h => by rw [h]⟩
  rw [Str.ofString_eq_toList, Str.ofString_eq_toList] at h
  have h1 : a.toList.map Char.toNat = b.toList.map Char.toNat := by simpa using h
  exact String.ext (char_inj h1)
/-! ### likenesses -/
inductive Lik
  | any | is (v : PyData) | kind (s : Str) | over (i : Int) | begins (s : Str)
  | not (a : Lik) | has (a : Lik) | both (a b : Lik) | either (a b : Lik) | row0 | row1 (a : Lik) | row2 (a b : Lik)
def Lik.D : Lik → PyData
  | .any => .tuple [.str "any"]
  | .is v => .tuple [.str "is", v]
  | .kind s => .tuple [.str "kind", .str s]
  | .over i => .tuple [.str "over", .int i]
  | .begins s => .tuple [.str "begins", .str s]
  | .not a => .tuple [.str "not", a.D]
  | .has a => .tuple [.str "has", a.D]
  | .both a b => .tuple [.str "both", a.D, b.D]
  | .either a b => .tuple [.str "either", a.D, b.D]
  | .row0 => .tuple [.str "row", .tuple []]
  | .row1 a => .tuple [.str "row", .tuple [a.D]]
  | .row2 a b => .tuple [.str "row", .tuple [a.D, b.D]]
def Lik.parts : Lik → Nat
  | .not a | .has a | .row1 a => a.parts + 1
  | .both a b | .either a b | .row2 a b => a.parts + b.parts + 1
  | _ => 1
def kinds : List Str := ["none", "truth", "number", "text", "row"]
def Lik.ok : Lik → Prop
  | .is v => isVal v = true
  | .kind s => s ∈ kinds
  | .over i => -999 ≤ i ∧ i ≤ 999
  | .begins s => Word s
  | .not a | .has a | .row1 a => a.ok
  | .both a b | .either a b | .row2 a b => a.ok ∧ b.ok
  | _ => True
def overD (i : Int) : PyData → Bool
  | .int j => decide (i < j)
  | _ => false
/-- whether a text begins with another -/
def begs (t s : Str) : Bool := t.cps.toList.take s.length == s.cps.toList
def beginsD (s : Str) : PyData → Bool
  | .str t => begs t s
  | _ => false
def rowOf : PyData → Option (List PyData)
  | .tuple xs => some xs
  | _ => none
def Lik.fits : Lik → PyData → Bool
  | .any => fun _ => true
  | .is v => fun x => sameD v x
  | .kind s => fun x => kindD x == s
  | .over i => overD i
  | .begins s => beginsD s
  | .not a => fun x => !a.fits x
  | .has a => fun x => match rowOf x with | some xs => xs.any a.fits | none => false
  | .both a b => fun x => a.fits x && b.fits x
  | .either a b => fun x => a.fits x || b.fits x
  | .row0 => fun x => match rowOf x with | some [] => true | _ => false
  | .row1 a => fun x => match rowOf x with | some [p] => a.fits p | _ => false
  | .row2 a b => fun x => match rowOf x with | some [p, q] => a.fits p && b.fits q | _ => false
abbrev F_is_bare := runD 1 (fb_is_bare F_is_value F_is_whole F_is_word)
abbrev F_inner := runD 1 fb_inner
abbrev F_is_likeness := runD 5 (fb_is_likeness F_is_bare F_inner)
abbrev F_need_likeness := runD 1 (fb_need_likeness F_is_likeness)
abbrev F_bare_fits := runD 2 (fb_bare_fits (F_same_as 2) F_kind_of)
def F_fits_value : Nat → List PyData → R PyData
  | 0 => fun _ => .no
  | n + 1 => runD 5 (fb_fits_value (F_fits_value n) F_kind_of F_bare_fits)
abbrev F_fits := runD 2 (fb_fits F_need_likeness F_need_value (F_fits_value 5))
def F_law_fits : Nat → List PyData → R PyData
  | 0 => fun _ => .no
  | n + 1 => runD 7 (fb_law_fits F_law_kind (F_law_same 2) (F_law_fits n))
@[simp] theorem at0 (x : PyData) (xs : List PyData) : atI (x :: xs) 0 = some x := atI_ge (by omega) _ rfl
@[simp] theorem at1 (x y : PyData) (xs : List PyData) : atI (x :: y :: xs) 1 = some y := atI_ge (by omega) _ rfl
@[simp] theorem at2 (x y z : PyData) (xs : List PyData) : atI (x :: y :: z :: xs) 2 = some z := atI_ge (by omega) _ rfl
@[simp] theorem inD_s2 (s a b : Str) : inD (.str s) (.tuple [.str a, .str b]) = some (.bool (a == s || b == s)) := by
  show some (PyData.bool ((a == s) || ((b == s) || false))) = _
  rw [Bool.or_false]
@[simp] theorem inD_s5 (s a b c d e : Str) : inD (.str s) (.tuple [.str a, .str b, .str c, .str d, .str e]) = some (.bool (a == s || (b == s || (c == s || (d == s || e == s))))) := by
  show some (PyData.bool ((a == s) || ((b == s) || ((c == s) || ((d == s) || ((e == s) || false)))))) = _
  rw [Bool.or_false]
/-- whether a likeness has no others in it -/
def Lik.bare : Lik → Bool
  | .any | .is _ | .kind _ | .over _ | .begins _ => true
  | _ => false
def Lik.subs : Lik → List Lik
  | .not a | .has a | .row1 a => [a]
  | .both a b | .either a b | .row2 a b => [a, b]
  | _ => []
theorem is_bare_eq (l : Lik) (h : l.ok) : F_is_bare [l.D] = .ok (.bool l.bare) := by
  refine runD_rt ?_
  cases l with
  | any => simp [fb_is_bare, startR, Lik.D, Lik.bare]
  | is v => simp [fb_is_bare, startR, Lik.D, Lik.bare, is_value_eq, show isVal v = true from h]
  | over i => simp [fb_is_bare, startR, Lik.D, Lik.bare, is_whole_eq, isWhole, h.1, h.2]
  | begins s => simp [fb_is_bare, startR, Lik.D, Lik.bare, is_word_eq, show isWord (.str s) = true from h]
  | kind s =>
    have h1 : inD (.str s) (.tuple [.str "none", .str "truth", .str "number", .str "text", .str "row"]) = some (.bool true) := by
      simp only [Lik.ok, kinds, List.mem_cons, List.not_mem_nil, or_false] at h
      rcases h with h | h | h | h | h <;> subst h <;> simp
    simp [fb_is_bare, startR, Lik.D, Lik.bare, isi_str, isStr, h1]
  | _ => simp [fb_is_bare, startR, Lik.D, Lik.bare]
theorem inner_eq (l : Lik) (h : l.bare = false) : F_inner [l.D] = .ok (.list (l.subs.map Lik.D)) := by
  refine runD_rt ?_
  cases l <;> first | cases h; done | simp [fb_inner, startR, Lik.D, Lik.subs, isi_tup, isTup]
end Pu

namespace Pu
open PySem PySem.Spec PyProof.Rows L2
variable [MemoSpec]
theorem okN_mono {n m : Nat} {d : PyData} (h : okN n d = true) (l : n ≤ m) : okN m d = true := by
  unfold okN at *
  simp only [Bool.and_eq_true, decide_eq_true_eq] at *
  exact ⟨h.1, by omega⟩
theorem okN_val {d : PyData} (h : isVal d = true) : okN 1 d = true := by
  rcases val_leaf h with ⟨xs, rfl⟩ | k
  · exact okN_tup fun d hd => okN_flat (leaf_flat ((val_tup h).2 d hd))
  · exact okN_flat (leaf_flat k)
theorem okN_2 {n : Nat} {d e : PyData} (h1 : okN n d = true) (h2 : okN n e = true) : ∀ x ∈ [d, e], okN n x = true := by
  intro x hx
  simp only [List.mem_cons, List.not_mem_nil, or_false] at hx
  rcases hx with h | h <;> subst h <;> assumption
theorem okN_1 {n : Nat} {d : PyData} (h1 : okN n d = true) : ∀ x ∈ [d], okN n x = true := by
  intro x hx
  simp only [List.mem_cons, List.not_mem_nil, or_false] at hx
  subst hx; assumption
theorem okN_3 {n : Nat} {d e f : PyData} (h1 : okN n d = true) (h2 : okN n e = true) (h3 : okN n f = true) : ∀ x ∈ [d, e, f], okN n x = true := by
  intro x hx
  simp only [List.mem_cons, List.not_mem_nil, or_false] at hx
  rcases hx with h | h | h <;> subst h <;> assumption
theorem okN_Lik : ∀ (l : Lik) (m : Nat), l.ok → l.parts ≤ m → okN (2 * m + 1) l.D = true
  | .any, m, _, h => by
    have : 1 ≤ m := h
    exact okN_mono (okN_tup (n := 0) (okN_1 (okN_flat rfl))) (by omega)
  | .is v, m, ho, h => by
    have : 1 ≤ m := h
    exact okN_mono (okN_tup (n := 1) (okN_2 (okN_flat rfl) (okN_val ho))) (by omega)
  | .kind v, m, ho, h => okN_mono (okN_tup (n := 0) (okN_2 (okN_flat rfl) (okN_flat rfl))) (by omega)
  | .over v, m, ho, h => okN_mono (okN_tup (n := 0) (okN_2 (okN_flat rfl) (okN_flat rfl))) (by omega)
  | .begins v, m, ho, h => okN_mono (okN_tup (n := 0) (okN_2 (okN_flat rfl) (okN_flat rfl))) (by omega)
  | .not a, m, ho, h => by
    have h' : a.parts + 1 ≤ m := h
    exact okN_mono (okN_tup (okN_2 (okN_flat rfl) (okN_Lik a (m - 1) ho (by omega)))) (by omega)
  | .has a, m, ho, h => by
    have h' : a.parts + 1 ≤ m := h
    exact okN_mono (okN_tup (okN_2 (okN_flat rfl) (okN_Lik a (m - 1) ho (by omega)))) (by omega)
  | .both a b, m, ho, h => by
    have h' : a.parts + b.parts + 1 ≤ m := h
    exact okN_mono (okN_tup (okN_3 (okN_flat rfl) (okN_Lik a (m - 1) ho.1 (by omega)) (okN_Lik b (m - 1) ho.2 (by omega)))) (by omega)
  | .either a b, m, ho, h => by
    have h' : a.parts + b.parts + 1 ≤ m := h
    exact okN_mono (okN_tup (okN_3 (okN_flat rfl) (okN_Lik a (m - 1) ho.1 (by omega)) (okN_Lik b (m - 1) ho.2 (by omega)))) (by omega)
  | .row0, m, ho, h => by
    have : 1 ≤ m := h
    exact okN_mono (okN_tup (n := 1) (okN_2 (okN_flat rfl) (okN_tup (n := 0) (by simp)))) (by omega)
  | .row1 a, m, ho, h => by
    have h' : a.parts + 1 ≤ m := h
    exact okN_mono (okN_tup (okN_2 (okN_flat rfl) (okN_tup (okN_1 (okN_Lik a (m - 1) ho (by omega)))))) (by omega)
  | .row2 a b, m, ho, h => by
    have h' : a.parts + b.parts + 1 ≤ m := h
    exact okN_mono (okN_tup (okN_2 (okN_flat rfl) (okN_tup (okN_2 (okN_Lik a (m - 1) ho.1 (by omega)) (okN_Lik b (m - 1) ho.2 (by omega)))))) (by omega)
def sumP : List Lik → Nat
  | [] => 0
  | l :: ls => l.parts + sumP ls
theorem sumP_app : ∀ xs ys : List Lik, sumP (xs ++ ys) = sumP xs + sumP ys
  | [], _ => by simp [sumP]
  | x :: xs, ys => by simp [sumP, sumP_app xs ys]; omega
theorem sumP_rev (xs : List Lik) : sumP xs.reverse = sumP xs := by
  induction xs with
  | nil => rfl
  | cons x xs ih => rw [List.reverse_cons, sumP_app, ih]; simp [sumP]; omega
theorem parts_pos : ∀ l : Lik, 1 ≤ l.parts := fun l => by cases l <;> simp [Lik.parts]
theorem subs_parts (l : Lik) : sumP l.subs + 1 = l.parts := by cases l <;> simp [Lik.subs, Lik.parts, sumP]
theorem subs_ok {l : Lik} (h : l.ok) : ∀ s ∈ l.subs, s.ok := by
  cases l <;> simp_all [Lik.subs, Lik.ok]
theorem Lik.D_ne (l : Lik) : ∃ w r, l.D = .tuple (.str w :: r) := by cases l <;> exact ⟨_, _, rfl⟩
theorem neD_nil {xs : List PyData} (h : okd (.list xs) = true) : neD (.list xs) (.list []) = some (.bool (!xs.isEmpty)) := by
  rw [neD_ok h rfl]; cases xs <;> rfl
theorem eqD_nil {xs : List PyData} (h : okd (.list xs) = true) : eqD (.list xs) (.list []) = some (.bool xs.isEmpty) := by
  rw [eqD_ok h rfl]; cases xs <;> rfl
theorem bare_subs {l : Lik} (h : l.bare = true) : l.subs = [] := by cases l <;> first | rfl | cases h
theorem whileGo_stop {c : Ro → R Bool} {b : Ro → Fl} {n : Nat} {ρ : Ro} (h : c ρ = .ok false) : whileGo c b (n + 1) ρ = .nx ρ := by
  unfold whileGo; rw [h]; rfl
theorem whileGo_go {c : Ro → R Bool} {b : Ro → Fl} {n : Nat} {ρ ρ' : Ro} (h : c ρ = .ok true) (h2 : b ρ = .nx ρ') : whileGo c b (n + 1) ρ = whileGo c b n ρ' := by
  show Fl.of ρ (c ρ) _ = _
  rw [h]
  show (match b ρ with | .nx ρ2 => whileGo c b n ρ2 | .ct ρ2 => whileGo c b n ρ2 | .bk ρ2 => .nx ρ2 | r => r) = _
  rw [h2]
theorem like_cond {xs : List PyData} {a : Option Cel} {r : Ro} (h : okd (.list xs) = true) : dTest (dBinL neD (dOwL 1) (dAsL (dLst dNil))) (a :: some (.ow (.list xs)) :: r) = .ok (!xs.isEmpty) := by
  simp [neD_nil h]
theorem like_loop (d0 : PyData) : ∀ (fuel : Nat) (ls : List Lik) (many : Nat) (c3 c4 : Option Cel), (∀ l ∈ ls, l.ok) → many + sumP ls ≤ 5 → sumP ls < fuel →
    ∃ ρ, whileGo (dTest (dBinL neD (dOwL 1) (dAsL (dLst dNil)))) (sSeq (sPop 1 3)
    (sSeq (sAsg (dBin addD (dVar 2) (dC (.int 1))) (bName 2))
    (sSeq (sIf (dOr (dTest (dBin gtD (dVar 2) (dC (.int 5)))) (dOr (dNot (dTest (dUn (isiD "tuple") (dVar 3)))) (dOr (dTest (dBin eqD (dCall lenD (dCons (dVar 3) dNil)) (dC (.int 0)))) (dNot (dTest (dUn (isiD "str") (dBin ixD (dVar 3) (dC (.int 0))))))))) (sRet (dC (.bool false))) sNil)
    (sIf (dNot (dTest (dCallF 1 F_is_bare (dCons (dVar 3) dNil)))) (sSeq (sAsg (dCallF 1 F_inner (dCons (dVar 3) dNil)) (bName 4))
    (sSeq (sIf (dTest (dBin isND (dVar 4) (dC .none))) (sRet (dC (.bool false))) sNil)
    (sExt 1 (dOfD (dVar 4))))) sNil)))) fuel [some (.fz d0), some (.ow (.list (ls.reverse.map Lik.D))), some (.fz (.int many)), c3, c4] = .nx ρ
  | 0, _, _, _, _, _, _, h => by omega
  | fuel + 1, [], many, c3, c4, _, _, _ => ⟨_, whileGo_stop (by simp [neD_nil (show okd (.list []) = true from rfl)])⟩
  | fuel + 1, l :: ls, many, c3, c4, ho, hm, hf => by
    have hp := parts_pos l
    have hs : sumP (l :: ls) = l.parts + sumP ls := rfl
    have hsub := subs_parts l
    have hok : okd (.list ((l :: ls).reverse.map Lik.D)) = true := okN_okd (n := 12) (okN_list (n := 11) fun d hd => by
      obtain ⟨x, hx, rfl⟩ := List.mem_map.mp hd
      have hx' : x ∈ l :: ls := List.mem_reverse.mp hx
      have : ∀ zs : List Lik, x ∈ zs → x.parts ≤ sumP zs := fun zs => by
        induction zs with
        | nil => intro h; cases h
        | cons z zs ih =>
          intro h
          rcases List.mem_cons.mp h with k | k
          · subst k; simp [sumP]
          · have := ih k; simp [sumP]; omega
      have := this _ hx'
      exact okN_Lik x 5 (ho x hx') (by omega)) (by omega)
    have hne : ((l :: ls).reverse.map Lik.D).isEmpty = false := by simp
    have hpop : ((l :: ls).reverse.map Lik.D) = (ls.reverse.map Lik.D) ++ [l.D] := by simp
    obtain ⟨w, r, hD⟩ := Lik.D_ne l
    have hb := is_bare_eq l (ho l (by simp))
    have hm5 : ¬ (5 : Int) < many + 1 := by omega
    have hr : ¬ ((r.length : Int) + 1 = 0) := by omega
    cases kb : l.bare with
    | true =>
      obtain ⟨ρ, ih⟩ := like_loop d0 fuel ls (many + 1) (some (.fz l.D)) c4 (fun x hx => ho x (by simp [hx])) (by omega) (by omega)
      refine ⟨ρ, (whileGo_go ?_ ?_).trans ih⟩
      · rw [like_cond hok, hne]; rfl
      · rw [hpop]
        rw [kb, hD] at hb
        simp [sPop, ownL, hD, isi_tup, isTup, isi_str, isStr, hm5, hr, hb]
    | false =>
      have hi := inner_eq l kb
      have hl2 : l.subs.length ≤ 2 := by cases l <;> simp [Lik.subs]
      have hlen : ls.length ≤ sumP ls := by
        have : ∀ zs : List Lik, zs.length ≤ sumP zs := fun zs => by
          induction zs with
          | nil => simp [sumP]
          | cons z zs ih => have := parts_pos z; simp [sumP]; omega
        exact this ls
      obtain ⟨ρ, ih⟩ := like_loop d0 fuel (l.subs.reverse ++ ls) (many + 1) (some (.fz l.D)) (some (.fz (.list (l.subs.map Lik.D)))) (fun x hx => by
        rcases List.mem_append.mp hx with k | k
        · exact subs_ok (ho l (by simp)) x (List.mem_reverse.mp k)
        · exact ho x (by simp [k])) (by rw [sumP_app, sumP_rev]; omega) (by rw [sumP_app, sumP_rev]; omega)
      have he : ((l.subs.reverse ++ ls).reverse.map Lik.D) = ls.reverse.map Lik.D ++ l.subs.map Lik.D := by simp
      rw [he] at ih
      refine ⟨ρ, (whileGo_go ?_ ?_).trans ih⟩
      · rw [like_cond hok, hne]; rfl
      · rw [hpop]
        rw [kb, hD] at hb
        rw [hD] at hi
        have hz : ls.length + l.subs.length ≤ 1000000 := by omega
        simp [sPop, sExt, ownL, hD, isi_tup, isTup, isi_str, isStr, hm5, hr, hb, hi, isNone, hz]
theorem is_likeness_eq (l : Lik) (ho : l.ok) (hp : l.parts ≤ 5) : F_is_likeness [l.D] = .ok (.bool true) := by
  obtain ⟨ρ, h⟩ := like_loop l.D 1000 [l] 0 none none (by simpa using ho) (by simp [sumP]; exact hp) (by simp [sumP]; omega)
  refine runD_rt ?_
  simp only [List.reverse_cons, List.reverse_nil, List.nil_append, List.map_cons, List.map_nil, Int.natCast_zero] at h
  simp [fb_is_likeness, startR]
  rw [h]
theorem need_likeness_ok (l : Lik) (ho : l.ok) (hp : l.parts ≤ 5) : F_need_likeness [l.D] = .ok .none := by
  refine runD_nx (ρ := [some (.fz l.D)]) ?_
  simp [fb_need_likeness, startR, is_likeness_eq l ho hp]
theorem need_likeness_ex {d : PyData} (h : F_is_likeness [d] = .ok (.bool false)) : F_need_likeness [d] = .ex ⟨"NoLikeness", none⟩ := by
  refine runD_ex (ρ := [some (.fz d)]) ?_
  simp [fb_need_likeness, startR, h]
end Pu

namespace Pu
open PySem PySem.Spec PyProof.Rows L2
variable [MemoSpec]
theorem starts_begs (t s : Str) : Txt.startswith t s = begs t s := by
  unfold Txt.startswith begs
  have h := PySem.StrLaws.subAt_eq t s 0
  rw [List.drop_zero] at h
  rw [h]
  cases k : (t.cps.toList.take s.length == s.cps.toList)
  · simp
  · have e : t.cps.toList.take s.length = s.cps.toList := by simpa using k
    have l := congrArg List.length e
    rw [List.length_take, len_list, len_list] at l
    simp
    omega
theorem cut_begs (t s : Str) : (cutS t none (some (s.length : Int)) == s) = begs t s := by
  have e : (cutS t none (some (s.length : Int))).cps.toList = t.cps.toList.take s.length := by
    show (t.cps.toList.drop 0).take (HT.sIx t.length t.length (some (s.length : Int)) - 0) = _
    rw [HT.sIx_nat, List.drop_zero, Nat.sub_zero]
    have h := len_list t
    by_cases k : s.length ≤ t.length
    · rw [Nat.min_eq_left k]
    · rw [Nat.min_eq_right (by omega), List.take_of_length_le (by omega), List.take_of_length_le (by omega)]
  unfold begs
  rw [← e]
  rw [Bool.eq_iff_iff]
  simp only [beq_iff_eq]
  constructor
  · intro h; rw [h]
  · intro h
    cases hh : cutS t none (some (s.length : Int)) with
    | mk a =>
      cases s with
      | mk b => rw [hh] at h; simp only at h; rw [Array.toList_inj.mp h]
@[simp] theorem kind_row_t (xs : List PyData) : (kindD (.tuple xs) == ("row" : Str)) = true := by simp [kindD]
theorem val_row {v : PyData} (h : isVal v = true) : (kindD v == ("row" : Str)) = (rowOf v).isSome := by
  rcases val_leaf h with ⟨xs, rfl⟩ | k
  · simp [kindD, rowOf]
  · rw [leaf_row k]
    cases v <;> first | rfl | (simp [isLeaf, isNone, isBool, isWhole, isWord] at k)
theorem row_val {v : PyData} {xs : List PyData} (h : rowOf v = some xs) : v = .tuple xs := by
  cases v <;> simp_all [rowOf]
theorem bare_fits_eq (l : Lik) (ho : l.ok) (hb : l.bare = true) {v : PyData} (hv : isVal v = true) : F_bare_fits [l.D, v] = .ok (.bool (l.fits v)) := by
  refine runD_rt ?_
  cases l with
  | any => simp [fb_bare_fits, startR, Lik.D, Lik.fits]
  | is w => simp [fb_bare_fits, startR, Lik.D, Lik.fits, same_as_val (show isVal w = true from ho) hv]
  | kind s => simp [fb_bare_fits, startR, Lik.D, Lik.fits, kind_of_eq]
  | over i => cases v <;> simp [fb_bare_fits, startR, Lik.D, Lik.fits, kind_of_eq, kindD, overD]
  | begins s => cases v <;> simp [fb_bare_fits, startR, Lik.D, Lik.fits, kind_of_eq, kindD, beginsD, isStr, starts_begs]
  | _ => cases hb
theorem tup_leaf {xs : List PyData} (h : isVal (.tuple xs) = true) : ∀ x ∈ xs, isVal x = true := fun x hx => val_of_leaf ((val_tup h).2 x hx)
theorem anyD_bs (bs : List Bool) : anyD [.list (bs.map .bool)] = some (.bool (bs.any id)) := by simp [anyD, bools_bs]
theorem anyD_map {α : Type} (xs : List α) (g : α → Bool) : anyD [.list (xs.map fun x => PyData.bool (g x))] = some (.bool (xs.any g)) := by
  have := anyD_bs (xs.map g)
  rw [List.map_map] at this
  simpa [Function.comp_def] using this
theorem allD_map {α : Type} (xs : List α) (g : α → Bool) : allD [.list (xs.map fun x => PyData.bool (g x))] = some (.bool (xs.all g)) := by
  have := allD_bs (xs.map g)
  rw [List.map_map] at this
  simpa [Function.comp_def] using this
theorem fits_value_eq : ∀ (l : Lik) (n : Nat) (v : PyData), l.ok → l.parts ≤ n → isVal v = true → F_fits_value n [l.D, v] = .ok (.bool (l.fits v))
  | l, 0, v, _, hp, _ => by have := parts_pos l; omega
  | .any, n + 1, v, ho, hp, hv => by
    have hb := bare_fits_eq .any ho rfl hv
    refine runD_rt ?_
    simp only [Lik.D] at hb ⊢
    simp [fb_fits_value, startR, hb]
  | .is w, n + 1, v, ho, hp, hv => by
    have hb := bare_fits_eq (.is w) ho rfl hv
    refine runD_rt ?_
    simp only [Lik.D] at hb ⊢
    simp [fb_fits_value, startR, hb]
  | .kind w, n + 1, v, ho, hp, hv => by
    have hb := bare_fits_eq (.kind w) ho rfl hv
    refine runD_rt ?_
    simp only [Lik.D] at hb ⊢
    simp [fb_fits_value, startR, hb]
  | .over w, n + 1, v, ho, hp, hv => by
    have hb := bare_fits_eq (.over w) ho rfl hv
    refine runD_rt ?_
    simp only [Lik.D] at hb ⊢
    simp [fb_fits_value, startR, hb]
  | .begins w, n + 1, v, ho, hp, hv => by
    have hb := bare_fits_eq (.begins w) ho rfl hv
    refine runD_rt ?_
    simp only [Lik.D] at hb ⊢
    simp [fb_fits_value, startR, hb]
  | .not a, n + 1, v, ho, hp, hv => by
    have h1 := fits_value_eq a n v ho (by simp [Lik.parts] at hp; omega) hv
    refine runD_rt ?_
    simp [fb_fits_value, startR, Lik.D, Lik.fits, h1]
  | .both a b, n + 1, v, ho, hp, hv => by
    simp only [Lik.parts] at hp
    have h1 := fits_value_eq a n v ho.1 (by omega) hv
    have h2 := fits_value_eq b n v ho.2 (by omega) hv
    refine runD_rt ?_
    simp [fb_fits_value, startR, Lik.D, Lik.fits, h1, h2]
    cases a.fits v <;> simp
  | .either a b, n + 1, v, ho, hp, hv => by
    simp only [Lik.parts] at hp
    have h1 := fits_value_eq a n v ho.1 (by omega) hv
    have h2 := fits_value_eq b n v ho.2 (by omega) hv
    refine runD_rt ?_
    simp [fb_fits_value, startR, Lik.D, Lik.fits, h1, h2]
    cases a.fits v <;> simp
  | .has a, n + 1, v, ho, hp, hv => by
    simp only [Lik.parts] at hp
    refine runD_rt ?_
    have hr := val_row hv
    cases k : rowOf v with
    | none =>
      rw [k] at hr
      simp [fb_fits_value, startR, Lik.D, Lik.fits, kind_of_eq, hr, k]
    | some xs =>
      obtain rfl := row_val k
      obtain ⟨l2, h2⟩ := val_tup hv
      have e : lcGo (bName 3) dYes (dCallF 2 (F_fits_value n) (dCons (dBin ixD (dVar 0) (dC (.int 1))) (dCons (dVar 3) dNil))) [some (.fz (.tuple [.str "has", a.D])), some (.fz (.tuple xs)), some (.fz (.str "has")), none, none] xs = some (xs.map fun d => .bool (a.fits d)) := lcGo_map fun d hd => ⟨_, rfl, by simp [fits_value_eq a n d ho (by omega) (val_of_leaf (h2 d hd))]⟩
      have hz : xs.length ≤ 1000000 := by omega
      simp [fb_fits_value, startR, Lik.D, Lik.fits, kind_of_eq, kindD, rowOf, hz, e, anyD_map]
  | .row0, n + 1, v, ho, hp, hv => by
    refine runD_rt ?_
    have hr := val_row hv
    cases k : rowOf v with
    | none =>
      rw [k] at hr
      simp [fb_fits_value, startR, Lik.D, Lik.fits, kind_of_eq, hr, k]
    | some xs =>
      obtain rfl := row_val k
      have z := dZip_t (dCons (dBin ixD (dVar 0) (dC (.int 1))) (dCons (dVar 1) dNil)) [some (.fz (.tuple [.str "row", .tuple []])), some (.fz (.tuple xs)), some (.fz (.str "row")), none, none] [] xs (by simp)
      cases xs with
      | nil => simp [fb_fits_value, startR, Lik.D, Lik.fits, kind_of_eq, kindD, rowOf, z, zipD, allD, bools]
      | cons x xs =>
        have : ¬ ((xs.length : Int) + 1 = 0) := by omega
        simp [fb_fits_value, startR, Lik.D, Lik.fits, kind_of_eq, kindD, rowOf, this]
  | .row1 a, n + 1, v, ho, hp, hv => by
    simp only [Lik.parts] at hp
    refine runD_rt ?_
    have hr := val_row hv
    cases k : rowOf v with
    | none =>
      rw [k] at hr
      simp [fb_fits_value, startR, Lik.D, Lik.fits, kind_of_eq, hr, k]
    | some xs =>
      obtain rfl := row_val k
      have hx := tup_leaf hv
      have z := dZip_t (dCons (dBin ixD (dVar 0) (dC (.int 1))) (dCons (dVar 1) dNil)) [some (.fz (.tuple [.str "row", .tuple [a.D]])), some (.fz (.tuple xs)), some (.fz (.str "row")), none, none] [a.D] xs (by simp)
      match xs, hx, z with
      | [], _, z => simp [fb_fits_value, startR, Lik.D, Lik.fits, kind_of_eq, kindD, rowOf]
      | [p], hx, z =>
        have h1 := fits_value_eq a n p ho (by omega) (hx p (by simp))
        simp [fb_fits_value, startR, Lik.D, Lik.fits, kind_of_eq, kindD, rowOf, z, zipD, lcGo, h1, allD, bools]
      | p :: q :: xs, hx, z =>
        have : ¬ ((xs.length : Int) + 1 + 1 = 1) := by omega
        simp [fb_fits_value, startR, Lik.D, Lik.fits, kind_of_eq, kindD, rowOf, this]
  | .row2 a b, n + 1, v, ho, hp, hv => by
    simp only [Lik.parts] at hp
    refine runD_rt ?_
    have hr := val_row hv
    cases k : rowOf v with
    | none =>
      rw [k] at hr
      simp [fb_fits_value, startR, Lik.D, Lik.fits, kind_of_eq, hr, k]
    | some xs =>
      obtain rfl := row_val k
      have hx := tup_leaf hv
      have z := dZip_t (dCons (dBin ixD (dVar 0) (dC (.int 1))) (dCons (dVar 1) dNil)) [some (.fz (.tuple [.str "row", .tuple [a.D, b.D]])), some (.fz (.tuple xs)), some (.fz (.str "row")), none, none] [a.D, b.D] xs (by simp)
      match xs, hx, z with
      | [], _, z => simp [fb_fits_value, startR, Lik.D, Lik.fits, kind_of_eq, kindD, rowOf]
      | [p], _, z => simp [fb_fits_value, startR, Lik.D, Lik.fits, kind_of_eq, kindD, rowOf]
      | [p, q], hx, z =>
        have h1 := fits_value_eq a n p ho.1 (by omega) (hx p (by simp))
        have h2 := fits_value_eq b n q ho.2 (by omega) (hx q (by simp))
        simp [fb_fits_value, startR, Lik.D, Lik.fits, kind_of_eq, kindD, rowOf, z, zipD, lcGo, h1, h2, allD, bools]
      | p :: q :: r :: xs, hx, z =>
        have : ¬ ((xs.length : Int) + 1 + 1 + 1 = 2) := by omega
        simp [fb_fits_value, startR, Lik.D, Lik.fits, kind_of_eq, kindD, rowOf, this]
end Pu

namespace Pu
open PySem PySem.Spec PyProof.Rows L2
variable [MemoSpec]
@[simp] theorem cnt2 (a b : Bool) : cntD (.list [.bool a, .bool b]) [.bool true] = some (.int ((if a then 1 else 0) + (if b then 1 else 0))) := by cases a <;> cases b <;> rfl
theorem law_fits_eq : ∀ (l : Lik) (n : Nat) (v : PyData), l.ok → l.parts ≤ n → isVal v = true → F_law_fits n [l.D, v] = .ok (.bool (l.fits v))
  | l, 0, v, _, hp, _ => by have := parts_pos l; omega
  | .any, n + 1, v, ho, hp, hv => by
    refine runD_rt ?_
    simp [fb_law_fits, startR, Lik.D, Lik.fits, law_kind_eq]
  | .is w, n + 1, v, ho, hp, hv => by
    refine runD_rt ?_
    simp [fb_law_fits, startR, Lik.D, Lik.fits, law_kind_eq, law_same_val (show isVal w = true from ho) hv]
  | .kind w, n + 1, v, ho, hp, hv => by
    refine runD_rt ?_
    simp [fb_law_fits, startR, Lik.D, Lik.fits, law_kind_eq]
    cases h : (kindD v == w) <;> simp_all <;> (intro h2; exact h h2.symm)
  | .over w, n + 1, v, ho, hp, hv => by
    refine runD_rt ?_
    cases v <;> simp [fb_law_fits, startR, Lik.D, Lik.fits, law_kind_eq, kindD, overD]
  | .begins w, n + 1, v, ho, hp, hv => by
    refine runD_rt ?_
    cases v <;> simp [fb_law_fits, startR, Lik.D, Lik.fits, law_kind_eq, kindD, beginsD, slD, cut_begs]
  | .not a, n + 1, v, ho, hp, hv => by
    have h1 := law_fits_eq a n v ho (by simp [Lik.parts] at hp; omega) hv
    refine runD_rt ?_
    simp [fb_law_fits, startR, Lik.D, Lik.fits, law_kind_eq, h1]
  | .both a b, n + 1, v, ho, hp, hv => by
    simp only [Lik.parts] at hp
    have h1 := law_fits_eq a n v ho.1 (by omega) hv
    have h2 := law_fits_eq b n v ho.2 (by omega) hv
    refine runD_rt ?_
    simp [fb_law_fits, startR, Lik.D, Lik.fits, law_kind_eq, h1, h2, isLst]
    cases a.fits v <;> cases b.fits v <;> simp
  | .either a b, n + 1, v, ho, hp, hv => by
    simp only [Lik.parts] at hp
    have h1 := law_fits_eq a n v ho.1 (by omega) hv
    have h2 := law_fits_eq b n v ho.2 (by omega) hv
    refine runD_rt ?_
    simp [fb_law_fits, startR, Lik.D, Lik.fits, law_kind_eq, h1, h2, isLst]
    cases a.fits v <;> cases b.fits v <;> simp
  | .has a, n + 1, v, ho, hp, hv => by
    simp only [Lik.parts] at hp
    refine runD_rt ?_
    have hr := val_row hv
    cases k : rowOf v with
    | none =>
      rw [k] at hr
      simp [fb_law_fits, startR, Lik.D, Lik.fits, law_kind_eq, hr, k]
    | some xs =>
      obtain rfl := row_val k
      obtain ⟨l2, h2⟩ := val_tup hv
      have e : lcGo (bName 5) dYes (dCallF 2 (F_law_fits n) (dCons (dBin ixD (dVar 0) (dC (.int 1))) (dCons (dVar 5) dNil))) [some (.fz (.tuple [.str "has", a.D])), some (.fz (.tuple xs)), some (.fz (.str "has")), some (.fz (.str "row")), none, none, none] xs = some (xs.map fun d => .bool (a.fits d)) := lcGo_map fun d hd => ⟨_, rfl, by simp [law_fits_eq a n d ho (by omega) (val_of_leaf (h2 d hd))]⟩
      have hz : xs.length ≤ 1000000 := by omega
      simp [fb_law_fits, startR, Lik.D, Lik.fits, law_kind_eq, kindD, rowOf, hz, e, anyD_map]
  | .row0, n + 1, v, ho, hp, hv => by
    refine runD_rt ?_
    have hr := val_row hv
    cases k : rowOf v with
    | none =>
      rw [k] at hr
      simp [fb_law_fits, startR, Lik.D, Lik.fits, law_kind_eq, hr, k]
    | some xs =>
      obtain rfl := row_val k
      have z := dZip_t (dCons (dBin ixD (dVar 0) (dC (.int 1))) (dCons (dVar 1) dNil)) [some (.fz (.tuple [.str "row", .tuple []])), some (.fz (.tuple xs)), some (.fz (.str "row")), some (.fz (.str "row")), none, none, none] [] xs (by simp)
      cases xs with
      | nil => simp [fb_law_fits, startR, Lik.D, Lik.fits, law_kind_eq, kindD, rowOf, z, zipD, allD, bools]
      | cons x xs =>
        have : ¬ ((xs.length : Int) + 1 = 0) := by omega
        simp [fb_law_fits, startR, Lik.D, Lik.fits, law_kind_eq, kindD, rowOf, this]
  | .row1 a, n + 1, v, ho, hp, hv => by
    simp only [Lik.parts] at hp
    refine runD_rt ?_
    have hr := val_row hv
    cases k : rowOf v with
    | none =>
      rw [k] at hr
      simp [fb_law_fits, startR, Lik.D, Lik.fits, law_kind_eq, hr, k]
    | some xs =>
      obtain rfl := row_val k
      have hx := tup_leaf hv
      have z := dZip_t (dCons (dBin ixD (dVar 0) (dC (.int 1))) (dCons (dVar 1) dNil)) [some (.fz (.tuple [.str "row", .tuple [a.D]])), some (.fz (.tuple xs)), some (.fz (.str "row")), some (.fz (.str "row")), none, none, none] [a.D] xs (by simp)
      match xs, hx, z with
      | [], _, z => simp [fb_law_fits, startR, Lik.D, Lik.fits, law_kind_eq, kindD, rowOf]
      | [p], hx, z =>
        have h1 := law_fits_eq a n p ho (by omega) (hx p (by simp))
        simp [fb_law_fits, startR, Lik.D, Lik.fits, law_kind_eq, kindD, rowOf, z, zipD, lcGo, h1, allD, bools]
      | p :: q :: xs, hx, z =>
        have : ¬ ((xs.length : Int) + 1 + 1 = 1) := by omega
        simp [fb_law_fits, startR, Lik.D, Lik.fits, law_kind_eq, kindD, rowOf, this]
  | .row2 a b, n + 1, v, ho, hp, hv => by
    simp only [Lik.parts] at hp
    refine runD_rt ?_
    have hr := val_row hv
    cases k : rowOf v with
    | none =>
      rw [k] at hr
      simp [fb_law_fits, startR, Lik.D, Lik.fits, law_kind_eq, hr, k]
    | some xs =>
      obtain rfl := row_val k
      have hx := tup_leaf hv
      have z := dZip_t (dCons (dBin ixD (dVar 0) (dC (.int 1))) (dCons (dVar 1) dNil)) [some (.fz (.tuple [.str "row", .tuple [a.D, b.D]])), some (.fz (.tuple xs)), some (.fz (.str "row")), some (.fz (.str "row")), none, none, none] [a.D, b.D] xs (by simp)
      match xs, hx, z with
      | [], _, z => simp [fb_law_fits, startR, Lik.D, Lik.fits, law_kind_eq, kindD, rowOf]
      | [p], _, z => simp [fb_law_fits, startR, Lik.D, Lik.fits, law_kind_eq, kindD, rowOf]
      | [p, q], hx, z =>
        have h1 := law_fits_eq a n p ho.1 (by omega) (hx p (by simp))
        have h2 := law_fits_eq b n q ho.2 (by omega) (hx q (by simp))
        simp [fb_law_fits, startR, Lik.D, Lik.fits, law_kind_eq, kindD, rowOf, z, zipD, lcGo, h1, h2, allD, bools]
      | p :: q :: r :: xs, hx, z =>
        have : ¬ ((xs.length : Int) + 1 + 1 + 1 = 2) := by omega
        simp [fb_law_fits, startR, Lik.D, Lik.fits, law_kind_eq, kindD, rowOf, this]
theorem fits_eq {l : Lik} {v : PyData} (ho : l.ok) (hp : l.parts ≤ 5) (hv : isVal v = true) : F_fits [l.D, v] = .ok (.bool (l.fits v)) := by
  refine runD_rt ?_
  simp [fb_fits, startR, need_likeness_ok l ho hp, need_value_ok hv, fits_value_eq l 5 v ho hp hv]
theorem fits_ex1 {d : PyData} (v : PyData) (h : F_is_likeness [d] = .ok (.bool false)) : F_fits [d, v] = .ex ⟨"NoLikeness", none⟩ := by
  refine runD_ex (ρ := [some (.fz d), some (.fz v)]) ?_
  simp [fb_fits, startR, need_likeness_ex h]
theorem fits_ex2 {l : Lik} {v : PyData} (ho : l.ok) (hp : l.parts ≤ 5) (hv : isVal v = false) : F_fits [l.D, v] = .ex ⟨"NoValue", none⟩ := by
  refine runD_ex (ρ := [some (.fz l.D), some (.fz v)]) ?_
  simp [fb_fits, startR, need_likeness_ok l ho hp, need_value_ex hv]
/-! ### drawn likenesses -/
abbrev F_law_bare := runD 4 (fb_law_bare F_mixed F_value)
def F_law_likeness : Nat → List PyData → R PyData
  | 0 => fun _ => .no
  | n + 1 => runD 7 (fb_law_likeness F_mixed F_law_bare (F_law_likeness n))
theorem law_bare_eq (ns : List Int) (at_ : Int) (h : 0 ≤ at_) {p : PyData} (hp : Pool p) : ∃ l : Lik, F_law_bare [scr ns, .int at_, p] = .ok l.D ∧ l.ok ∧ l.parts = 1 := by
  obtain ⟨v, ev, hv⟩ := value_eq ns (at_ + 1) (by omega) hp
  obtain ⟨xs, ws, rfl, l1, l2, h1, h2⟩ := hp
  have m1 := mixed_eq ns at_ 9 h (by omega)
  have m2 := mixed_eq ns (at_ + 1) 3 (by omega) (by omega)
  have m3 := mixed_eq ns (at_ + 1) 5 (by omega) (by omega)
  have a1 := mixZ_nn ns at_ 9 (by omega)
  have a2 := mixZ_lt ns at_ 9 (by omega)
  by_cases c1 : mixZ ns at_ 9 < 3
  · exact ⟨.is v, runD_rt (by simp [fb_law_bare, startR, m1, c1, ev, Lik.D]), hv, rfl⟩
  · by_cases c2 : mixZ ns at_ 9 < 5
    · obtain ⟨d, e1, e2⟩ := atI_of h1 (i := mixZ ns (at_ + 1) 3) (mixZ_nn _ _ _ (by omega)) (by have := mixZ_lt ns (at_ + 1) 3 (by omega); omega)
      cases d with
      | int i =>
        refine ⟨.over i, runD_rt (by simp [fb_law_bare, startR, m1, m2, c1, c2, e1, Lik.D]), ?_, rfl⟩
        have h3 : -999 ≤ i ∧ i ≤ 999 := by simpa [isWhole] using e2
        exact h3
      | _ => simp [isWhole] at e2
    · by_cases c3 : mixZ ns at_ 9 < 7
      · obtain ⟨d, e1, e2⟩ := atI_of h2 (i := mixZ ns (at_ + 1) 3) (mixZ_nn _ _ _ (by omega)) (by have := mixZ_lt ns (at_ + 1) 3 (by omega); omega)
        cases d with
        | str s => exact ⟨.begins s, runD_rt (by simp [fb_law_bare, startR, m1, m2, c1, c2, c3, e1, Lik.D]), e2, rfl⟩
        | _ => simp [isWord] at e2
      · by_cases c4 : mixZ ns at_ 9 = 7
        · obtain ⟨d, e1, s, rfl, e2⟩ := atI_of (α := PyData) (xs := [.str "none", .str "truth", .str "number", .str "text", .str "row"]) (P := fun d => ∃ s, d = .str s ∧ s ∈ kinds) (by
            intro d hd
            simp only [List.mem_cons, List.not_mem_nil, or_false] at hd
            rcases hd with h | h | h | h | h <;> subst h <;> exact ⟨_, rfl, by simp [kinds]⟩) (mixZ_nn ns (at_ + 1) 5 (by omega)) (mixZ_lt ns (at_ + 1) 5 (by omega))
          exact ⟨.kind s, runD_rt (by simp [fb_law_bare, startR, m1, m3, c1, c2, c3, c4, e1, Lik.D]), e2, rfl⟩
        · exact ⟨.any, runD_rt (by simp [fb_law_bare, startR, m1, c1, c2, c3, c4, Lik.D]), trivial, rfl⟩
end Pu

namespace Pu
open PySem PySem.Spec PyProof.Rows L2
variable [MemoSpec]
theorem fdivD_p (i j : Int) (h : 0 < j) (h2 : j < 1073741824) : fdivD (.int i) (.int j) = some (.int (i / j)) := by
  show (if (decide (0 < j) && decide (j < 1073741824)) = true then _ else _) = _
  rw [if_pos (by simp [h, h2])]
theorem range2 (f : Ro → R (List PyData)) (ρ : Ro) (h : f ρ = .ok [.int 2]) : dRange1 f ρ = .ok [.int 0, .int 1] := dRange1_ap f ρ 2 h (by omega) (by omega)
theorem cut1 (x y : PyData) : cutD [x, y] none (some 1) = [x] := rfl
theorem cut2 (x y : PyData) : cutD [x, y] none (some 2) = [x, y] := rfl
theorem law_likeness_eq (ns : List Int) {p : PyData} (hp : Pool p) : ∀ (n : Nat) (at_ room : Int), 0 ≤ at_ → 1 ≤ room → room ≤ n → ∃ l : Lik, F_law_likeness n [scr ns, .int at_, p, .int room] = .ok l.D ∧ l.ok ∧ (l.parts : Int) ≤ room
  | 0, _, _, _, h1, h2 => by omega
  | n + 1, at_, room, h, h1, h2 => by
    obtain ⟨lb, eb, ob, pb⟩ := law_bare_eq ns (at_ + 1) (by omega) hp
    have m1 := mixed_eq ns at_ 12 h (by omega)
    have a1 := mixZ_nn ns at_ 12 (by omega)
    have a2 := mixZ_lt ns at_ 12 (by omega)
    by_cases c1 : mixZ ns at_ 12 < 4
    · exact ⟨lb, runD_rt (by simp [fb_law_likeness, startR, m1, c1, eb]), ob, by omega⟩
    · by_cases c2 : room < 2
      · exact ⟨lb, runD_rt (by simp [fb_law_likeness, startR, m1, c1, c2, eb]), ob, by omega⟩
      · obtain ⟨la, ea, oa, pa⟩ := law_likeness_eq ns hp n (at_ + 12) (room - 1) (by omega) (by omega) (by omega)
        by_cases c3 : mixZ ns at_ 12 < 6
        · exact ⟨.not la, runD_rt (by simp [fb_law_likeness, startR, m1, c1, c2, c3, ea, Lik.D]), oa, by simp [Lik.parts]; omega⟩
        · by_cases c4 : mixZ ns at_ 12 = 6
          · exact ⟨.has la, runD_rt (by simp [fb_law_likeness, startR, m1, c1, c2, c3, c4, ea, Lik.D]), oa, by simp [Lik.parts]; omega⟩
          · by_cases c5 : room < 3
            · exact ⟨.row0, runD_rt (by simp [fb_law_likeness, startR, m1, c1, c2, c3, c4, c5, Lik.D]), trivial, by simp [Lik.parts]; omega⟩
            · obtain ⟨l0, e0, o0, p0⟩ := law_likeness_eq ns hp n (at_ + 14) ((room - 1) / 2) (by omega) (by omega) (by omega)
              obtain ⟨l1, e1, o1, p1⟩ := law_likeness_eq ns hp n (at_ + 14 + 60) ((room - 1) / 2) (by omega) (by omega) (by omega)
              have r2 : dRange1 (dCons (dC (.int 2)) dNil) [some (.fz (scr ns)), some (.fz (.int at_)), some (.fz p), some (.fz (.int room)), some (.fz (.int (mixZ ns at_ 12))), none, none] = .ok [.int 0, .int 1] := range2 _ _ (by simp)
              have fd := fdivD_p (room - 1) 2 (by omega) (by omega)
              have k60 : ∀ x : Int, mulD (.int 60) (.int x) = some (.int (60 * x)) := fun x => mulD_l _ _ (by omega)
              have go : lcGo (bName 6) dYes (dCallF 4 (F_law_likeness n) (dCons (dVar 0) (dCons (dBin addD (dBin addD (dVar 1) (dC (.int 14))) (dBin mulD (dC (.int 60)) (dVar 6))) (dCons (dVar 2) (dCons (dBin fdivD (dBin subD (dVar 3) (dC (.int 1))) (dC (.int 2))) dNil))))) [some (.fz (scr ns)), some (.fz (.int at_)), some (.fz p), some (.fz (.int room)), some (.fz (.int (mixZ ns at_ 12))), none, none] [.int 0, .int 1] = some [l0.D, l1.D] := by
                simp [lcGo, k60, fd, e0, e1]
              by_cases c6 : mixZ ns at_ 12 < 9
              · by_cases c7 : mixZ ns at_ 12 % 2 = 0
                · exact ⟨.row1 l0, runD_rt (by simp [fb_law_likeness, startR, m1, c1, c2, c3, c4, c5, c6, r2, go, modD_p, c7, cut1, Lik.D]), o0, by simp [Lik.parts]; omega⟩
                · have c8 : mixZ ns at_ 12 % 2 = 1 := by omega
                  exact ⟨.row2 l0 l1, runD_rt (by simp [fb_law_likeness, startR, m1, c1, c2, c3, c4, c5, c6, r2, go, modD_p, c8, cut2, Lik.D]), ⟨o0, o1⟩, by simp [Lik.parts]; omega⟩
              · have c9 : mixZ ns at_ 12 = 9 ∨ mixZ ns at_ 12 = 10 ∨ mixZ ns at_ 12 = 11 := by omega
                rcases c9 with c9 | c9 | c9
                · have s9 : mixZ ns at_ 12 - 9 = 0 := by omega
                  exact ⟨.both l0 l1, runD_rt (by simp [fb_law_likeness, startR, m1, c1, c2, c3, c4, c5, c6, r2, go, s9, Lik.D]), ⟨o0, o1⟩, by simp [Lik.parts]; omega⟩
                · have s9 : mixZ ns at_ 12 - 9 = 1 := by omega
                  exact ⟨.either l0 l1, runD_rt (by simp [fb_law_likeness, startR, m1, c1, c2, c3, c4, c5, c6, r2, go, s9, Lik.D]), ⟨o0, o1⟩, by simp [Lik.parts]; omega⟩
                · have s9 : mixZ ns at_ 12 - 9 = 2 := by omega
                  exact ⟨.both l0 l1, runD_rt (by simp [fb_law_likeness, startR, m1, c1, c2, c3, c4, c5, c6, r2, go, s9, Lik.D]), ⟨o0, o1⟩, by simp [Lik.parts]; omega⟩
theorem drawn_eq (ns : List Int) {p : PyData} (hp : Pool p) (at_ : Int) (room : Int) (h : 0 ≤ at_) (h1 : 1 ≤ room) (h5 : room ≤ 5) : ∃ l : Lik, F_law_likeness 5 [scr ns, .int at_, p, .int room] = .ok l.D ∧ l.ok ∧ (l.parts : Int) ≤ room :=
  law_likeness_eq ns hp 5 at_ room h h1 (by omega)
theorem dRange1_n (f : Ro → R (List PyData)) (ρ : Ro) (n : Nat) (h : f ρ = .ok [.int n]) (h1 : n ≤ 1000000) : dRange1 f ρ = .ok ((List.range n).map fun (i : Nat) => PyData.int (i : Int)) := by
  have := dRange1_ap f ρ n h (by omega) (by omega)
  simpa using this
/-! ### what is no likeness -/
abbrev F_bad_likeness := runD 4 (fb_law_bad_likeness F_mixed)
def leafL : PyData := .tuple [.str "any"]
def badLs : List PyData := [.none, .str "any", .list [.str "any"], .tuple [.str "any", .int 1], .tuple [.str "is"], .tuple [.str "is", .list [.int 1]], .tuple [.str "is", .int 1000], .tuple [.str "kind", .str "int"], .tuple [],
  .tuple [.str "kind", .none], .tuple [.str "over", .bool true], .tuple [.str "over", .int 1000], .tuple [.str "over", .str "a"], .tuple [.str "begins", .str ""], .tuple [.str "begins", .int 1],
  .tuple [.str "begins", .str "A"], .tuple [.str "like", .int 1], .tuple [.str "not"], .tuple [.str "not", .none], .tuple [.str "not", leafL, leafL], .tuple [.str "both", leafL],
  .tuple [.str "either", leafL, .none], .tuple [.str "row", leafL], .tuple [.str "row", .tuple [leafL, leafL, leafL]], .tuple [.str "row", .list [leafL]], .tuple [.str "row", .tuple [.none]],
  .tuple [.str "has", .tuple []], .tuple [.int 1, .int 2], .tuple [.str "both", leafL, leafL, leafL],
  .tuple [.str "not", .tuple [.str "not", .tuple [.str "not", .tuple [.str "not", .tuple [.str "not", leafL]]]]],
  .tuple [.str "both", .tuple [.str "both", leafL, leafL], .tuple [.str "not", .tuple [.str "not", leafL]]]]
def isFalse : R PyData → Bool
  | .ok (.bool false) => true
  | _ => false
theorem isFalse_ok {r : R PyData} (h : isFalse r = true) : r = .ok (.bool false) := by
  unfold isFalse at h
  split at h
  · rfl
  · cases h
theorem bad_all : (badLs.all fun d => isFalse (F_is_likeness [d])) = true := by decide +kernel
theorem bad_likeness_eq (ns : List Int) (at_ : Int) (h : 0 ≤ at_) : ∃ d, F_bad_likeness [scr ns, .int at_] = .ok d ∧ F_is_likeness [d] = .ok (.bool false) := by
  have m1 := mixed_eq ns at_ 31 h (by omega)
  obtain ⟨d, e1, e2⟩ := atI_of (α := PyData) (xs := badLs) (P := fun d => F_is_likeness [d] = .ok (.bool false)) (fun d hd => isFalse_ok (List.all_eq_true.mp bad_all d hd)) (mixZ_nn ns at_ 31 (by omega)) (mixZ_lt ns at_ 31 (by omega))
  refine ⟨d, runD_rt ?_, e2⟩
  unfold badLs leafL at e1
  simp [fb_law_bad_likeness, startR, sExt, sApp, ownL, sFrz, tmulD, m1, e1]
end Pu

namespace Pu
open PySem PySem.Spec PyProof.Rows L2
variable [MemoSpec]
/-! ### wishes and books -/
inductive Ans
  | give (v : PyData) | brk (s : Str) | echo (i : Int)
def Ans.D : Ans → PyData
  | .give v => .tuple [.str "give", v]
  | .brk s => .tuple [.str "break", .str s]
  | .echo i => .tuple [.str "echo", .int i]
def Ans.ok (many : Nat) : Ans → Prop
  | .give v => isVal v = true
  | .brk s => Word s
  | .echo i => 0 ≤ i ∧ i < many
structure Wish where
  name : Str
  method : Str
  args : List Lik
  low : Int
  top : Int
  answers : List Ans
  after : List Str
def Wish.D (w : Wish) : PyData := .tuple [.str w.name, .str w.method, .tuple (w.args.map Lik.D), .int w.low, .int w.top, .tuple (w.answers.map Ans.D), .tuple (w.after.map .str)]
structure Wish.ok (w : Wish) : Prop where
  name : Word w.name
  method : Word w.method
  few : w.args.length ≤ 2
  args : ∀ l ∈ w.args, l.ok ∧ l.parts ≤ 5
  low0 : 0 ≤ w.low
  low5 : w.low ≤ 5
  top1 : 1 ≤ w.top
  top5 : w.top ≤ 5
  le : w.low ≤ w.top
  ans1 : 1 ≤ w.answers.length
  ans3 : w.answers.length ≤ 3
  answers : ∀ a ∈ w.answers, a.ok w.args.length
  after : ∀ s ∈ w.after, Word s
  few4 : w.after.length ≤ 1000
def chainB : List Str → List Wish → Bool
  | _, [] => true
  | known, w :: ws => !(decide (w.name ∈ known)) && ((w.after.all fun s => decide (s ∈ known)) && chainB (known ++ [w.name]) ws)
def bookB (ws : List Wish) : Bool := decide (ws.length ≤ 4) && chainB [] ws
structure BookOk (ws : List Wish) : Prop where
  wish : ∀ w ∈ ws, w.ok
  four : ws.length ≤ 4
  chain : chainB [] ws = true
def bookD (ws : List Wish) : PyData := .tuple (ws.map Wish.D)
abbrev F_is_answer := runD 2 (fb_is_answer F_is_value F_is_word F_is_whole)
abbrev F_is_pattern := runD 3 (fb_is_pattern F_is_word F_is_likeness)
abbrev F_is_wish := runD 2 (fb_is_wish F_is_word F_is_pattern F_is_whole F_is_answer)
abbrev F_is_book := runD 4 (fb_is_book F_is_wish)
abbrev F_need_book := runD 1 (fb_need_book F_is_book)
abbrev F_checked := runD 1 (fb_checked F_need_book)
@[simp] theorem at3 (x y z u : PyData) (xs : List PyData) : atI (x :: y :: z :: u :: xs) 3 = some u := atI_ge (by omega) _ rfl
@[simp] theorem at4 (x y z u v : PyData) (xs : List PyData) : atI (x :: y :: z :: u :: v :: xs) 4 = some v := atI_ge (by omega) _ rfl
@[simp] theorem at5 (x y z u v w : PyData) (xs : List PyData) : atI (x :: y :: z :: u :: v :: w :: xs) 5 = some w := atI_ge (by omega) _ rfl
@[simp] theorem at6 (x y z u v w t : PyData) (xs : List PyData) : atI (x :: y :: z :: u :: v :: w :: t :: xs) 6 = some t := atI_ge (by omega) _ rfl
theorem is_answer_eq {a : Ans} {many : Nat} (h : a.ok many) : F_is_answer [a.D, .int many] = .ok (.bool true) := by
  refine runD_rt ?_
  cases a with
  | give v => simp [fb_is_answer, startR, Ans.D, isi_tup, isTup, isi_str, isStr, is_value_eq, show isVal v = true from h]
  | brk s => simp [fb_is_answer, startR, Ans.D, isi_tup, isTup, isi_str, isStr, is_word_eq, show isWord (.str s) = true from h]
  | echo i =>
    have h1 : 0 ≤ i ∧ i < many := h
    have h2 : i ≤ (many : Int) - 1 := by omega
    simp [fb_is_answer, startR, Ans.D, isi_tup, isTup, isi_str, isStr, is_whole_eq, isWhole, h1.1, h2]
theorem allD_true {ds : List PyData} (h : ∀ d ∈ ds, d = .bool true) : allD [.list ds] = some (.bool true) := by
  have e : ds = (ds.map fun _ => true).map PyData.bool := by
    rw [List.map_map]
    refine (List.map_id ds).symm.trans (List.map_congr_left fun d hd => ?_)
    exact h d hd
  rw [e, allD_bs]
  simp
/-- a comprehension that asks the same of all -/
theorem lcGo_true {α : Type} {b : PyData → Ro → Option Ro} {fe : Ro → R PyData} {ρ : Ro} {D : α → PyData} : ∀ {xs : List α}, (∀ x ∈ xs, ∃ ρ', b (D x) ρ = some ρ' ∧ fe ρ' = .ok (.bool true)) → lcGo b dYes fe ρ (xs.map D) = some (xs.map fun _ => PyData.bool true)
  | [], _ => rfl
  | x :: xs, h => by
    obtain ⟨ρ', h1, h2⟩ := h x (by simp)
    have ih := lcGo_true (b := b) (fe := fe) (ρ := ρ) (D := D) (xs := xs) fun y hy => h y (by simp [hy])
    rw [List.map_cons]
    unfold lcGo
    rw [h1]
    simp [h2, ih]
theorem all_trues {α : Type} (xs : List α) : allD [.list (xs.map fun _ => PyData.bool true)] = some (.bool true) := allD_true fun d hd => by
  obtain ⟨_, _, rfl⟩ := List.mem_map.mp hd
  rfl
theorem is_pattern_eq {m : Str} {ls : List Lik} (hm : Word m) (h2 : ls.length ≤ 2) (hl : ∀ l ∈ ls, l.ok ∧ l.parts ≤ 5) : F_is_pattern [.str m, .tuple (ls.map Lik.D)] = .ok (.bool true) := by
  refine runD_rt ?_
  have e : lcGo (bName 2) dYes (dCallF 1 F_is_likeness (dCons (dVar 2) dNil)) [some (.fz (.str m)), some (.fz (.tuple (ls.map Lik.D))), none] (ls.map Lik.D) = some (ls.map fun _ => PyData.bool true) := lcGo_true fun l hl' => ⟨_, rfl, by simp [is_likeness_eq l (hl l hl').1 (hl l hl').2]⟩
  have h3 : ¬ (2 : Int) < ls.length := by omega
  have h4 : ls.length ≤ 1000000 := by omega
  simp [fb_is_pattern, startR, is_word_eq, show isWord (.str m) = true from hm, isi_tup, isTup, h3, h4, e, all_trues]
theorem is_wish_eq {w : Wish} (h : w.ok) : F_is_wish [w.D] = .ok (.bool true) := by
  refine runD_rt ?_
  have e1 : lcGo (bName 1) dYes (dCallF 2 F_is_answer (dCons (dVar 1) (dCons (dCall lenD (dCons (dBin ixD (dVar 0) (dC (.int 2))) dNil)) dNil))) [some (.fz w.D), none] (w.answers.map Ans.D) = some (w.answers.map fun _ => PyData.bool true) := lcGo_true fun a ha => ⟨_, rfl, by simp [Wish.D, is_answer_eq (h.answers a ha)]⟩
  have e2 : lcGo (bName 1) dYes (dCallF 1 F_is_word (dCons (dVar 1) dNil)) [some (.fz w.D), none] (w.after.map .str) = some (w.after.map fun _ => PyData.bool true) := lcGo_true fun s hs => ⟨_, rfl, by simp [is_word_eq, show isWord (.str s) = true from h.after s hs]⟩
  have n1 : isWord (.str w.name) = true := h.name
  have l1 := h.low0
  have l2 := h.low5
  have l3 := h.top1
  have l4 := h.top5
  have l5 : ¬ w.top < w.low := by have := h.le; omega
  have a1 : (1 : Int) ≤ w.answers.length := by have := h.ans1; omega
  have a2 : (w.answers.length : Int) ≤ 3 := by have := h.ans3; omega
  have a3 : w.answers.length ≤ 1000000 := by have := h.ans3; omega
  have a4 : w.after.length ≤ 1000000 := by have := h.few4; omega
  have p := is_pattern_eq h.method h.few h.args
  unfold Wish.D at e1 e2
  simp [fb_is_wish, startR, Wish.D, isi_tup, isTup, is_word_eq, n1, p, is_whole_eq, isWhole, l1, l2, l3, l4, l5, a1, a2, a3, a4, e1, e2, all_trues]
theorem okd_names (ns : List Str) : okd (.list (ns.map .str)) = true := okN_okd (n := 1) (okN_list fun d hd => by obtain ⟨i, _, rfl⟩ := List.mem_map.mp hd; exact okN_flat rfl) (by omega)
theorem any_names (s : Str) : ∀ ns : List Str, ((ns.map PyData.str).any fun z => PyData.eqv z (.str s)) = decide (s ∈ ns)
  | [] => rfl
  | n :: ns => by
    rw [List.map_cons, List.any_cons, any_names s ns]
    show ((n == s) || _) = _
    by_cases h : n = s
    · subst h; simp
    · have : ¬ s = n := fun z => h z.symm
      simp [h, this]
theorem inD_names (s : Str) (ns : List Str) : inD (.str s) (.list (ns.map .str)) = some (.bool (decide (s ∈ ns))) := by
  show (if okd (.str s) && okd (.list (ns.map .str)) then _ else _) = _
  rw [okd_names, okd_s, any_names]
  rfl
theorem lcGo_mapD {α : Type} {b : PyData → Ro → Option Ro} {fe : Ro → R PyData} {ρ : Ro} {D : α → PyData} {g : α → PyData} : ∀ {xs : List α}, (∀ x ∈ xs, ∃ ρ', b (D x) ρ = some ρ' ∧ fe ρ' = .ok (g x)) → lcGo b dYes fe ρ (xs.map D) = some (xs.map g)
  | [], _ => rfl
  | x :: xs, h => by
    obtain ⟨ρ', h1, h2⟩ := h x (by simp)
    have ih := lcGo_mapD (b := b) (fe := fe) (ρ := ρ) (D := D) (g := g) (xs := xs) fun y hy => h y (by simp [hy])
    rw [List.map_cons]
    unfold lcGo
    rw [h1]
    simp [h2, ih]
/-- the loop of is_book -/
theorem book_loop (d0 : PyData) : ∀ (ws : List Wish) (known : List Str) (c2 : Option Cel), (∀ w ∈ ws, w.ok) → known.length + ws.length ≤ 1000 →
    (chainB known ws = true ∧ ∃ ρ, forGo (bName 2) (sSeq (sIf (dOr (dTest (dBinR inD (dBin ixD (dVar 2) (dC (.int 0))) (dOwL 1))) (dNot (dTest (dCall allD (dCons (dAsL (dLc (dItems (dBin ixD (dVar 2) (dC (.int 6)))) (bName 3) dYes (dBinR inD (dVar 3) (dOwL 1)) [3])) dNil))))) (sRet (dC (.bool false))) sNil)
    (sApp 1 (dBin ixD (dVar 2) (dC (.int 0))))) [some (.fz d0), some (.ow (.list (known.map .str))), c2, none] (ws.map Wish.D) = .nx ρ) ∨
    (chainB known ws = false ∧ forGo (bName 2) (sSeq (sIf (dOr (dTest (dBinR inD (dBin ixD (dVar 2) (dC (.int 0))) (dOwL 1))) (dNot (dTest (dCall allD (dCons (dAsL (dLc (dItems (dBin ixD (dVar 2) (dC (.int 6)))) (bName 3) dYes (dBinR inD (dVar 3) (dOwL 1)) [3])) dNil))))) (sRet (dC (.bool false))) sNil)
    (sApp 1 (dBin ixD (dVar 2) (dC (.int 0))))) [some (.fz d0), some (.ow (.list (known.map .str))), c2, none] (ws.map Wish.D) = .rt (.bool false))
  | [], known, c2, _, _ => .inl ⟨rfl, _, rfl⟩
  | w :: ws, known, c2, hw, hl => by
    have ho := hw w (by simp)
    have e2 : lcGo (bName 3) dYes (dBinR inD (dVar 3) (dOwL 1)) [some (.fz d0), some (.ow (.list (known.map .str))), some (.fz w.D), none] (w.after.map .str) = some (w.after.map fun s => PyData.bool (decide (s ∈ known))) := lcGo_mapD fun s _ => ⟨_, rfl, by simp [inD_names]⟩
    have a4 : w.after.length ≤ 1000000 := by have := ho.few4; omega
    have ad := allD_map w.after fun s => decide (s ∈ known)
    by_cases k1 : w.name ∈ known
    · refine .inr ⟨by simp [chainB, k1], ?_⟩
      rw [List.map_cons]
      unfold forGo
      simp [Wish.D, inD_names, k1]
    · cases k2 : (w.after.all fun s => decide (s ∈ known)) with
      | false =>
        refine .inr ⟨by simp only [chainB, k2, Bool.false_and, Bool.and_false], ?_⟩
        rw [k2] at ad
        unfold Wish.D at e2
        rw [List.map_cons]
        unfold forGo
        simp only [Wish.D] at *
        simp [inD_names, k1, a4, e2, ad]
      | true =>
        rw [k2] at ad
        have hkl : known.length < 1000000 := by rw [List.length_cons] at hl; omega
        have step : (sSeq (sIf (dOr (dTest (dBinR inD (dBin ixD (dVar 2) (dC (.int 0))) (dOwL 1))) (dNot (dTest (dCall allD (dCons (dAsL (dLc (dItems (dBin ixD (dVar 2) (dC (.int 6)))) (bName 3) dYes (dBinR inD (dVar 3) (dOwL 1)) [3])) dNil))))) (sRet (dC (.bool false))) sNil)
    (sApp 1 (dBin ixD (dVar 2) (dC (.int 0))))) [some (.fz d0), some (.ow (.list (known.map .str))), some (.fz w.D), none] = .nx [some (.fz d0), some (.ow (.list ((known ++ [w.name]).map .str))), some (.fz w.D), none] := by
          unfold Wish.D at *
          simp [inD_names, k1, a4, e2, ad, sApp, ownL, hkl]
        have ih := book_loop d0 ws (known ++ [w.name]) (some (.fz w.D)) (fun x hx => hw x (by simp [hx])) (by simp at hl ⊢; omega)
        have hc : chainB known (w :: ws) = chainB (known ++ [w.name]) ws := by simp [chainB, k1, k2]
        rw [hc, List.map_cons]
        unfold forGo
        simp only [bName_ap, List.set]
        rw [step]
        exact ih
theorem is_book_eq {ws : List Wish} (h : ∀ w ∈ ws, w.ok) (hl : ws.length ≤ 1000) : F_is_book [bookD ws] = .ok (.bool (bookB ws)) := by
  refine runD_rt ?_
  by_cases h4 : ws.length ≤ 4
  · have h5 : ¬ (4 : Int) < ws.length := by omega
    have h6 : ws.length ≤ 1000000 := by omega
    have e1 : lcGo (bName 2) dYes (dCallF 1 F_is_wish (dCons (dVar 2) dNil)) [some (.fz (.tuple (ws.map Wish.D))), none, none, none] (ws.map Wish.D) = some (ws.map fun _ => PyData.bool true) := lcGo_true fun w hw => ⟨_, rfl, by simp [is_wish_eq (h w hw)]⟩
    rcases book_loop (.tuple (ws.map Wish.D)) ws [] none h (by simp; omega) with ⟨c, ρ, e⟩ | ⟨c, e⟩
    · simp [fb_is_book, startR, bookD, isi_tup, isTup, h5, h6, e1, all_trues]
      rw [List.map_nil] at e
      simp [e, bookB, h4, c]
    · simp [fb_is_book, startR, bookD, isi_tup, isTup, h5, h6, e1, all_trues]
      rw [List.map_nil] at e
      simp [e, bookB, c]
  · have h5 : (4 : Int) < ws.length := by omega
    simp [fb_is_book, startR, bookD, isi_tup, isTup, h5, bookB, h4]
theorem need_book_ok {ws : List Wish} (h : BookOk ws) : F_need_book [bookD ws] = .ok .none := by
  refine runD_nx (ρ := [some (.fz (bookD ws))]) ?_
  have e : bookB ws = true := by simp [bookB, h.four, h.chain]
  simp [fb_need_book, startR, is_book_eq h.wish (by have := h.four; omega), e]
theorem need_book_ex {d : PyData} (h : F_is_book [d] = .ok (.bool false)) : F_need_book [d] = .ex ⟨"NoBook", none⟩ := by
  refine runD_ex (ρ := [some (.fz d)]) ?_
  simp [fb_need_book, startR, h]
theorem checked_ok {ws : List Wish} (h : BookOk ws) : F_checked [bookD ws] = .ok (bookD ws) := by
  refine runD_rt ?_
  simp [fb_checked, startR, need_book_ok h]
theorem checked_ex {d : PyData} (h : F_is_book [d] = .ok (.bool false)) : F_checked [d] = .ex ⟨"NoBook", none⟩ := by
  refine runD_ex (ρ := [some (.fz d)]) ?_
  simp [fb_checked, startR, need_book_ex h]
end Pu

namespace Pu
open PySem PySem.Spec PyProof.Rows L2
variable [MemoSpec]
/-! ### drawn books -/
abbrev F_law_methods := runD 3 (fb_law_methods F_word F_mixed)
abbrev F_law_answer := runD 5 (fb_law_answer F_mixed F_value)
abbrev F_law_book := runD 21 (fb_law_book F_mixed F_word (F_law_likeness 5) F_law_answer)
/-- two methods' names -/
def Methods (d : PyData) : Prop := ∃ a b : Str, d = .list [.str a, .str b] ∧ Word a ∧ Word b
theorem cutS_take (s : Str) (n : Nat) : (cutS s none (some (n : Int))).cps.toList = s.cps.toList.take n := by
  show (s.cps.toList.drop 0).take (HT.sIx s.length s.length (some (n : Int)) - 0) = _
  rw [HT.sIx_nat, List.drop_zero, Nat.sub_zero]
  have h := len_list s
  by_cases k : n ≤ s.length
  · rw [Nat.min_eq_left k]
  · rw [Nat.min_eq_right (by omega), List.take_of_length_le (by omega), List.take_of_length_le (by omega)]
theorem cutS_len (s : Str) (n : Nat) : (cutS s none (some (n : Int))).length = min n s.length := by
  rw [← len_list, cutS_take, List.length_take, len_list]
theorem word_m {s : Str} (h : Word s) : Word (cutS s none (some 5) ++ ("m" : Str)) := by
  obtain ⟨h1, h2, h3⟩ := Word_iff.mp h
  have e := cutS_len s 5
  have e' := cutS_take s 5
  have lm : ("m" : Str).length = 1 := by decide +kernel
  refine Word_iff.mpr ⟨?_, ?_, fun c hc => ?_⟩
  · rw [len_add, lm]; omega
  · rw [len_add, lm]
    have : (cutS s none (some 5)).length = min 5 s.length := e
    omega
  · rw [cps_add] at hc
    rcases List.mem_append.mp hc with k | k
    · have k' : c ∈ s.cps.toList.take 5 := by rw [← e']; exact k
      exact h3 c (List.mem_of_mem_take k')
    · have : ∀ c ∈ ("m" : Str).cps.toList, lett c = true := by decide +kernel
      exact this c k
theorem methods_eq (ns : List Int) (at_ : Int) (h : 0 ≤ at_) : ∃ d, F_law_methods [scr ns, .int at_] = .ok d ∧ Methods d := by
  obtain ⟨s, e1, h1⟩ := word_eq ns at_ h
  obtain ⟨t, e2, h2⟩ := word_eq ns (at_ + 10) (by omega)
  have m1 := mixed_eq ns (at_ + 20) 2 (by omega) (by omega)
  have a1 := mixZ_nn ns (at_ + 20) 2 (by omega)
  have a2 := mixZ_lt ns (at_ + 20) 2 (by omega)
  have ad : addD (.str (cutS s none (some 5))) (.str "m") = some (.str (cutS s none (some 5) ++ ("m" : Str))) := by
    have e := cutS_len s 5
    have lm : ("m" : Str).length = 1 := by decide +kernel
    have e' : (cutS s none (some 5)).length = min 5 s.length := e
    show (if _ + _ ≤ 1000000 then _ else _) = _
    rw [if_pos (by omega)]
  by_cases c : mixZ ns (at_ + 20) 2 = 0
  · exact ⟨_, runD_rt (by simp [fb_law_methods, startR, e1, e2, m1, slD, ad, c]), _, _, rfl, h1, word_m h1⟩
  · have c : mixZ ns (at_ + 20) 2 = 1 := by omega
    exact ⟨_, runD_rt (by simp [fb_law_methods, startR, e1, e2, m1, slD, ad, c]), _, _, rfl, h1, h2⟩
theorem answer_eq (ns : List Int) (at_ : Int) (h : 0 ≤ at_) {p : PyData} (hp : Pool p) (many : Nat) : ∃ a : Ans, F_law_answer [scr ns, .int at_, p, .int many] = .ok a.D ∧ a.ok many := by
  obtain ⟨v, ev, hv⟩ := value_eq ns (at_ + 2) (by omega) hp
  obtain ⟨xs, ws, rfl, l1, l2, h1, h2⟩ := hp
  have m1 := mixed_eq ns at_ 5 h (by omega)
  have m2 := mixed_eq ns (at_ + 1) 3 (by omega) (by omega)
  have a1 := mixZ_nn ns at_ 5 (by omega)
  by_cases c1 : mixZ ns at_ 5 = 0
  · obtain ⟨d, e1, e2⟩ := atI_of h2 (i := mixZ ns (at_ + 1) 3) (mixZ_nn _ _ _ (by omega)) (by have := mixZ_lt ns (at_ + 1) 3 (by omega); omega)
    cases d with
    | str s => exact ⟨.brk s, runD_rt (by simp [fb_law_answer, startR, m1, m2, c1, e1, Ans.D]), e2⟩
    | _ => simp [isWord] at e2
  · by_cases c2 : mixZ ns at_ 5 < 3
    · by_cases c3 : 0 < many
      · have c4 : (0 : Int) < many := by omega
        have m3 := mixed_eq ns (at_ + 1) many (by omega) c4
        exact ⟨.echo (mixZ ns (at_ + 1) many), runD_rt (by simp [fb_law_answer, startR, m1, c1, c2, c3, m3, Ans.D]), mixZ_nn _ _ _ c4, mixZ_lt _ _ _ c4⟩
      · have c4 : ¬ (0 : Int) < many := by omega
        exact ⟨.give v, runD_rt (by simp [fb_law_answer, startR, m1, c1, c2, c3, ev, Ans.D]), hv⟩
    · exact ⟨.give v, runD_rt (by simp [fb_law_answer, startR, m1, c1, c2, ev, Ans.D]), hv⟩
/-- a comprehension whose items are drawn -/
theorem lcGo_drawn {α : Type} {b : PyData → Ro → Option Ro} {fe : Ro → R PyData} {ρ : Ro} {D : α → PyData} {P : α → Prop} : ∀ {ds : List PyData}, (∀ d ∈ ds, ∃ ρ' y, b d ρ = some ρ' ∧ fe ρ' = .ok (D y) ∧ P y) → ∃ ys : List α, lcGo b dYes fe ρ ds = some (ys.map D) ∧ ys.length = ds.length ∧ ∀ y ∈ ys, P y
  | [], _ => ⟨[], rfl, rfl, by simp⟩
  | d :: ds, h => by
    obtain ⟨ρ', y, h1, h2, h3⟩ := h d (by simp)
    obtain ⟨ys, i1, i2, i3⟩ := lcGo_drawn (b := b) (fe := fe) (ρ := ρ) (D := D) (P := P) (ds := ds) fun x hx => h x (by simp [hx])
    refine ⟨y :: ys, ?_, by simp [i2], ?_⟩
    · unfold lcGo
      rw [h1]
      simp [h2, i1]
    · intro z hz
      rcases List.mem_cons.mp hz with k | k
      · exact k ▸ h3
      · exact i3 z k
/-- the chosen of some names, by number -/
theorem lcGo_after {ft : Ro → R Bool} {r0 : Ro} (h0 : r0.length = 19) : ∀ (names : List Str) (k : Nat), (∀ (j : Nat) (s : Str), ∃ b, ft (r0 ++ [some (.fz (.int j)), some (.fz (.str s))]) = .ok b) →
    ∃ ss : List Str, lcGo (bTup 2 (bCons (bName 19) (bCons (bName 20) bNil))) ft (dVar 20) (r0 ++ [none, none]) (enumD k (names.map .str)) = some (ss.map .str) ∧ (∀ s ∈ ss, s ∈ names) ∧ ss.length ≤ names.length
  | [], k, _ => ⟨[], rfl, by simp, Nat.le_refl _⟩
  | n :: names, k, h => by
    obtain ⟨ss, e1, e2, e3⟩ := lcGo_after h0 names (k + 1) h
    have e1' : lcGo (bTup 2 (bCons (bName 19) (bCons (bName 20) bNil))) ft (dVar 20) (r0 ++ [none, none]) (enumD (k + 1) (names.map PyData.str)) = some (ss.map PyData.str) := e1
    obtain ⟨b, hb⟩ := h k n
    have hbind : bTup 2 (bCons (bName 19) (bCons (bName 20) bNil)) (.tuple [.int k, .str n]) (r0 ++ [none, none]) = some (r0 ++ [some (.fz (.int k)), some (.fz (.str n))]) := by
      simp [List.set_append, h0]
    have hv : dVar 20 (r0 ++ [some (.fz (.int (k : Int))), some (.fz (.str n))]) = .ok (.str n) := by
      unfold dVar
      rw [List.getElem?_append_right (by omega)]
      rw [h0]
      rfl
    cases b with
    | true =>
      refine ⟨n :: ss, ?_, ?_, by simp; omega⟩
      · rw [List.map_cons]
        unfold enumD lcGo
        rw [hbind]
        simp only [hb, hv, e1', Option.map_some, List.map_cons]
      · intro s hs
        rcases List.mem_cons.mp hs with k | k
        · subst k; simp
        · exact List.mem_cons_of_mem _ (e2 s k)
    | false =>
      refine ⟨ss, ?_, fun s hs => List.mem_cons_of_mem _ (e2 s hs), by simp; omega⟩
      rw [List.map_cons]
      unfold enumD lcGo
      rw [hbind]
      simp only [hb, e1']
end Pu

namespace Pu
open PySem PySem.Spec PyProof.Rows L2
variable [MemoSpec]
theorem seq_nx {f g : Ro → Fl} {ρ ρ' : Ro} (h : f ρ = .nx ρ') : sSeq f g ρ = g ρ' := by rw [sSeq_ap, h]
theorem forGo_ix {b : PyData → Ro → Option Ro} {body : Ro → Fl} (P : Nat → Ro → Prop) : ∀ {ds : List PyData} {ρ : Ro} {n : Nat}, P n ρ → (∀ i d, ds[i]? = some d → ∀ ρ, P (n + i) ρ → ∃ ρ1 ρ2, b d ρ = some ρ1 ∧ body ρ1 = .nx ρ2 ∧ P (n + i + 1) ρ2) → ∃ ρ', forGo b body ρ ds = .nx ρ' ∧ P (n + ds.length) ρ'
  | [], ρ, n, h, _ => ⟨ρ, rfl, h⟩
  | d :: ds, ρ, n, h, k => by
    obtain ⟨ρ1, ρ2, e1, e2, h2⟩ := k 0 d rfl ρ h
    obtain ⟨ρ', e3, h3⟩ := forGo_ix P (ds := ds) (n := n + 1) h2 fun i x hx ρ hρ => by
      have := k (i + 1) x (by simpa using hx) ρ (by rw [show n + (i + 1) = n + 1 + i from by omega]; exact hρ)
      rw [show n + (i + 1) + 1 = n + 1 + i + 1 from by omega] at this
      exact this
    refine ⟨ρ', ?_, by rw [List.length_cons, show n + (ds.length + 1) = n + 1 + ds.length from by omega]; exact h3⟩
    unfold forGo
    rw [e1]
    show (match body ρ1 with | .nx ρ2 => _ | .ct ρ2 => _ | .bk ρ2 => _ | r => r) = _
    rw [e2]
    exact e3
def xxs : List Str := ["xxxxa", "xxxxb", "xxxxc", "xxxxd"]
def was : List Str := ["wa", "wb", "wc", "wd"]
theorem xx_at {k : Nat} (h : k < 4) : ∃ s, atI [PyData.str "xxxxa", .str "xxxxb", .str "xxxxc", .str "xxxxd"] k = some (.str s) ∧ xxs[k]? = some s ∧ Word s ∧ s.length = 5 := by
  match k, h with
  | 0, _ => exact ⟨_, rfl, rfl, by unfold Word; decide +kernel, by decide +kernel⟩
  | 1, _ => exact ⟨_, rfl, rfl, by unfold Word; decide +kernel, by decide +kernel⟩
  | 2, _ => exact ⟨_, rfl, rfl, by unfold Word; decide +kernel, by decide +kernel⟩
  | 3, _ => exact ⟨_, rfl, rfl, by unfold Word; decide +kernel, by decide +kernel⟩
theorem wa_at {k : Nat} (h : k < 4) : ∃ s, atI [PyData.str "wa", .str "wb", .str "wc", .str "wd"] k = some (.str s) ∧ Word s ∧ s.length ≠ 5 := by
  match k, h with
  | 0, _ => exact ⟨_, rfl, by unfold Word; decide +kernel, by decide +kernel⟩
  | 1, _ => exact ⟨_, rfl, by unfold Word; decide +kernel, by decide +kernel⟩
  | 2, _ => exact ⟨_, rfl, by unfold Word; decide +kernel, by decide +kernel⟩
  | 3, _ => exact ⟨_, rfl, by unfold Word; decide +kernel, by decide +kernel⟩
theorem xx_inj : ∀ {i j : Nat} {s : Str}, xxs[i]? = some s → xxs[j]? = some s → i = j := by
  intro i j s h1 h2
  have nd : xxs.Nodup := by decide +kernel
  exact (List.getElem?_inj (List.getElem?_eq_some_iff.mp h1).1 nd).mp (h1.trans h2.symm)
theorem chainB_snoc (w : Wish) : ∀ (ws : List Wish) (known : List Str), chainB known (ws ++ [w]) = (chainB known ws && (!(decide (w.name ∈ known ++ ws.map (·.name))) && (w.after.all fun s => decide (s ∈ known ++ ws.map (·.name)))))
  | [], known => by simp [chainB]
  | x :: ws, known => by
    rw [List.cons_append]
    unfold chainB
    rw [chainB_snoc w ws (known ++ [x.name])]
    simp only [List.map_cons, List.append_assoc, List.cons_append, List.nil_append, Bool.and_assoc]
/-- what holds of the wishes drawn so far -/
structure Drawn (ws : List Wish) : Prop where
  ok : ∀ w ∈ ws, w.ok
  chain : chainB [] ws = true
  five : ∀ (i : Nat) (w : Wish), ws[i]? = some w → w.name.length ≠ 5 ∨ xxs[i]? = some w.name
theorem Drawn.snoc {ws : List Wish} {w : Wish} (h : Drawn ws) (ho : w.ok) (hn : w.name ∉ ws.map (·.name)) (ha : ∀ s ∈ w.after, s ∈ ws.map (·.name)) (h5 : w.name.length ≠ 5 ∨ xxs[ws.length]? = some w.name) : Drawn (ws ++ [w]) where
  ok := fun x hx => by
    rcases List.mem_append.mp hx with k | k
    · exact h.ok x k
    · rw [List.mem_singleton.mp k]; exact ho
  chain := by
    rw [chainB_snoc, h.chain]
    simp only [List.nil_append, Bool.true_and, Bool.and_eq_true, Bool.not_eq_true', decide_eq_false_iff_not, List.all_eq_true, decide_eq_true_eq]
    exact ⟨hn, ha⟩
  five := fun i x hx => by
    by_cases hi : i < ws.length
    · rw [List.getElem?_append_left hi] at hx; exact h.five i x hx
    · rw [List.getElem?_append_right (by omega)] at hx
      obtain ⟨hl, e⟩ := List.getElem?_eq_some_iff.mp hx
      have hi2 : i - ws.length = 0 := by simp at hl; omega
      have : i = ws.length := by omega
      simp [hi2] at hx
      subst hx
      subst this
      exact h5
/-- a name that is new -/
theorem new_name {ws : List Wish} (h : Drawn ws) (h4 : ws.length < 4) {x : Str} (hx : xxs[ws.length]? = some x) (h5 : x.length = 5) : x ∉ ws.map (·.name) := fun hm => by
  obtain ⟨w, hw, rfl⟩ := List.mem_map.mp hm
  obtain ⟨i, hi, e⟩ := List.getElem_of_mem hw
  have hi' : ws[i]? = some w := by rw [List.getElem?_eq_getElem hi, e]
  rcases h.five i w hi' with k | k
  · exact k h5
  · have := xx_inj k hx; omega
end Pu

namespace Pu
open PySem PySem.Spec PyProof.Rows L2
variable [MemoSpec]
def bookBody : Ro → Fl :=
  (sSeq (sAsg (dBin addD (dVar 1) (dBin mulD (dC (.int 400)) (dBin addD (dVar 8) (dC (.int 1))))) (bName 9))
    (sSeq (sAsg (dCallF 2 F_word (dCons (dVar 0) (dCons (dVar 9) dNil))) (bName 10))
    (sSeq (sIf (dTest (dBinR inD (dVar 10) (dOwL 7))) (sAsg (dBin ixD (dAsL (dLst (dCons (dC (.str "wa")) (dCons (dC (.str "wb")) (dCons (dC (.str "wc")) (dCons (dC (.str "wd")) dNil)))))) (dVar 8)) (bName 10)) sNil)
    (sSeq (sIf (dTest (dBinR inD (dVar 10) (dOwL 7))) (sAsg (dBin ixD (dAsL (dLst (dCons (dC (.str "xxxxa")) (dCons (dC (.str "xxxxb")) (dCons (dC (.str "xxxxc")) (dCons (dC (.str "xxxxd")) dNil)))))) (dVar 8)) (bName 10)) sNil)
    (sSeq (sAsg (dCallF 3 F_mixed (dCons (dVar 0) (dCons (dBin addD (dVar 9) (dC (.int 8))) (dCons (dC (.int 2)) dNil)))) (bName 11))
    (sSeq (sAsg (dBin ixD (dAsL (dLst (dCons (dC (.int 1)) (dCons (dC (.int 1)) (dCons (dC (.int 2)) (dCons (dC (.int 0)) dNil)))))) (dCallF 3 F_mixed (dCons (dVar 0) (dCons (dBin addD (dVar 9) (dC (.int 9))) (dCons (dC (.int 4)) dNil))))) (bName 12))
    (sSeq (sAsg (dCall tupleD (dCons (dAsL (dLc (dRange1 (dCons (dVar 12) dNil)) (bName 19) dYes (dCallF 4 (F_law_likeness 5) (dCons (dVar 0) (dCons (dBin addD (dBin addD (dVar 9) (dC (.int 20))) (dBin mulD (dC (.int 130)) (dVar 19))) (dCons (dVar 2) (dCons (dVar 5) dNil))))) [19])) dNil)) (bName 13))
    (sSeq (sAsg (dBin ixD (dAsL (dLst (dCons (dC (.int 0)) (dCons (dC (.int 0)) (dCons (dC (.int 1)) (dCons (dC (.int 1)) (dCons (dC (.int 2)) dNil))))))) (dCallF 3 F_mixed (dCons (dVar 0) (dCons (dBin addD (dVar 9) (dC (.int 10))) (dCons (dC (.int 5)) dNil))))) (bName 14))
    (sSeq (sAsg (dCall max2D (dCons (dC (.int 1)) (dCons (dBin addD (dVar 14) (dCallF 3 F_mixed (dCons (dVar 0) (dCons (dBin addD (dVar 9) (dC (.int 11))) (dCons (dC (.int 3)) dNil))))) dNil))) (bName 15))
    (sSeq (sAsg (dBin addD (dC (.int 1)) (dCallF 3 F_mixed (dCons (dVar 0) (dCons (dBin addD (dVar 9) (dC (.int 12))) (dCons (dC (.int 3)) dNil))))) (bName 16))
    (sSeq (sAsg (dCall tupleD (dCons (dAsL (dLc (dRange1 (dCons (dVar 16) dNil)) (bName 19) dYes (dCallF 4 F_law_answer (dCons (dVar 0) (dCons (dBin addD (dBin addD (dVar 9) (dC (.int 300))) (dBin mulD (dC (.int 15)) (dVar 19))) (dCons (dVar 2) (dCons (dVar 12) dNil))))) [19])) dNil)) (bName 17))
    (sSeq (sAsg (dCall tupleD (dCons (dAsL (dLc (dEnumL (dOwL 7)) (bTup 2 (bCons (bName 19) (bCons (bName 20) bNil))) (dTest (dBin eqD (dCallF 3 F_mixed (dCons (dVar 0) (dCons (dBin addD (dBin addD (dVar 9) (dC (.int 13))) (dVar 19)) (dCons (dC (.int 2)) dNil)))) (dC (.int 0)))) (dVar 20) [19, 20])) dNil)) (bName 18))
    (sSeq (sApp 6 (dTup (dCons (dVar 10) (dCons (dBin ixD (dVar 3) (dVar 11)) (dCons (dVar 13) (dCons (dVar 14) (dCons (dVar 15) (dCons (dVar 17) (dCons (dVar 18) dNil)))))))))
    (sApp 7 (dVar 10)))))))))))))))
theorem book_shape : fb_law_book F_mixed F_word (F_law_likeness 5) F_law_answer = sSeq (sAsgL 6 (dLst dNil)) (sSeq (sAsgL 7 (dLst dNil)) (sSeq (sFor (dRange1 (dCons (dCallF 3 F_mixed (dCons (dVar 0) (dCons (dVar 1) (dCons (dBin addD (dVar 4) (dC (.int 1))) dNil)))) dNil)) (bName 8) bookBody) (sFrz 6 (sRet (dCall tupleD (dCons (dVar 6) dNil)))))) := rfl
theorem book_step (ns : List Int) {p md : PyData} (hp : Pool p) (hmd : Methods md) {at_ most : Int} (hat : 0 ≤ at_) (room : Int) (hr1 : 1 ≤ room) (hr5 : room ≤ 5) {ws : List Wish} (hd : Drawn ws) (h4 : ws.length < 4) (c9 c10 c11 c12 c13 c14 c15 c16 c17 c18 : Option Cel) :
    ∃ (w : Wish) (d9 d10 d11 d12 d13 d14 d15 d16 d17 d18 : Option Cel), Drawn (ws ++ [w]) ∧ bookBody [some (.fz (scr ns)), some (.fz (.int at_)), some (.fz p), some (.fz md), some (.fz (.int most)), some (.fz (.int room)), some (.ow (.list (ws.map Wish.D))), some (.ow (.list ((ws.map (·.name)).map .str))), some (.fz (.int ws.length)), c9, c10, c11, c12, c13, c14, c15, c16, c17, c18, none, none] =
      .nx [some (.fz (scr ns)), some (.fz (.int at_)), some (.fz p), some (.fz md), some (.fz (.int most)), some (.fz (.int room)), some (.ow (.list ((ws ++ [w]).map Wish.D))), some (.ow (.list (((ws ++ [w]).map (·.name)).map .str))), some (.fz (.int ws.length)), d9, d10, d11, d12, d13, d14, d15, d16, d17, d18, none, none] := by
  obtain ⟨ma, mb, rfl, hma, hmb⟩ := hmd
  have hh : 0 ≤ at_ + 400 * ((ws.length : Int) + 1) := by omega
  generalize hhere : at_ + 400 * ((ws.length : Int) + 1) = here at hh
  have k400 : mulD (.int 400) (.int ((ws.length : Int) + 1)) = some (.int (400 * ((ws.length : Int) + 1))) := mulD_l _ _ (by omega)
  obtain ⟨nm0, en, hn0, hn5⟩ := word_eq5 ns here hh
  obtain ⟨wa, ewa, hwa, hwa5⟩ := wa_at h4
  obtain ⟨xx, exx, hxx, hxw, hx5⟩ := xx_at h4
  -- the name
  obtain ⟨nm, hnm, hnew, hfive, hstep⟩ : ∃ nm : Str, Word nm ∧ nm ∉ ws.map (·.name) ∧ (nm.length ≠ 5 ∨ xxs[ws.length]? = some nm) ∧
      ∀ (g : Ro → Fl), sSeq (sAsg (dBin addD (dVar 1) (dBin mulD (dC (.int 400)) (dBin addD (dVar 8) (dC (.int 1))))) (bName 9))
    (sSeq (sAsg (dCallF 2 F_word (dCons (dVar 0) (dCons (dVar 9) dNil))) (bName 10))
    (sSeq (sIf (dTest (dBinR inD (dVar 10) (dOwL 7))) (sAsg (dBin ixD (dAsL (dLst (dCons (dC (.str "wa")) (dCons (dC (.str "wb")) (dCons (dC (.str "wc")) (dCons (dC (.str "wd")) dNil)))))) (dVar 8)) (bName 10)) sNil)
    (sSeq (sIf (dTest (dBinR inD (dVar 10) (dOwL 7))) (sAsg (dBin ixD (dAsL (dLst (dCons (dC (.str "xxxxa")) (dCons (dC (.str "xxxxb")) (dCons (dC (.str "xxxxc")) (dCons (dC (.str "xxxxd")) dNil)))))) (dVar 8)) (bName 10)) sNil) g))) [some (.fz (scr ns)), some (.fz (.int at_)), some (.fz p), some (.fz (.list [.str ma, .str mb])), some (.fz (.int most)), some (.fz (.int room)), some (.ow (.list (ws.map Wish.D))), some (.ow (.list ((ws.map (·.name)).map .str))), some (.fz (.int ws.length)), c9, c10, c11, c12, c13, c14, c15, c16, c17, c18, none, none] =
      g [some (.fz (scr ns)), some (.fz (.int at_)), some (.fz p), some (.fz (.list [.str ma, .str mb])), some (.fz (.int most)), some (.fz (.int room)), some (.ow (.list (ws.map Wish.D))), some (.ow (.list ((ws.map (·.name)).map .str))), some (.fz (.int ws.length)), some (.fz (.int here)), some (.fz (.str nm)), c11, c12, c13, c14, c15, c16, c17, c18, none, none] := by
    have nk := new_name hd h4 hxx hx5
    generalize hnames : ws.map (·.name) = names at nk
    generalize hmade : ws.map Wish.D = made
    have i0 := inD_names nm0 names
    have i1 := inD_names wa names
    by_cases k0 : nm0 ∈ names
    · by_cases k1 : wa ∈ names
      · refine ⟨xx, hxw, nk, .inr hxx, fun g => ?_⟩
        simp only [decide_eq_true k0, decide_eq_true k1] at i0 i1
        refine (seq_nx (by simp only [sAsg_ap, dBin_ap, dVar_0, dVar_s, dC_ap, R.bind_ok, addD_i, R.of_some, k400, hhere, Fl.of_ok, bName_ap, List.set]; rfl)).trans ?_
        refine (seq_nx (by simp only [sAsg_ap, dCallF_ap, dCons_ap, dNil_ap, dVar_0, dVar_s, R.bind_ok, en, Fl.of_ok, bName_ap, List.set, List.length_cons, List.length_nil, if_true]; rfl)).trans ?_
        refine (seq_nx (by simp only [sIf_ap, dTest_ap, dBinR_ap, dVar_0, dVar_s, dOwL_0, dOwL_s, R.bind_ok, i0, R.of_some, asB_b, Fl.of_ok, if_true, sAsg_ap, dBin_ap, dAsL_ap, dLst_ap, dCons_ap, dNil_ap, dC_ap, ixD_l, ewa, bName_ap, List.set, List.length_cons, List.length_nil, Nat.zero_add, Nat.reduceAdd, Nat.reduceLeDiff]; rfl)).trans ?_
        refine (seq_nx (by simp only [sIf_ap, dTest_ap, dBinR_ap, dVar_0, dVar_s, dOwL_0, dOwL_s, R.bind_ok, i1, R.of_some, asB_b, Fl.of_ok, if_true, sAsg_ap, dBin_ap, dAsL_ap, dLst_ap, dCons_ap, dNil_ap, dC_ap, ixD_l, exx, bName_ap, List.set, List.length_cons, List.length_nil, Nat.zero_add, Nat.reduceAdd, Nat.reduceLeDiff]; rfl)).trans ?_
        rfl
      · refine ⟨wa, hwa, k1, .inl hwa5, fun g => ?_⟩
        simp only [decide_eq_true k0, decide_eq_false k1] at i0 i1
        refine (seq_nx (by simp only [sAsg_ap, dBin_ap, dVar_0, dVar_s, dC_ap, R.bind_ok, addD_i, R.of_some, k400, hhere, Fl.of_ok, bName_ap, List.set]; rfl)).trans ?_
        refine (seq_nx (by simp only [sAsg_ap, dCallF_ap, dCons_ap, dNil_ap, dVar_0, dVar_s, R.bind_ok, en, Fl.of_ok, bName_ap, List.set, List.length_cons, List.length_nil, if_true]; rfl)).trans ?_
        refine (seq_nx (by simp only [sIf_ap, dTest_ap, dBinR_ap, dVar_0, dVar_s, dOwL_0, dOwL_s, R.bind_ok, i0, R.of_some, asB_b, Fl.of_ok, if_true, sAsg_ap, dBin_ap, dAsL_ap, dLst_ap, dCons_ap, dNil_ap, dC_ap, ixD_l, ewa, bName_ap, List.set, List.length_cons, List.length_nil, Nat.zero_add, Nat.reduceAdd, Nat.reduceLeDiff]; rfl)).trans ?_
        refine (seq_nx (by simp only [sIf_ap, dTest_ap, dBinR_ap, dVar_0, dVar_s, dOwL_0, dOwL_s, R.bind_ok, i1, R.of_some, asB_b, Fl.of_ok, Bool.false_eq_true, if_false, sNil_ap]; rfl)).trans ?_
        rfl
    · refine ⟨nm0, hn0, k0, .inl hn5, fun g => ?_⟩
      simp only [decide_eq_false k0] at i0
      refine (seq_nx (by simp only [sAsg_ap, dBin_ap, dVar_0, dVar_s, dC_ap, R.bind_ok, addD_i, R.of_some, k400, hhere, Fl.of_ok, bName_ap, List.set]; rfl)).trans ?_
      refine (seq_nx (by simp only [sAsg_ap, dCallF_ap, dCons_ap, dNil_ap, dVar_0, dVar_s, R.bind_ok, en, Fl.of_ok, bName_ap, List.set, List.length_cons, List.length_nil, if_true]; rfl)).trans ?_
      refine (seq_nx (by simp only [sIf_ap, dTest_ap, dBinR_ap, dVar_0, dVar_s, dOwL_0, dOwL_s, R.bind_ok, i0, R.of_some, asB_b, Fl.of_ok, Bool.false_eq_true, if_false, sNil_ap]; rfl)).trans ?_
      refine (seq_nx (by simp only [sIf_ap, dTest_ap, dBinR_ap, dVar_0, dVar_s, dOwL_0, dOwL_s, R.bind_ok, i0, R.of_some, asB_b, Fl.of_ok, Bool.false_eq_true, if_false, sNil_ap]; rfl)).trans ?_
      rfl
  unfold bookBody
  rw [hstep]
  have w1 := mixed_eq ns (here + 8) 2 (by omega) (by omega)
  have w1a := mixZ_nn ns (here + 8) 2 (by omega)
  have w1b := mixZ_lt ns (here + 8) 2 (by omega)
  obtain ⟨mth, emth, hmth⟩ : ∃ m, atI [PyData.str ma, .str mb] (mixZ ns (here + 8) 2) = some (.str m) ∧ Word m := by
    by_cases c : mixZ ns (here + 8) 2 = 0
    · exact ⟨ma, by rw [c]; rfl, hma⟩
    · have c : mixZ ns (here + 8) 2 = 1 := by omega
      exact ⟨mb, by rw [c]; rfl, hmb⟩
  have w2 := mixed_eq ns (here + 9) 4 (by omega) (by omega)
  obtain ⟨d12, e12, many, rfl, hmany⟩ := atI_of (α := PyData) (xs := [.int 1, .int 1, .int 2, .int 0]) (P := fun d => ∃ n : Nat, d = .int n ∧ n ≤ 2) (by
    intro d hd
    simp only [List.mem_cons, List.not_mem_nil, or_false] at hd
    rcases hd with h | h | h | h <;> subst h
    · exact ⟨1, rfl, by omega⟩
    · exact ⟨1, rfl, by omega⟩
    · exact ⟨2, rfl, by omega⟩
    · exact ⟨0, rfl, by omega⟩) (mixZ_nn ns (here + 9) 4 (by omega)) (mixZ_lt ns (here + 9) 4 (by omega))
  have w3 := mixed_eq ns (here + 10) 5 (by omega) (by omega)
  obtain ⟨d14, e14, low, rfl, hlow0, hlow2⟩ := atI_of (α := PyData) (xs := [.int 0, .int 0, .int 1, .int 1, .int 2]) (P := fun d => ∃ n : Int, d = .int n ∧ 0 ≤ n ∧ n ≤ 2) (by
    intro d hd
    simp only [List.mem_cons, List.not_mem_nil, or_false] at hd
    rcases hd with h | h | h | h | h <;> subst h <;> exact ⟨_, rfl, by omega, by omega⟩) (mixZ_nn ns (here + 10) 5 (by omega)) (mixZ_lt ns (here + 10) 5 (by omega))
  have w4 := mixed_eq ns (here + 11) 3 (by omega) (by omega)
  have w4a := mixZ_nn ns (here + 11) 3 (by omega)
  have w4b := mixZ_lt ns (here + 11) 3 (by omega)
  have w5 := mixed_eq ns (here + 12) 3 (by omega) (by omega)
  have w5a := mixZ_nn ns (here + 12) 3 (by omega)
  have w5b := mixZ_lt ns (here + 12) 3 (by omega)
  generalize mixZ ns (here + 11) 3 = z11 at w4 w4a w4b
  generalize hz12 : mixZ ns (here + 12) 3 = z12 at w5 w5a w5b
  have k130 : ∀ x : Int, mulD (.int 130) (.int x) = some (.int (130 * x)) := fun x => mulD_l _ _ (by omega)
  have k15 : ∀ x : Int, mulD (.int 15) (.int x) = some (.int (15 * x)) := fun x => mulD_l _ _ (by omega)
  obtain ⟨ls, els, lls, hls⟩ := lcGo_drawn (D := Lik.D) (P := fun l => l.ok ∧ (l.parts : Int) ≤ room) (b := bName 19) (fe := dCallF 4 (F_law_likeness 5) (dCons (dVar 0) (dCons (dBin addD (dBin addD (dVar 9) (dC (.int 20))) (dBin mulD (dC (.int 130)) (dVar 19))) (dCons (dVar 2) (dCons (dVar 5) dNil))))) (ρ := [some (.fz (scr ns)), some (.fz (.int at_)), some (.fz p), some (.fz (.list [.str ma, .str mb])), some (.fz (.int most)), some (.fz (.int room)), some (.ow (.list (ws.map Wish.D))), some (.ow (.list ((ws.map (·.name)).map .str))), some (.fz (.int ws.length)), some (.fz (.int here)), some (.fz (.str nm)), some (.fz (.int (mixZ ns (here + 8) 2))), some (.fz (.int many)), c13, c14, c15, c16, c17, c18, none, none]) (ds := (List.range many).map fun (i : Nat) => PyData.int (i : Int)) (by
    intro d hd
    obtain ⟨j, hj, rfl⟩ := List.mem_map.mp hd
    obtain ⟨l, e, o, q⟩ := drawn_eq ns hp (here + 20 + 130 * j) room (by omega) hr1 hr5
    exact ⟨_, l, rfl, by simp [k130, e], o, q⟩)
  simp only [List.length_map, List.length_range] at lls
  generalize htop : (if low + z11 > 1 then low + z11 else 1) = top
  have ht1 : 1 ≤ top := by rw [← htop]; split <;> omega
  have ht4 : top ≤ 4 := by rw [← htop]; split <;> omega
  have htl : low ≤ top := by rw [← htop]; split <;> omega
  have hturn : ((1 + z12.toNat : Nat) : Int) = 1 + z12 := by omega
  obtain ⟨as, eas, las, has⟩ := lcGo_drawn (D := Ans.D) (P := fun a => a.ok many) (b := bName 19) (fe := dCallF 4 F_law_answer (dCons (dVar 0) (dCons (dBin addD (dBin addD (dVar 9) (dC (.int 300))) (dBin mulD (dC (.int 15)) (dVar 19))) (dCons (dVar 2) (dCons (dVar 12) dNil))))) (ρ := [some (.fz (scr ns)), some (.fz (.int at_)), some (.fz p), some (.fz (.list [.str ma, .str mb])), some (.fz (.int most)), some (.fz (.int room)), some (.ow (.list (ws.map Wish.D))), some (.ow (.list ((ws.map (·.name)).map .str))), some (.fz (.int ws.length)), some (.fz (.int here)), some (.fz (.str nm)), some (.fz (.int (mixZ ns (here + 8) 2))), some (.fz (.int many)), some (.fz (.tuple (ls.map Lik.D))), some (.fz (.int low)), some (.fz (.int top)), some (.fz (.int (1 + z12))), c17, c18, none, none]) (ds := (List.range (1 + z12.toNat)).map fun (i : Nat) => PyData.int (i : Int)) (by
    intro d hd
    obtain ⟨j, hj, rfl⟩ := List.mem_map.mp hd
    obtain ⟨a, e, o⟩ := answer_eq ns (here + 300 + 15 * j) (by omega) hp many
    exact ⟨_, a, rfl, by simp [k15, e], o⟩)
  simp only [List.length_map, List.length_range] at las
  obtain ⟨ss, ess, hss, lss⟩ := lcGo_after (ft := dTest (dBin eqD (dCallF 3 F_mixed (dCons (dVar 0) (dCons (dBin addD (dBin addD (dVar 9) (dC (.int 13))) (dVar 19)) (dCons (dC (.int 2)) dNil)))) (dC (.int 0)))) (r0 := [some (.fz (scr ns)), some (.fz (.int at_)), some (.fz p), some (.fz (.list [.str ma, .str mb])), some (.fz (.int most)), some (.fz (.int room)), some (.ow (.list (ws.map Wish.D))), some (.ow (.list ((ws.map (·.name)).map .str))), some (.fz (.int ws.length)), some (.fz (.int here)), some (.fz (.str nm)), some (.fz (.int (mixZ ns (here + 8) 2))), some (.fz (.int many)), some (.fz (.tuple (ls.map Lik.D))), some (.fz (.int low)), some (.fz (.int top)), some (.fz (.int (1 + z12))), some (.fz (.tuple (as.map Ans.D))), c18]) rfl (ws.map (·.name)) 0 (fun j s => by
    have m := mixed_eq ns (here + 13 + j) 2 (by omega) (by omega)
    exact ⟨_, by simp [m]; rfl⟩)
  simp only [List.cons_append, List.nil_append] at ess
  have r1 := dRange1_n (dCons (dVar 12) dNil) [some (.fz (scr ns)), some (.fz (.int at_)), some (.fz p), some (.fz (.list [.str ma, .str mb])), some (.fz (.int most)), some (.fz (.int room)), some (.ow (.list (ws.map Wish.D))), some (.ow (.list ((ws.map (·.name)).map .str))), some (.fz (.int ws.length)), some (.fz (.int here)), some (.fz (.str nm)), some (.fz (.int (mixZ ns (here + 8) 2))), some (.fz (.int many)), c13, c14, c15, c16, c17, c18, none, none] many (by simp) (by omega)
  have r2 := dRange1_n (dCons (dVar 16) dNil) [some (.fz (scr ns)), some (.fz (.int at_)), some (.fz p), some (.fz (.list [.str ma, .str mb])), some (.fz (.int most)), some (.fz (.int room)), some (.ow (.list (ws.map Wish.D))), some (.ow (.list ((ws.map (·.name)).map .str))), some (.fz (.int ws.length)), some (.fz (.int here)), some (.fz (.str nm)), some (.fz (.int (mixZ ns (here + 8) 2))), some (.fz (.int many)), some (.fz (.tuple (ls.map Lik.D))), some (.fz (.int low)), some (.fz (.int top)), some (.fz (.int (1 + z12))), c17, c18, none, none] (1 + z12.toNat) (by simp [hturn]) (by omega)
  have hlm : (ws.map Wish.D).length < 1000000 := by rw [List.length_map]; omega
  have hln : ((ws.map (·.name)).map PyData.str).length < 1000000 := by rw [List.length_map, List.length_map]; omega
  have hnl : (ws.map (·.name)).length ≤ 1000000 := by rw [List.length_map]; omega
  refine ⟨⟨nm, mth, ls, low, top, as, ss⟩, some (.fz (.int here)), some (.fz (.str nm)), some (.fz (.int (mixZ ns (here + 8) 2))), some (.fz (.int many)), some (.fz (.tuple (ls.map Lik.D))), some (.fz (.int low)), some (.fz (.int top)), some (.fz (.int (1 + z12))), some (.fz (.tuple (as.map Ans.D))), some (.fz (.tuple (ss.map .str))), hd.snoc ⟨hnm, hmth, by show ls.length ≤ 2; omega, fun l hl => ⟨(hls l hl).1, by have := (hls l hl).2; omega⟩, hlow0, by show low ≤ 5; omega, ht1, by show top ≤ 5; omega, htl, by show 1 ≤ as.length; omega, by show as.length ≤ 3; omega, fun a ha => by have := has a ha; show a.ok ls.length; rw [lls]; exact this, fun s hs => ?_, by show ss.length ≤ 1000; rw [List.length_map] at lss; omega⟩ hnew hss hfive, ?_⟩
  · obtain ⟨w, hw, rfl⟩ := List.mem_map.mp (hss s hs)
    exact (hd.ok w hw).name
  refine (seq_nx (ρ' := [some (.fz (scr ns)), some (.fz (.int at_)), some (.fz p), some (.fz (.list [.str ma, .str mb])), some (.fz (.int most)), some (.fz (.int room)), some (.ow (.list (ws.map Wish.D))), some (.ow (.list ((ws.map (·.name)).map .str))), some (.fz (.int ws.length)), some (.fz (.int here)), some (.fz (.str nm)), some (.fz (.int (mixZ ns (here + 8) 2))), c12, c13, c14, c15, c16, c17, c18, none, none]) (by simp [w1])).trans ?_
  refine (seq_nx (ρ' := [some (.fz (scr ns)), some (.fz (.int at_)), some (.fz p), some (.fz (.list [.str ma, .str mb])), some (.fz (.int most)), some (.fz (.int room)), some (.ow (.list (ws.map Wish.D))), some (.ow (.list ((ws.map (·.name)).map .str))), some (.fz (.int ws.length)), some (.fz (.int here)), some (.fz (.str nm)), some (.fz (.int (mixZ ns (here + 8) 2))), some (.fz (.int many)), c13, c14, c15, c16, c17, c18, none, none]) (by simp [w2, e12])).trans ?_
  refine (seq_nx (ρ' := [some (.fz (scr ns)), some (.fz (.int at_)), some (.fz p), some (.fz (.list [.str ma, .str mb])), some (.fz (.int most)), some (.fz (.int room)), some (.ow (.list (ws.map Wish.D))), some (.ow (.list ((ws.map (·.name)).map .str))), some (.fz (.int ws.length)), some (.fz (.int here)), some (.fz (.str nm)), some (.fz (.int (mixZ ns (here + 8) 2))), some (.fz (.int many)), some (.fz (.tuple (ls.map Lik.D))), c14, c15, c16, c17, c18, none, none]) (by
    simp only [sAsg_ap, dCall_ap, dCons_ap, dNil_ap, dAsL_ap, dLc_ap, r1, R.bind_ok, List.length_map, List.length_range, wipeR_c, wipeR_n, List.set]
    rw [if_pos (show many ≤ 1000000 by omega), els]
    rfl)).trans ?_
  refine (seq_nx (ρ' := [some (.fz (scr ns)), some (.fz (.int at_)), some (.fz p), some (.fz (.list [.str ma, .str mb])), some (.fz (.int most)), some (.fz (.int room)), some (.ow (.list (ws.map Wish.D))), some (.ow (.list ((ws.map (·.name)).map .str))), some (.fz (.int ws.length)), some (.fz (.int here)), some (.fz (.str nm)), some (.fz (.int (mixZ ns (here + 8) 2))), some (.fz (.int many)), some (.fz (.tuple (ls.map Lik.D))), some (.fz (.int low)), c15, c16, c17, c18, none, none]) (by simp [w3, e14])).trans ?_
  refine (seq_nx (ρ' := [some (.fz (scr ns)), some (.fz (.int at_)), some (.fz p), some (.fz (.list [.str ma, .str mb])), some (.fz (.int most)), some (.fz (.int room)), some (.ow (.list (ws.map Wish.D))), some (.ow (.list ((ws.map (·.name)).map .str))), some (.fz (.int ws.length)), some (.fz (.int here)), some (.fz (.str nm)), some (.fz (.int (mixZ ns (here + 8) 2))), some (.fz (.int many)), some (.fz (.tuple (ls.map Lik.D))), some (.fz (.int low)), some (.fz (.int top)), c16, c17, c18, none, none]) (by simp [w4, htop])).trans ?_
  refine (seq_nx (ρ' := [some (.fz (scr ns)), some (.fz (.int at_)), some (.fz p), some (.fz (.list [.str ma, .str mb])), some (.fz (.int most)), some (.fz (.int room)), some (.ow (.list (ws.map Wish.D))), some (.ow (.list ((ws.map (·.name)).map .str))), some (.fz (.int ws.length)), some (.fz (.int here)), some (.fz (.str nm)), some (.fz (.int (mixZ ns (here + 8) 2))), some (.fz (.int many)), some (.fz (.tuple (ls.map Lik.D))), some (.fz (.int low)), some (.fz (.int top)), some (.fz (.int (1 + z12))), c17, c18, none, none]) (by simp [w5])).trans ?_
  refine (seq_nx (ρ' := [some (.fz (scr ns)), some (.fz (.int at_)), some (.fz p), some (.fz (.list [.str ma, .str mb])), some (.fz (.int most)), some (.fz (.int room)), some (.ow (.list (ws.map Wish.D))), some (.ow (.list ((ws.map (·.name)).map .str))), some (.fz (.int ws.length)), some (.fz (.int here)), some (.fz (.str nm)), some (.fz (.int (mixZ ns (here + 8) 2))), some (.fz (.int many)), some (.fz (.tuple (ls.map Lik.D))), some (.fz (.int low)), some (.fz (.int top)), some (.fz (.int (1 + z12))), some (.fz (.tuple (as.map Ans.D))), c18, none, none]) (by
    simp only [sAsg_ap, dCall_ap, dCons_ap, dNil_ap, dAsL_ap, dLc_ap, r2, R.bind_ok, List.length_map, List.length_range, wipeR_c, wipeR_n, List.set]
    rw [if_pos (show 1 + z12.toNat ≤ 1000000 by omega), eas]
    rfl)).trans ?_
  refine (seq_nx (ρ' := [some (.fz (scr ns)), some (.fz (.int at_)), some (.fz p), some (.fz (.list [.str ma, .str mb])), some (.fz (.int most)), some (.fz (.int room)), some (.ow (.list (ws.map Wish.D))), some (.ow (.list ((ws.map (·.name)).map .str))), some (.fz (.int ws.length)), some (.fz (.int here)), some (.fz (.str nm)), some (.fz (.int (mixZ ns (here + 8) 2))), some (.fz (.int many)), some (.fz (.tuple (ls.map Lik.D))), some (.fz (.int low)), some (.fz (.int top)), some (.fz (.int (1 + z12))), some (.fz (.tuple (as.map Ans.D))), some (.fz (.tuple (ss.map .str))), none, none]) (by
    simp only [sAsg_ap, dCall_ap, dCons_ap, dNil_ap, dAsL_ap, dLc_ap, dEnumL, dOwL_s, dOwL_0, R.bind_ok, enumD_len, List.length_map, wipeR_c, wipeR_n, List.set]
    rw [if_pos (show ws.length ≤ 1000000 by omega), ess]
    rfl)).trans ?_
  have l1 : ws.length < 1000000 := by omega
  simp [sApp, ownL, emth, l1, Wish.D]
end Pu

namespace Pu
open PySem PySem.Spec PyProof.Rows L2
variable [MemoSpec]
theorem book_eq (ns : List Int) {p md : PyData} (hp : Pool p) (hmd : Methods md) {at_ most room : Int} (hat : 0 ≤ at_) (hm0 : 0 ≤ most) (hm4 : most ≤ 4) (hr1 : 1 ≤ room) (hr5 : room ≤ 5) :
    ∃ ws : List Wish, F_law_book [scr ns, .int at_, p, md, .int most, .int room] = .ok (bookD ws) ∧ BookOk ws ∧ (ws.length : Int) ≤ most := by
  have m1 := mixed_eq ns at_ (most + 1) hat (by omega)
  have m2 := mixZ_nn ns at_ (most + 1) (by omega)
  have m3 := mixZ_lt ns at_ (most + 1) (by omega)
  obtain ⟨n, hn⟩ : ∃ n : Nat, mixZ ns at_ (most + 1) = n := ⟨(mixZ ns at_ (most + 1)).toNat, by omega⟩
  have r1 := dRange1_n (dCons (dCallF 3 F_mixed (dCons (dVar 0) (dCons (dVar 1) (dCons (dBin addD (dVar 4) (dC (.int 1))) dNil)))) dNil) [some (.fz (scr ns)), some (.fz (.int at_)), some (.fz p), some (.fz md), some (.fz (.int most)), some (.fz (.int room)), some (.ow (.list [])), some (.ow (.list [])), none, none, none, none, none, none, none, none, none, none, none, none, none] n (by simp [m1, hn]) (by omega)
  obtain ⟨ρ', e1, ws, c8, c9, c10, c11, c12, c13, c14, c15, c16, c17, c18, hl, hd, hρ⟩ := forGo_ix (b := bName 8) (body := bookBody) (fun m ρ => ∃ (ws : List Wish) (c8 c9 c10 c11 c12 c13 c14 c15 c16 c17 c18 : Option Cel), ws.length = m ∧ Drawn ws ∧ ρ = [some (.fz (scr ns)), some (.fz (.int at_)), some (.fz p), some (.fz md), some (.fz (.int most)), some (.fz (.int room)), some (.ow (.list (ws.map Wish.D))), some (.ow (.list ((ws.map (·.name)).map .str))), c8, c9, c10, c11, c12, c13, c14, c15, c16, c17, c18, none, none])
    (ds := (List.range n).map fun (i : Nat) => PyData.int (i : Int)) (ρ := [some (.fz (scr ns)), some (.fz (.int at_)), some (.fz p), some (.fz md), some (.fz (.int most)), some (.fz (.int room)), some (.ow (.list [])), some (.ow (.list [])), none, none, none, none, none, none, none, none, none, none, none, none, none]) (n := 0) ⟨[], none, none, none, none, none, none, none, none, none, none, none, rfl, ⟨by simp, rfl, by simp⟩, rfl⟩ (by
      intro i d hd ρ ⟨ws, c8, c9, c10, c11, c12, c13, c14, c15, c16, c17, c18, hl, hdr, hρ⟩
      subst hρ
      rw [List.getElem?_map] at hd
      obtain ⟨j, hj, rfl⟩ := Option.map_eq_some_iff.mp hd
      obtain ⟨hji, hje⟩ := List.getElem?_eq_some_iff.mp hj
      have hij : j = i := by simpa using hje.symm
      have hin : i < n := by simpa using hji
      have hwl : ws.length = i := by omega
      obtain ⟨w, d9, d10, d11, d12, d13, d14, d15, d16, d17, d18, hw, ew⟩ := book_step ns hp hmd (most := most) hat room hr1 hr5 hdr (by omega) c9 c10 c11 c12 c13 c14 c15 c16 c17 c18
      refine ⟨_, _, rfl, ?_, ws ++ [w], some (.fz (.int i)), d9, d10, d11, d12, d13, d14, d15, d16, d17, d18, by simp; omega, hw, rfl⟩
      rw [hwl] at ew
      rw [hij]
      exact ew)
  subst hρ
  simp only [List.length_map, List.length_range, Nat.zero_add] at hl
  refine ⟨ws, runD_rt ?_, ⟨hd.ok, by omega, hd.chain⟩, by omega⟩
  rw [book_shape]
  simp [startR, r1]
  simp [e1, sFrz, bookD]
mutual
theorem eqv_refl : ∀ d : PyData, nodict d = true → PyData.eqv d d = true
  | .none, _ => rfl
  | .bool b, _ => by simp [PyData.eqv]
  | .int i, _ => by simp [PyData.eqv]
  | .str s, _ => by simp [PyData.eqv]
  | .list xs, h => eqvs_refl xs h
  | .tuple xs, h => eqvs_refl xs h
  | .dict _, h => by cases h
theorem eqvs_refl : ∀ ds : List PyData, nodicts ds = true → PyData.eqvAll ds ds = true
  | [], _ => rfl
  | d :: ds, h => by
    have h' : (nodict d && nodicts ds) = true := h
    obtain ⟨h1, h2⟩ := Bool.and_eq_true_iff.mp h'
    show (PyData.eqv d d && PyData.eqvAll ds ds) = true
    rw [eqv_refl d h1, eqvs_refl ds h2]
    rfl
end
theorem neD_self {d : PyData} (h : okd d = true) : neD d d = some (.bool false) := by
  rw [neD_ok h h, eqv_refl d (Bool.and_eq_true_iff.mp h).1]
  rfl
theorem eqD_self {d : PyData} (h : okd d = true) : eqD d d = some (.bool true) := by
  rw [eqD_ok h h, eqv_refl d (Bool.and_eq_true_iff.mp h).1]
theorem okN_map {α : Type} {D : α → PyData} {n : Nat} {xs : List α} (h : ∀ x ∈ xs, okN n (D x) = true) : ∀ d ∈ xs.map D, okN n d = true := fun d hd => by
  obtain ⟨x, hx, rfl⟩ := List.mem_map.mp hd
  exact h x hx
theorem okN_Ans {a : Ans} {many : Nat} (h : a.ok many) : okN 2 a.D = true := by
  cases a with
  | give v => exact okN_tup (okN_2 (okN_flat rfl) (okN_val h))
  | brk s => exact okN_mono (okN_tup (n := 0) (okN_2 (okN_flat rfl) (okN_flat rfl))) (by omega)
  | echo s => exact okN_mono (okN_tup (n := 0) (okN_2 (okN_flat rfl) (okN_flat rfl))) (by omega)
theorem okN_Wish {w : Wish} (h : w.ok) : okN 13 w.D = true := by
  refine okN_tup (n := 12) fun d hd => ?_
  simp only [List.mem_cons, List.not_mem_nil, or_false] at hd
  rcases hd with k | k | k | k | k | k | k <;> subst k
  · exact okN_flat rfl
  · exact okN_flat rfl
  · exact okN_tup (okN_map fun l hl => okN_Lik l 5 (h.args l hl).1 (h.args l hl).2)
  · exact okN_flat rfl
  · exact okN_flat rfl
  · exact okN_mono (okN_tup (n := 2) (okN_map fun a ha => okN_Ans (h.answers a ha))) (by omega)
  · exact okN_mono (okN_tup (n := 0) (okN_map fun a ha => okN_flat rfl)) (by omega)
theorem okd_book {ws : List Wish} (h : BookOk ws) : okd (bookD ws) = true := okN_okd (okN_tup (okN_map fun w hw => okN_Wish (h.wish w hw))) (by omega)
end Pu

namespace Pu
open PySem PySem.Spec PyProof.Rows L2
variable [MemoSpec]
/-! ### calls -/
structure Cll where
  method : Str
  args : List PyData
def Cll.D (c : Cll) : PyData := .tuple [.str c.method, .tuple c.args]
structure Cll.ok (c : Cll) : Prop where
  method : Word c.method
  few : c.args.length ≤ 2
  args : ∀ v ∈ c.args, isVal v = true
def fitsAll : List Lik → List PyData → Bool
  | [], [] => true
  | l :: ls, v :: vs => l.fits v && fitsAll ls vs
  | _, _ => false
def patB (m : Str) (ls : List Lik) (c : Cll) : Bool := (m == c.method) && fitsAll ls c.args
def Wish.likes (w : Wish) (c : Cll) : Bool := patB w.method w.args c
theorem fitsAll_len : ∀ (ls : List Lik) (vs : List PyData), ¬ ls.length = vs.length → fitsAll ls vs = false
  | [], [], h => (h rfl).elim
  | [], _ :: _, _ => rfl
  | _ :: _, [], _ => rfl
  | l :: ls, v :: vs, h => by simp [fitsAll, fitsAll_len ls vs (by simpa using h)]
abbrev F_is_call := runD 2 (fb_is_call F_is_word F_is_value)
abbrev F_need_call := runD 1 (fb_need_call F_is_call)
abbrev F_need_calls := runD 2 (fb_need_calls F_is_call)
abbrev F_need_pattern := runD 1 (fb_need_pattern F_is_pattern)
abbrev F_fits_call := runD 4 (fb_fits_call (F_fits_value 5))
abbrev F_likes := runD 4 (fb_likes (F_fits_value 5))
abbrev F_law_likes := runD 4 (fb_law_likes (F_law_fits 5))
theorem is_call_eq {c : Cll} (h : c.ok) : F_is_call [c.D] = .ok (.bool true) := by
  refine runD_rt ?_
  have e : lcGo (bName 1) dYes (dCallF 1 F_is_value (dCons (dVar 1) dNil)) [some (.fz c.D), none] c.args = some (c.args.map fun d => .bool (isVal d)) := lcGo_map fun v hv => ⟨_, rfl, by simp [is_value_eq]⟩
  have h1 : isWord (.str c.method) = true := h.method
  have h2 : (c.args.length : Int) ≤ 2 := by have := h.few; omega
  have h3 : c.args.length ≤ 1000000 := by have := h.few; omega
  have h4 : c.args.all isVal = true := List.all_eq_true.mpr h.args
  have a := allD_map c.args isVal
  rw [h4] at a
  unfold Cll.D at e
  simp [fb_is_call, startR, Cll.D, isi_tup, isTup, is_word_eq, h1, h2, h3, e, a]
theorem need_call_ok {c : Cll} (h : c.ok) : F_need_call [c.D] = .ok .none := by
  refine runD_nx (ρ := [some (.fz c.D)]) ?_
  simp [fb_need_call, startR, is_call_eq h]
theorem need_call_ex {d : PyData} (h : F_is_call [d] = .ok (.bool false)) : F_need_call [d] = .ex ⟨"NoCall", none⟩ := by
  refine runD_ex (ρ := [some (.fz d)]) ?_
  simp [fb_need_call, startR, h]
theorem need_calls_ok {cs : List Cll} (h : ∀ c ∈ cs, c.ok) (hl : cs.length ≤ 20) : F_need_calls [.list (cs.map Cll.D)] = .ok .none := by
  refine runD_nx (ρ := [some (.fz (.list (cs.map Cll.D))), none]) ?_
  have e : lcGo (bName 1) dYes (dCallF 1 F_is_call (dCons (dVar 1) dNil)) [some (.fz (.list (cs.map Cll.D))), none] (cs.map Cll.D) = some (cs.map fun _ => PyData.bool true) := lcGo_true fun c hc => ⟨_, rfl, by simp [is_call_eq (h c hc)]⟩
  have h1 : ¬ (20 : Int) < cs.length := by omega
  have h2 : cs.length ≤ 1000000 := by omega
  simp [fb_need_calls, startR, isi_lst, isLst, h1, h2, e, all_trues]
theorem zip_fits {F : List PyData → R PyData} (hF : ∀ (l : Lik) (v : PyData), l.ok → l.parts ≤ 5 → isVal v = true → F [l.D, v] = .ok (.bool (l.fits v))) {ρ : Ro} (l4 : ρ.length = 4) : ∀ {ls : List Lik} {vs : List PyData}, ls.length = vs.length → (∀ l ∈ ls, l.ok ∧ l.parts ≤ 5) → (∀ v ∈ vs, isVal v = true) → ∃ bs : List Bool, lcGo (bTup 2 (bCons (bName 2) (bCons (bName 3) bNil))) dYes (dCallF 2 F (dCons (dVar 2) (dCons (dVar 3) dNil))) ρ (zipD (ls.map Lik.D) vs) = some (bs.map PyData.bool) ∧ bs.all id = fitsAll ls vs
  | [], [], _, _, _ => ⟨[], rfl, rfl⟩
  | [], _ :: _, h, _, _ => by simp at h
  | _ :: _, [], h, _, _ => by simp at h
  | x :: xs, y :: ys, h, hx, hy => by
    obtain ⟨bs, e1, e2⟩ := zip_fits hF l4 (ls := xs) (vs := ys) (by simpa using h) (fun d hd => hx d (by simp [hd])) (fun d hd => hy d (by simp [hd]))
    refine ⟨x.fits y :: bs, ?_, by simp [fitsAll, ← e2]⟩
    match ρ, l4 with
    | [r0, r1, r2, r3], _ =>
      rw [List.map_cons]
      unfold zipD lcGo
      simp [hF x y (hx x (by simp)).1 (hx x (by simp)).2 (hy y (by simp)), e1]
theorem pat_run {F : List PyData → R PyData} (hF : ∀ (l : Lik) (v : PyData), l.ok → l.parts ≤ 5 → isVal v = true → F [l.D, v] = .ok (.bool (l.fits v))) {m : Str} {ls : List Lik} {c : Cll} (hl : ∀ l ∈ ls, l.ok ∧ l.parts ≤ 5) (h2 : ls.length ≤ 2) (hc : c.ok) :
    runD 4 (fb_fits_call F) [.tuple [.str m, .tuple (ls.map Lik.D)], c.D] = .ok (.bool (patB m ls c)) := by
  refine runD_rt ?_
  unfold patB
  cases k : (m == c.method) with
  | false => simp [fb_fits_call, startR, Cll.D, k]
  | true =>
    by_cases l : ls.length = c.args.length
    · obtain ⟨bs, e1, e2⟩ := zip_fits hF (ρ := [some (.fz (.tuple [.str m, .tuple (ls.map Lik.D)])), some (.fz c.D), none, none]) rfl l hl hc.args
      have z := dZip_t (dCons (dBin ixD (dVar 0) (dC (.int 1))) (dCons (dBin ixD (dVar 1) (dC (.int 1))) dNil)) [some (.fz (.tuple [.str m, .tuple (ls.map Lik.D)])), some (.fz c.D), none, none] (ls.map Lik.D) c.args (by simp [Cll.D])
      have zl : (zipD (ls.map Lik.D) c.args).length ≤ 1000000 := by rw [zipD_len, List.length_map]; omega
      unfold Cll.D at e1 z
      simp [fb_fits_call, startR, Cll.D, k, l, z, zl, e1, allD_bs, e2]
    · have l' : ¬ (ls.length : Int) = c.args.length := by omega
      simp [fb_fits_call, startR, Cll.D, k, l', fitsAll_len _ _ l]
theorem fits_call_eq {m : Str} {ls : List Lik} {c : Cll} (hl : ∀ l ∈ ls, l.ok ∧ l.parts ≤ 5) (h2 : ls.length ≤ 2) (hc : c.ok) : F_fits_call [.tuple [.str m, .tuple (ls.map Lik.D)], c.D] = .ok (.bool (patB m ls c)) :=
  pat_run (fun l v h1 h2 h3 => fits_value_eq l 5 v h1 h2 h3) hl h2 hc
theorem wish_run {F : List PyData → R PyData} (hF : ∀ (l : Lik) (v : PyData), l.ok → l.parts ≤ 5 → isVal v = true → F [l.D, v] = .ok (.bool (l.fits v))) {w : Wish} {c : Cll} (hw : w.ok) (hc : c.ok) :
    runD 4 (fb_likes F) [w.D, c.D] = .ok (.bool (w.likes c)) := by
  refine runD_rt ?_
  unfold Wish.likes patB
  cases k : (w.method == c.method) with
  | false => simp [fb_likes, startR, Cll.D, Wish.D, k]
  | true =>
    have h2 := hw.few
    by_cases l : w.args.length = c.args.length
    · obtain ⟨bs, e1, e2⟩ := zip_fits hF (ρ := [some (.fz w.D), some (.fz c.D), none, none]) rfl l hw.args hc.args
      have z := dZip_t (dCons (dBin ixD (dVar 0) (dC (.int 2))) (dCons (dBin ixD (dVar 1) (dC (.int 1))) dNil)) [some (.fz w.D), some (.fz c.D), none, none] (w.args.map Lik.D) c.args (by simp [Cll.D, Wish.D])
      have zl : (zipD (w.args.map Lik.D) c.args).length ≤ 1000000 := by rw [zipD_len, List.length_map]; omega
      unfold Cll.D Wish.D at e1 z
      simp [fb_likes, startR, Cll.D, Wish.D, k, l, z, zl, e1, allD_bs, e2]
    · have l' : ¬ (w.args.length : Int) = c.args.length := by omega
      simp [fb_likes, startR, Cll.D, Wish.D, k, l', fitsAll_len _ _ l]
theorem likes_eq {w : Wish} {c : Cll} (hw : w.ok) (hc : c.ok) : F_likes [w.D, c.D] = .ok (.bool (w.likes c)) := wish_run (fun l v h1 h2 h3 => fits_value_eq l 5 v h1 h2 h3) hw hc
theorem law_likes_eq {w : Wish} {c : Cll} (hw : w.ok) (hc : c.ok) : F_law_likes [w.D, c.D] = .ok (.bool (w.likes c)) := wish_run (fun l v h1 h2 h3 => law_fits_eq l 5 v h1 h2 h3) hw hc
end Pu

namespace Pu
open PySem PySem.Spec PyProof.Rows L2
variable [MemoSpec]
theorem forGo_ret {b : PyData → Ro → Option Ro} {body : Ro → Fl} (P : Nat → Ro → Prop) (Q : PyData → Prop) : ∀ {ds : List PyData} {ρ : Ro} {n : Nat}, P n ρ → (∀ i d, ds[i]? = some d → ∀ ρ, P (n + i) ρ → ∃ ρ1, b d ρ = some ρ1 ∧ ((∃ ρ2, body ρ1 = .nx ρ2 ∧ P (n + i + 1) ρ2) ∨ ∃ v, body ρ1 = .rt v ∧ Q v)) →
    (∃ ρ', forGo b body ρ ds = .nx ρ' ∧ P (n + ds.length) ρ') ∨ ∃ v, forGo b body ρ ds = .rt v ∧ Q v
  | [], ρ, n, h, _ => .inl ⟨ρ, rfl, h⟩
  | d :: ds, ρ, n, h, k => by
    obtain ⟨ρ1, e1, h2⟩ := k 0 d rfl ρ h
    have sh : forGo b body ρ (d :: ds) = (match body ρ1 with | .nx ρ2 => forGo b body ρ2 ds | .ct ρ2 => forGo b body ρ2 ds | .bk ρ2 => .nx ρ2 | r => r) := by
      rw [forGo.eq_2, e1] <;> rfl
    rcases h2 with ⟨ρ2, e2, h2⟩ | ⟨v, e2, hv⟩
    · have ih := forGo_ret P Q (ds := ds) (n := n + 1) h2 fun i x hx ρ hρ => by
        have := k (i + 1) x (by simpa using hx) ρ (by rw [show n + (i + 1) = n + 1 + i from by omega]; exact hρ)
        rw [show n + (i + 1) + 1 = n + 1 + i + 1 from by omega] at this
        exact this
      rw [e2] at sh
      rw [sh, List.length_cons, show n + (ds.length + 1) = n + 1 + ds.length from by omega]
      exact ih
    · rw [e2] at sh
      exact .inr ⟨v, sh, hv⟩
/-! ### steps -/
theorem st_set {f : Ro → R PyData} {g : Ro → Fl} {i : Nat} {v : PyData} {ρ : Ro} {r : Fl} (h : f ρ = .ok v) (k : g (ρ.set i (some (.fz v))) = r) : sSeq (sAsg f (bName i)) g ρ = r := by
  simp [h]; exact k
theorem st_setL {f : Ro → R (List PyData)} {g : Ro → Fl} {i : Nat} {v : List PyData} {ρ : Ro} {r : Fl} (h : f ρ = .ok v) (hi : i < ρ.length) (k : g (ρ.set i (some (.ow (.list v)))) = r) : sSeq (sAsgL i f) g ρ = r := by
  simp [h, hi]; exact k
theorem st_no {c : Ro → R Bool} {a g : Ro → Fl} {ρ : Ro} {r : Fl} (h : c ρ = .ok false) (k : g ρ = r) : sSeq (sIf c a sNil) g ρ = r := by
  simp [h]; exact k
theorem st_ex {f : Ro → R PyData} {g : Ro → Fl} {ρ : Ro} {r : Fl} {d : PyData} (h : f ρ = .ok d) (k : g ρ = r) : sSeq (sExpr f) g ρ = r := by
  simp [h]; exact k
theorem st_for {fi : Ro → R (List PyData)} {b : PyData → Ro → Option Ro} {body g : Ro → Fl} {ρ ρ' : Ro} {ds : List PyData} {r : Fl} (h : fi ρ = .ok ds) (h2 : forGo b body ρ ds = .nx ρ') (k : g ρ' = r) : sSeq (sFor fi b body) g ρ = r := by
  simp [h, h2]; exact k
theorem st_nx {f g : Ro → Fl} {ρ ρ' : Ro} {r : Fl} (h : f ρ = .nx ρ') (k : g ρ' = r) : sSeq f g ρ = r := by
  simp [h]; exact k
theorem st_out {f g : Ro → Fl} {ρ ρ' : Ro} {x : Xc} (h : f ρ = .ex x ρ') : sSeq f g ρ = .ex x ρ' := by
  simp [h]
theorem st_ret {f g : Ro → Fl} {ρ : Ro} {d : PyData} (h : f ρ = .rt d) : sSeq f g ρ = .rt d := by
  simp [h]
theorem st_yes {c : Ro → R Bool} {a b : Ro → Fl} {ρ : Ro} {r : Fl} (h : c ρ = .ok true) (k : a ρ = r) : sIf c a b ρ = r := by
  simp [h]; exact k
abbrev F_law_arg := runD 6 (fb_law_arg F_value (F_law_fits 5))
abbrev F_law_call := runD 10 (fb_law_call F_mixed F_value F_law_arg)
abbrev F_law_calls := runD 7 (fb_law_calls F_law_call)
theorem law_arg_eq (ns : List Int) {p : PyData} (hp : Pool p) (at_ : Int) (h : 0 ≤ at_) {l : Lik} (ho : l.ok) (h5 : l.parts ≤ 5) : ∃ v, F_law_arg [scr ns, .int at_, p, l.D] = .ok v ∧ isVal v = true := by
  have r1 := dRange1_n (dCons (dC (.int 5)) dNil) [some (.fz (scr ns)), some (.fz (.int at_)), some (.fz p), some (.fz l.D), none, none] 5 (by simp) (by omega)
  rcases forGo_ret (b := bName 4) (body := (sSeq (sAsg (dCallF 3 F_value (dCons (dVar 0) (dCons (dBin addD (dVar 1) (dBin mulD (dC (.int 12)) (dVar 4))) (dCons (dVar 2) dNil)))) (bName 5))
    (sIf (dTest (dCallF 2 (F_law_fits 5) (dCons (dVar 3) (dCons (dVar 5) dNil)))) (sRet (dVar 5)) sNil))) (fun n ρ => ∃ c4 c5, ρ = [some (.fz (scr ns)), some (.fz (.int at_)), some (.fz p), some (.fz l.D), c4, c5] ∧ (1 ≤ n → ∃ v, c5 = some (.fz v) ∧ isVal v = true)) (fun v => isVal v = true)
    (ds := (List.range 5).map fun (i : Nat) => PyData.int (i : Int)) (ρ := [some (.fz (scr ns)), some (.fz (.int at_)), some (.fz p), some (.fz l.D), none, none]) (n := 0) ⟨none, none, rfl, by omega⟩ (by
      intro i d hd ρ ⟨c4, c5, hρ, _⟩
      subst hρ
      rw [List.getElem?_map] at hd
      obtain ⟨j, hj, rfl⟩ := Option.map_eq_some_iff.mp hd
      obtain ⟨v, ev, hv⟩ := value_eq ns (at_ + 12 * j) (by omega) hp
      have k12 : mulD (.int 12) (.int j) = some (.int (12 * j)) := mulD_l _ _ (by omega)
      have lf := law_fits_eq l 5 v ho h5 hv
      refine ⟨_, rfl, ?_⟩
      cases hf : l.fits v with
      | true => rw [hf] at lf; exact .inr ⟨v, by simp [k12, ev, lf], hv⟩
      | false => rw [hf] at lf; exact .inl ⟨_, by simp [k12, ev, lf]; rfl, _, _, rfl, fun _ => ⟨v, rfl, hv⟩⟩) with ⟨ρ', e, c4, c5, hρ, hq⟩ | ⟨v, e, hv⟩
  · obtain ⟨v, rfl, hv⟩ := hq (by simp)
    subst hρ
    refine ⟨v, runD_rt ?_, hv⟩
    simp [fb_law_arg, startR, r1]
    simp [e]
  · refine ⟨v, runD_rt ?_, hv⟩
    simp [fb_law_arg, startR, r1]
    simp [e]
theorem enumD_mem : ∀ {xs : List PyData} {k : Nat} {d : PyData}, d ∈ enumD k xs → ∃ (j : Nat) (x : PyData), d = .tuple [.int j, x] ∧ x ∈ xs
  | [], _, _, h => by simp [enumD] at h
  | x :: xs, k, d, h => by
    unfold enumD at h
    rcases List.mem_cons.mp h with e | e
    · exact ⟨k, x, e, by simp⟩
    · obtain ⟨j, y, e1, e2⟩ := enumD_mem e
      exact ⟨j, y, e1, List.mem_cons_of_mem _ e2⟩
theorem dEnum_t (f : Ro → R (List PyData)) (ρ : Ro) (xs : List PyData) (h : f ρ = .ok [.tuple xs]) : dEnum f ρ = .ok (enumD 0 xs) := by unfold dEnum; rw [h]; rfl
theorem dEnum_l (f : Ro → R (List PyData)) (ρ : Ro) (xs : List PyData) (h : f ρ = .ok [.list xs]) : dEnum f ρ = .ok (enumD 0 xs) := by unfold dEnum; rw [h]; rfl
theorem book_empty {ws : List Wish} (h : BookOk ws) : eqD (bookD ws) (.tuple []) = some (.bool ws.isEmpty) := by
  rw [eqD_ok (okd_book h) rfl]
  cases ws <;> rfl
theorem law_call_v (ns : List Int) {p : PyData} (hp : Pool p) (a b : PyData) (n : Nat) (at_ : Int) (h : 0 ≤ at_) : ∃ vs : List PyData, lcGo (bName 8) dYes (dCallF 3 F_value (dCons (dVar 0) (dCons (dBin addD (dBin addD (dVar 1) (dC (.int 5))) (dBin mulD (dC (.int 12)) (dVar 8))) (dCons (dVar 2) dNil)))) [some (.fz (scr ns)), some (.fz (.int at_)), some (.fz p), some (.fz a), some (.fz b), some (.fz (.int n)), none, none, none, none] ((List.range n).map fun (i : Nat) => PyData.int (i : Int)) = some vs ∧ vs.length = n ∧ ∀ v ∈ vs, isVal v = true := by
  have k12 : ∀ x : Int, mulD (.int 12) (.int x) = some (.int (12 * x)) := fun x => mulD_l _ _ (by omega)
  obtain ⟨vs, evs, lvs, hvs⟩ := lcGo_all (b := bName 8) (fe := dCallF 3 F_value (dCons (dVar 0) (dCons (dBin addD (dBin addD (dVar 1) (dC (.int 5))) (dBin mulD (dC (.int 12)) (dVar 8))) (dCons (dVar 2) dNil)))) (ρ := [some (.fz (scr ns)), some (.fz (.int at_)), some (.fz p), some (.fz a), some (.fz b), some (.fz (.int n)), none, none, none, none]) (P := fun d => isVal d = true) (ds := (List.range n).map fun (i : Nat) => PyData.int (i : Int)) (by
    intro d hd
    obtain ⟨i, hi, rfl⟩ := List.mem_map.mp hd
    obtain ⟨y, e3, h3⟩ := value_eq ns (at_ + 5 + 12 * i) (by omega) hp
    exact ⟨_, y, rfl, by simp [k12, e3], h3⟩)
  simp only [List.length_map, List.length_range] at lvs
  exact ⟨vs, evs, lvs, hvs⟩
theorem law_call_m {ma mb : Str} (hma : Word ma) (hmb : Word mb) (ns : List Int) (k : Int) : ∃ m, atI [PyData.str ma, .str mb] (mixZ ns k 2) = some (.str m) ∧ Word m := by
  obtain ⟨d, e, m, rfl, hm⟩ := atI_of (α := PyData) (xs := [.str ma, .str mb]) (P := fun d => ∃ m, d = .str m ∧ Word m) (by
    intro d hd
    simp only [List.mem_cons, List.not_mem_nil, or_false] at hd
    rcases hd with h | h <;> subst h
    · exact ⟨_, rfl, hma⟩
    · exact ⟨_, rfl, hmb⟩) (mixZ_nn ns k 2 (by omega)) (mixZ_lt ns k 2 (by omega))
  exact ⟨m, e, hm⟩
theorem law_call_1 (ns : List Int) {p md : PyData} (hp : Pool p) (hmd : Methods md) {ws : List Wish} (hb : BookOk ws) (at_ : Int) (h : 0 ≤ at_) (hc : ws.isEmpty = true ∨ mixZ ns at_ 8 = 0) : ∃ c : Cll, F_law_call [scr ns, .int at_, p, md, bookD ws] = .ok c.D ∧ c.ok := by
  obtain ⟨ma, mb, rfl, hma, hmb⟩ := hmd
  have be := book_empty hb
  have m1 := mixed_eq ns at_ 8 h (by omega)
  have m2 := mixed_eq ns (at_ + 1) 3 (by omega) (by omega)
  have m2a := mixZ_nn ns (at_ + 1) 3 (by omega)
  have m2b := mixZ_lt ns (at_ + 1) 3 (by omega)
  generalize mixZ ns (at_ + 1) 3 = z at m2 m2a m2b
  obtain ⟨n, rfl⟩ : ∃ n : Nat, z = n := ⟨z.toNat, by omega⟩
  have m3 := mixed_eq ns (at_ + 2) 2 (by omega) (by omega)
  obtain ⟨mth, emth, hmth⟩ := law_call_m hma hmb ns (at_ + 2)
  generalize mixZ ns (at_ + 2) 2 = z2 at m3 emth
  generalize mixZ ns at_ 8 = z3 at m1 hc
  generalize bookD ws = bD at be ⊢
  obtain ⟨vs, evs, lvs, hvs⟩ := law_call_v ns hp (.list [.str ma, .str mb]) bD n at_ h
  have r1 := dRange1_n (dCons (dVar 5) dNil) [some (.fz (scr ns)), some (.fz (.int at_)), some (.fz p), some (.fz (.list [.str ma, .str mb])), some (.fz bD), some (.fz (.int n)), none, none, none, none] n (by simp) (by omega)
  have c1 : n ≤ 1000000 := by omega
  have okA : Cll.ok ⟨mth, vs⟩ := ⟨hmth, by show vs.length ≤ 2; omega, hvs⟩
  refine ⟨⟨mth, vs⟩, runD_rt ?_, okA⟩
  have tst : (dOr (dTest (dBin eqD (dVar 4) (dTup dNil))) (dTest (dBin eqD (dCallF 3 F_mixed (dCons (dVar 0) (dCons (dVar 1) (dCons (dC (.int 8)) dNil)))) (dC (.int 0))))) (startR 10 [scr ns, .int at_, p, .list [.str ma, .str mb], bD]) = .ok true := by
    cases hws : ws.isEmpty with
    | true =>
      rw [hws] at be
      simp [startR, be]
    | false =>
      rw [hws] at be hc
      have c2 : z3 = 0 := by rcases hc with hc | hc; cases hc; exact hc
      simp [startR, be, m1, c2]
  unfold fb_law_call
  refine st_ret (st_yes tst ?_)
  simp only [startR, List.map_cons, List.map_nil, List.length_cons, List.length_nil, List.cons_append, List.nil_append, List.replicate]
  refine st_set (v := .int n) (by simp [m2]) ?_
  simp only [List.set]
  refine st_set (v := .tuple vs) (by simp [r1, c1, evs]) ?_
  simp only [List.set]
  simp [m3, emth, Cll.D]
theorem law_call_2 (ns : List Int) {p md : PyData} (hp : Pool p) {ws : List Wish} (hb : BookOk ws) (at_ : Int) (h : 0 ≤ at_) (hws : ws.isEmpty = false) (c2 : ¬ mixZ ns at_ 8 = 0) : ∃ c : Cll, F_law_call [scr ns, .int at_, p, md, bookD ws] = .ok c.D ∧ c.ok := by
  have be := book_empty hb
  rw [hws] at be
  have m1 := mixed_eq ns at_ 8 h (by omega)
  have k70 : ∀ x : Int, mulD (.int 70) (.int x) = some (.int (70 * x)) := fun x => mulD_l _ _ (by omega)
  have hpos : 0 < ws.length := by
    cases ws with
    | nil => cases hws
    | cons w ws => simp
  have m4 := mixed_eq ns (at_ + 1) ws.length (by omega) (by omega)
  obtain ⟨d, e4, w, hw, rfl⟩ := atI_of (xs := ws.map Wish.D) (P := fun d => ∃ w ∈ ws, d = w.D) (fun d hd => by obtain ⟨w, hw, rfl⟩ := List.mem_map.mp hd; exact ⟨w, hw, rfl⟩) (mixZ_nn ns (at_ + 1) ws.length (by omega)) (by rw [List.length_map]; exact mixZ_lt ns (at_ + 1) ws.length (by omega))
  have ho := hb.wish w hw
  have e4' : ixD (bookD ws) (.int (mixZ ns (at_ + 1) ws.length)) = some w.D := e4
  have ln : lenD [bookD ws] = some (.int ws.length) := by show some (PyData.int ((ws.map Wish.D).length : Int)) = _; rw [List.length_map]
  have i1 : ixD w.D (.int 1) = some (.str w.method) := rfl
  have i2 : ixD w.D (.int 2) = some (.tuple (w.args.map Lik.D)) := rfl
  generalize w.D = wD at e4' i1 i2
  generalize bookD ws = bD at e4' ln be ⊢
  obtain ⟨us, eus, lus, hus⟩ := lcGo_all (b := bTup 2 (bCons (bName 8) (bCons (bName 9) bNil))) (fe := dCallF 4 F_law_arg (dCons (dVar 0) (dCons (dBin addD (dBin addD (dVar 1) (dC (.int 5))) (dBin mulD (dC (.int 70)) (dVar 8))) (dCons (dVar 2) (dCons (dVar 9) dNil))))) (ρ := [some (.fz (scr ns)), some (.fz (.int at_)), some (.fz p), some (.fz md), some (.fz bD), none, none, some (.fz wD), none, none]) (P := fun d => isVal d = true) (ds := enumD 0 (w.args.map Lik.D)) (by
    intro d hd
    obtain ⟨j, x, rfl, hx⟩ := enumD_mem hd
    obtain ⟨l, hl, rfl⟩ := List.mem_map.mp hx
    obtain ⟨v, e5, h5⟩ := law_arg_eq ns hp (at_ + 5 + 70 * j) (by omega) (ho.args l hl).1 (ho.args l hl).2
    exact ⟨_, v, rfl, by simp [k70, e5], h5⟩)
  rw [enumD_len, List.length_map] at lus
  have r2 := dEnum_t (dCons (dBin ixD (dVar 7) (dC (.int 2))) dNil) [some (.fz (scr ns)), some (.fz (.int at_)), some (.fz p), some (.fz md), some (.fz bD), none, none, some (.fz wD), none, none] (w.args.map Lik.D) (by simp [i2])
  have c3 : (enumD 0 (w.args.map Lik.D)).length ≤ 1000000 := by rw [enumD_len, List.length_map]; have := ho.few; omega
  refine ⟨⟨w.method, us⟩, runD_rt ?_, ⟨ho.method, by show us.length ≤ 2; have := ho.few; omega, hus⟩⟩
  simp [fb_law_call, startR, be, m1, c2, m4, e4', ln, r2, c3, eus, i1, Cll.D]
theorem law_call_eq (ns : List Int) {p md : PyData} (hp : Pool p) (hmd : Methods md) {ws : List Wish} (hb : BookOk ws) (at_ : Int) (h : 0 ≤ at_) : ∃ c : Cll, F_law_call [scr ns, .int at_, p, md, bookD ws] = .ok c.D ∧ c.ok := by
  cases hws : ws.isEmpty with
  | true => exact law_call_1 ns hp hmd hb at_ h (.inl hws)
  | false =>
    by_cases c2 : mixZ ns at_ 8 = 0
    · exact law_call_1 ns hp hmd hb at_ h (.inr c2)
    · exact law_call_2 ns hp hb at_ h hws c2
theorem law_calls_eq (ns : List Int) {p md : PyData} (hp : Pool p) (hmd : Methods md) {ws : List Wish} (hb : BookOk ws) (at_ : Int) (h : 0 ≤ at_) (n : Nat) (hn : n ≤ 1000) : ∃ cs : List Cll, F_law_calls [scr ns, .int at_, p, md, bookD ws, .int n] = .ok (.list (cs.map Cll.D)) ∧ (∀ c ∈ cs, c.ok) ∧ cs.length = n := by
  have k150 : ∀ x : Int, mulD (.int 150) (.int x) = some (.int (150 * x)) := fun x => mulD_l _ _ (by omega)
  obtain ⟨cs, e1, l1, h1⟩ := lcGo_drawn (D := Cll.D) (P := Cll.ok) (b := bName 6) (fe := dCallF 5 F_law_call (dCons (dVar 0) (dCons (dBin addD (dVar 1) (dBin mulD (dC (.int 150)) (dVar 6))) (dCons (dVar 2) (dCons (dVar 3) (dCons (dVar 4) dNil)))))) (ρ := [some (.fz (scr ns)), some (.fz (.int at_)), some (.fz p), some (.fz md), some (.fz (bookD ws)), some (.fz (.int n)), none]) (ds := (List.range n).map fun (i : Nat) => PyData.int (i : Int)) (by
    intro d hd
    obtain ⟨i, hi, rfl⟩ := List.mem_map.mp hd
    obtain ⟨c, e, o⟩ := law_call_eq ns hp hmd hb (at_ + 150 * i) (by omega)
    exact ⟨_, c, rfl, by simp [k150, e], o⟩)
  simp only [List.length_map, List.length_range] at l1
  have r1 := dRange1_n (dCons (dVar 5) dNil) [some (.fz (scr ns)), some (.fz (.int at_)), some (.fz p), some (.fz md), some (.fz (bookD ws)), some (.fz (.int n)), none] n (by simp) (by omega)
  have c1 : n ≤ 1000000 := by omega
  exact ⟨cs, runD_rt (by simp [fb_law_calls, startR, r1, c1, e1]), h1, l1⟩
end Pu

namespace Pu
open PySem PySem.Spec PyProof.Rows L2
variable [MemoSpec]
/-! ### the places of a list at which something holds -/
def whereB {α : Type} (p : α → Bool) : Nat → List α → List Nat
  | _, [] => []
  | k, x :: xs => if p x then k :: whereB p (k + 1) xs else whereB p (k + 1) xs
def natD (n : Nat) : PyData := .int (n : Int)
theorem lcGo_where {α : Type} {b : PyData → Ro → Option Ro} {ft : Ro → R Bool} {fe : Ro → R PyData} {ρ : Ro} {D : α → PyData} {p : α → Bool} : ∀ {xs : List α} {k : Nat}, (∀ x ∈ xs, ∀ k : Nat, ∃ ρ', b (.tuple [.int k, D x]) ρ = some ρ' ∧ ft ρ' = .ok (p x) ∧ fe ρ' = .ok (.int k)) → lcGo b ft fe ρ (enumD k (xs.map D)) = some ((whereB p k xs).map natD)
  | [], _, _ => rfl
  | x :: xs, k, h => by
    obtain ⟨ρ', h1, h2, h3⟩ := h x (by simp) k
    have ih := lcGo_where (xs := xs) (k := k + 1) (fun y hy => h y (by simp [hy]))
    rw [List.map_cons]
    unfold enumD lcGo whereB
    rw [h1]
    cases e : p x with
    | true => rw [e] at h2; simp [h2, h3, ih, natD]
    | false => rw [e] at h2; simp [h2, ih]
theorem okd_ints (ns : List Nat) : okd (.list (ns.map natD)) = true := okN_okd (n := 1) (okN_list fun d hd => by obtain ⟨i, _, rfl⟩ := List.mem_map.mp hd; exact okN_flat rfl) (by omega)
theorem okN_int (n : Nat) (i : Int) : okN n (.int i) = true := okN_flat rfl
/-! ### places, in_order -/
abbrev F_places := runD 4 (fb_places F_need_calls F_need_pattern F_fits_call)
abbrev F_in_order := runD 5 (fb_in_order F_need_calls F_need_pattern F_fits_call)
abbrev F_told_places := toldF whX (fun ds => if ds.length = 2 then F_places ds else .no)
abbrev F_told_in_order := toldF whX (fun ds => if ds.length = 2 then F_in_order ds else .no)
def patD (m : Str) (ls : List Lik) : PyData := .tuple [.str m, .tuple (ls.map Lik.D)]
theorem need_pattern_ok {m : Str} {ls : List Lik} (hm : Word m) (h2 : ls.length ≤ 2) (hl : ∀ l ∈ ls, l.ok ∧ l.parts ≤ 5) : F_need_pattern [patD m ls] = .ok .none := by
  refine runD_nx (ρ := [some (.fz (patD m ls))]) ?_
  simp [fb_need_pattern, startR, patD, isi_tup, isTup, is_pattern_eq hm h2 hl]
def NoPat (d : PyData) : Prop := F_need_pattern [d] = .ex ⟨"NoLikeness", none⟩
def isEx (n : Str) : R PyData → Bool
  | .ex ⟨c, none⟩ => c == n
  | _ => false
theorem isEx_ex {n : Str} {r : R PyData} (h : isEx n r = true) : r = .ex ⟨n, none⟩ := by
  unfold isEx at h
  split at h
  · rw [eq_of_beq h]
  · cases h
theorem need_calls_ex {ds : List PyData} {g : PyData → Bool} (h : ∀ d ∈ ds, F_is_call [d] = .ok (.bool (g d))) (hb : ds.all g = false) (hl : ds.length ≤ 1000) : F_need_calls [.list ds] = .ex ⟨"NoCall", none⟩ := by
  refine runD_ex (ρ := [some (.fz (.list ds)), none]) ?_
  by_cases h4 : (20 : Int) < ds.length
  · simp [fb_need_calls, startR, isi_lst, isLst, h4]
  · have e1 : lcGo (bName 1) dYes (dCallF 1 F_is_call (dCons (dVar 1) dNil)) [some (.fz (.list ds)), none] ds = some (ds.map fun d => .bool (g d)) := lcGo_map fun w hw => ⟨_, rfl, by simp [h w hw]⟩
    have h6 : ds.length ≤ 1000000 := by omega
    have a := allD_map ds g
    rw [hb] at a
    simp [fb_need_calls, startR, isi_lst, isLst, h4, h6, e1, a]
theorem places_ok {cs : List Cll} (hc : ∀ c ∈ cs, c.ok) (hl : cs.length ≤ 20) {m : Str} {ls : List Lik} (hm : Word m) (h2 : ls.length ≤ 2) (hs : ∀ l ∈ ls, l.ok ∧ l.parts ≤ 5) : F_places [.list (cs.map Cll.D), patD m ls] = .ok (.list ((whereB (patB m ls) 0 cs).map natD)) := by
  have e1 := need_calls_ok hc hl
  have e2 := need_pattern_ok hm h2 hs
  have e3 : lcGo (bTup 2 (bCons (bName 2) (bCons (bName 3) bNil))) (dTest (dCallF 2 F_fits_call (dCons (dVar 1) (dCons (dVar 3) dNil)))) (dVar 2) [some (.fz (.list (cs.map Cll.D))), some (.fz (patD m ls)), none, none] (enumD 0 (cs.map Cll.D)) = some ((whereB (patB m ls) 0 cs).map natD) :=
    lcGo_where fun c k1 k => ⟨_, rfl, by simp [patD, fits_call_eq hs h2 (hc c k1)], by simp⟩
  have r1 := dEnum_l (dCons (dVar 0) dNil) [some (.fz (.list (cs.map Cll.D))), some (.fz (patD m ls)), none, none] (cs.map Cll.D) (by simp)
  have l1 : (enumD 0 (cs.map Cll.D)).length ≤ 1000000 := by rw [enumD_len, List.length_map]; omega
  refine runD_rt ?_
  simp [fb_places, startR, e1, e2, r1, l1, e3]
theorem places_ex1 {d e : PyData} (h : F_need_calls [d] = .ex ⟨"NoCall", none⟩) : F_places [d, e] = .ex ⟨"NoCall", none⟩ := by
  refine runD_ex (ρ := [some (.fz d), some (.fz e), none, none]) ?_
  simp [fb_places, startR, h]
theorem places_ex2 {cs : List Cll} (hc : ∀ c ∈ cs, c.ok) (hl : cs.length ≤ 20) {e : PyData} (h : NoPat e) : F_places [.list (cs.map Cll.D), e] = .ex ⟨"NoLikeness", none⟩ := by
  refine runD_ex (ρ := [some (.fz (.list (cs.map Cll.D))), some (.fz e), none, none]) ?_
  unfold NoPat at h
  simp [fb_places, startR, need_calls_ok hc hl, h]
theorem in_order_ex1 {d e : PyData} (h : F_need_calls [d] = .ex ⟨"NoCall", none⟩) : F_in_order [d, e] = .ex ⟨"NoCall", none⟩ := by
  refine runD_ex (ρ := [some (.fz d), some (.fz e), none, none, none]) ?_
  simp [fb_in_order, startR, h]
theorem in_order_ex2 {cs : List Cll} (hc : ∀ c ∈ cs, c.ok) (hl : cs.length ≤ 20) {e : PyData} (h : isLst e = false) : F_in_order [.list (cs.map Cll.D), e] = .ex ⟨"NoLikeness", none⟩ := by
  refine runD_ex (ρ := [some (.fz (.list (cs.map Cll.D))), some (.fz e), none, none, none]) ?_
  simp [fb_in_order, startR, need_calls_ok hc hl, isi_lst, h]
theorem forGo_need {ds : List PyData} {bad : PyData} (hg : ∀ d ∈ ds, F_need_pattern [d] = .ok .none) (hb : NoPat bad) : ∀ {a b c d e : Option Cel}, ∃ ρ, forGo (bName 2) (sExpr (dCallF 1 F_need_pattern (dCons (dVar 2) dNil))) [a, b, c, d, e] (ds ++ [bad]) = .ex ⟨"NoLikeness", none⟩ ρ := by
  induction ds with
  | nil => intro a b c d e; unfold NoPat at hb; exact ⟨_, by simp [forGo, hb]; rfl⟩
  | cons x xs ih =>
    intro a b c d e
    obtain ⟨ρ, e1⟩ := ih (fun d hd => hg d (by simp [hd])) (a := a) (b := b) (c := some (.fz x)) (d := d) (e := e)
    exact ⟨ρ, by simp [forGo, hg x (by simp)]; exact e1⟩
theorem in_order_ex3 {cs : List Cll} (hc : ∀ c ∈ cs, c.ok) (hl : cs.length ≤ 20) {ds : List PyData} {bad : PyData} (hg : ∀ d ∈ ds, F_need_pattern [d] = .ok .none) (hb : NoPat bad) : F_in_order [.list (cs.map Cll.D), .list (ds ++ [bad])] = .ex ⟨"NoLikeness", none⟩ := by
  obtain ⟨ρ, e1⟩ := forGo_need hg hb (a := some (.fz (.list (cs.map Cll.D)))) (b := some (.fz (.list (ds ++ [bad])))) (c := none) (d := none) (e := none)
  refine runD_ex (ρ := ρ) ?_
  simp [fb_in_order, startR, need_calls_ok hc hl, isi_lst, isLst, e1]
theorem whX_nl : whX ⟨"NoLikeness", none⟩ = some (refused 1) := which_of _ 1 (by decide +kernel) (by decide +kernel)
theorem whX_nc : whX ⟨"NoCall", none⟩ = some (refused 2) := which_of _ 2 (by decide +kernel) (by decide +kernel)
end Pu

namespace Pu
open PySem PySem.Spec PyProof.Rows L2
variable [MemoSpec]
/-! ### comprehensions and loops, more -/
theorem dLc_go {fi : Ro → R (List PyData)} {b : PyData → Ro → Option Ro} {ft : Ro → R Bool} {fe : Ro → R PyData} {vs : List Nat} {ρ : Ro} {ds ys : List PyData} (h1 : fi ρ = .ok ds) (h2 : ds.length ≤ 1000000) (h3 : lcGo b ft fe (wipeR ρ vs) ds = some ys) : dLc fi b ft fe vs ρ = .ok ys := by
  unfold dLc
  rw [h1]
  simp only [R.bind_ok]
  rw [if_pos h2, h3]
  rfl
theorem dAsL_go {f : Ro → R (List PyData)} {ρ : Ro} {ys : List PyData} (h : f ρ = .ok ys) : dAsL f ρ = .ok (.list ys) := by
  unfold dAsL
  rw [h]
  rfl
theorem dTupL_go {f : Ro → R (List PyData)} {ρ : Ro} {ys : List PyData} (h : f ρ = .ok ys) : dCall tupleD (dCons (dAsL f) dNil) ρ = .ok (.tuple ys) := by
  unfold dCall dCons
  rw [dAsL_go h]
  rfl
theorem dAllL_go {f : Ro → R (List PyData)} {ρ : Ro} {bs : List Bool} (h : f ρ = .ok (bs.map .bool)) : dCall allD (dCons (dAsL f) dNil) ρ = .ok (.bool (bs.all id)) := by
  unfold dCall dCons
  rw [dAsL_go h]
  show R.of (allD [.list (bs.map .bool)]) = _
  rw [allD_bs]
  rfl
theorem dAnyL_go {f : Ro → R (List PyData)} {ρ : Ro} {bs : List Bool} (h : f ρ = .ok (bs.map .bool)) : dCall anyD (dCons (dAsL f) dNil) ρ = .ok (.bool (bs.any id)) := by
  unfold dCall dCons
  rw [dAsL_go h]
  show R.of (anyD [.list (bs.map .bool)]) = _
  rw [anyD_bs]
  rfl
theorem lcGo_filter {α : Type} {b : PyData → Ro → Option Ro} {ft : Ro → R Bool} {fe : Ro → R PyData} {ρ : Ro} {D g : α → PyData} {p : α → Bool} : ∀ {xs : List α}, (∀ x ∈ xs, ∃ ρ', b (D x) ρ = some ρ' ∧ ft ρ' = .ok (p x) ∧ fe ρ' = .ok (g x)) → lcGo b ft fe ρ (xs.map D) = some ((xs.filter p).map g)
  | [], _ => rfl
  | x :: xs, h => by
    obtain ⟨ρ', h1, h2, h3⟩ := h x (by simp)
    have ih := lcGo_filter (xs := xs) (fun y hy => h y (by simp [hy]))
    rw [List.map_cons]
    unfold lcGo
    rw [h1]
    cases e : p x with
    | true => rw [e] at h2; simp [h2, h3, ih, e]
    | false => rw [e] at h2; simp [h2, ih, e]
theorem forGo_acc {α β : Type} {b : PyData → Ro → Option Ro} {body : Ro → Fl} {D : α → PyData} {f : α → List β} (st : List β → Ro → Prop) : ∀ {xs : List α} {acc : List β} {ρ : Ro}, (∀ x ∈ xs, ∀ acc ρ, st acc ρ → ∃ ρ1 ρ2, b (D x) ρ = some ρ1 ∧ body ρ1 = .nx ρ2 ∧ st (acc ++ f x) ρ2) → st acc ρ → ∃ ρ', forGo b body ρ (xs.map D) = .nx ρ' ∧ st (acc ++ xs.flatMap f) ρ'
  | [], acc, ρ, _, h => ⟨ρ, rfl, by simpa using h⟩
  | x :: xs, acc, ρ, k, h => by
    obtain ⟨ρ1, ρ2, e1, e2, h2⟩ := k x (by simp) acc ρ h
    obtain ⟨ρ', e3, h3⟩ := forGo_acc st (xs := xs) (fun y hy => k y (by simp [hy])) h2
    refine ⟨ρ', ?_, by rw [List.flatMap_cons, ← List.append_assoc]; exact h3⟩
    rw [List.map_cons, forGo.eq_2, e1]
    simp only [e2]
    exact e3
theorem enumD_range : ∀ (xs : List PyData) (k : Nat), enumD k xs = (List.range xs.length).map fun i => PyData.tuple [.int ((k + i : Nat) : Int), xs.getD i .none]
  | [], _ => rfl
  | x :: xs, k => by
    unfold enumD
    rw [enumD_range xs (k + 1), List.length_cons, List.range_succ_eq_map, List.map_cons, List.map_map]
    have e : (List.range xs.length).map (fun i => PyData.tuple [.int ((k + 1 + i : Nat) : Int), xs.getD i .none]) = (List.range xs.length).map ((fun i => PyData.tuple [.int ((k + i : Nat) : Int), (x :: xs).getD i .none]) ∘ Nat.succ) := List.map_congr_left fun i _ => by
      show PyData.tuple [.int ((k + 1 + i : Nat) : Int), xs.getD i .none] = PyData.tuple [.int ((k + (i + 1) : Nat) : Int), (x :: xs).getD (i + 1) .none]
      rw [show k + 1 + i = k + (i + 1) from by omega]
      rfl
    rw [e]
    rfl
/-! ### the likenesses of a wish that do not fit -/
def missAt (ls : List Lik) (vs : List PyData) (k : Nat) : Bool := match ls[k]?, vs[k]? with
  | some l, some v => !l.fits v
  | _, _ => true
def miss (ls : List Lik) (vs : List PyData) : List Nat := (List.range vs.length).filter (missAt ls vs)
theorem miss_nil : ∀ (ls : List Lik) (vs : List PyData), ls.length = vs.length → ((∀ k, k < vs.length → missAt ls vs k = false) ↔ fitsAll ls vs = true)
  | [], [], _ => ⟨fun _ => rfl, fun _ k h => by simp at h⟩
  | [], _ :: _, h => by simp at h
  | _ :: _, [], h => by simp at h
  | l :: ls, v :: vs, h => by
    have ih := miss_nil ls vs (by simpa using h)
    unfold fitsAll
    rw [Bool.and_eq_true, ← ih]
    constructor
    · intro q
      refine ⟨?_, fun k hk => ?_⟩
      · have := q 0 (by simp)
        simpa [missAt] using this
      · have := q (k + 1) (by simp; omega)
        simpa [missAt] using this
    · intro q k hk
      cases k with
      | zero => simpa [missAt] using q.1
      | succ k =>
        have := q.2 k (by simp at hk; omega)
        simpa [missAt] using this
theorem miss_empty {ls : List Lik} {vs : List PyData} (h : ls.length = vs.length) : (miss ls vs = []) ↔ fitsAll ls vs = true := by
  rw [← miss_nil ls vs h]
  unfold miss
  rw [List.filter_eq_nil_iff]
  constructor
  · intro q k hk
    have := q k (List.mem_range.mpr hk)
    simpa using this
  · intro q k hk
    have := q k (List.mem_range.mp hk)
    simp [this]
theorem miss_few (ls : List Lik) (vs : List PyData) : (miss ls vs).length ≤ vs.length := by
  have := List.length_filter_le (missAt ls vs) (List.range vs.length)
  rw [List.length_range] at this
  exact this
/-- a wish of the call's method with as many likenesses -/
def nearB (c : Cll) (w : Wish) : Bool := (w.method == c.method) && (w.args.length == c.args.length)
abbrev NRow := Str × List Nat
def nrowD (r : NRow) : PyData := .tuple [.str r.1, .list (r.2.map natD)]
def nrow (c : Cll) (w : Wish) : List NRow := if nearB c w then [(w.name, miss w.args c.args)] else []
def nrows (ws : List Wish) (c : Cll) : List NRow := ws.flatMap (nrow c)
def least (rs : List NRow) : Nat := (rs.map fun r => r.2.length).foldl min 9
def near (ws : List Wish) (c : Cll) : List NRow := (nrows ws c).filter fun r => r.2.length == least (nrows ws c)
theorem nrows_len (ws : List Wish) (c : Cll) : (nrows ws c).length ≤ ws.length := by
  unfold nrows
  induction ws with
  | nil => simp
  | cons w ws ih =>
    rw [List.flatMap_cons, List.length_append, List.length_cons]
    have : (nrow c w).length ≤ 1 := by unfold nrow; split <;> simp
    omega
theorem okN_nrow (r : NRow) : okN 2 (nrowD r) = true := okN_tup (okN_2 (okN_flat rfl) (okN_list fun d hd => by obtain ⟨i, _, rfl⟩ := List.mem_map.mp hd; exact okN_flat rfl))
theorem okd_nrows (rs : List NRow) : okd (.list (rs.map nrowD)) = true := okN_okd (n := 3) (okN_list fun d hd => by obtain ⟨r, _, rfl⟩ := List.mem_map.mp hd; exact okN_nrow r) (by omega)
theorem alike_int (i j : Int) : PySem.W.alike (.int i) (.int j) = true := by simp [PySem.W.alike]
theorem nodicts_ints : ∀ ns : List Int, nodicts (ns.map .int) = true
  | [] => rfl
  | n :: ns => by show (nodict (.int n) && nodicts (ns.map .int)) = true; rw [nodicts_ints ns]; rfl
theorem cmpB_ints (ns : List Int) : cmpB (ns.map .int) = true := by
  unfold cmpB
  rw [nodicts_ints, PySem.W.depth_ints]
  have a : alikeB (ns.map PyData.int) = true := by
    unfold alikeB
    refine List.all_eq_true.mpr fun x hx => List.all_eq_true.mpr fun y hy => ?_
    obtain ⟨i, _, rfl⟩ := List.mem_map.mp hx
    obtain ⟨j, _, rfl⟩ := List.mem_map.mp hy
    exact alike_int i j
  have b : (ns.map PyData.int).all notNone = true := List.all_eq_true.mpr fun x hx => by obtain ⟨i, _, rfl⟩ := List.mem_map.mp hx; rfl
  rw [a, b]
  decide
theorem minL_ints (n : Int) (ns : List Int) : minL [.list (.int n :: ns.map .int)] = some (.int (ns.foldl min n)) := by
  have c := cmpB_ints (n :: ns)
  rw [List.map_cons] at c
  show (if cmpB (.int n :: ns.map .int) = true then some (PySem.W.minD (.int n) (ns.map .int)) else none) = _
  rw [if_pos c, PySem.W.minD_ints]
theorem foldl_min_nat : ∀ (ns : List Nat) (a : Nat), (ns.map fun (n : Nat) => (n : Int)).foldl min (a : Int) = ((ns.foldl min a : Nat) : Int)
  | [], _ => rfl
  | n :: ns, a => by
    rw [List.map_cons, List.foldl_cons, List.foldl_cons, ← foldl_min_nat ns (min a n)]
    congr 1
    omega
theorem foldl_min_le : ∀ (ns : List Nat) (a : Nat), ns.foldl min a ≤ a ∧ ∀ n ∈ ns, ns.foldl min a ≤ n
  | [], a => ⟨Nat.le_refl _, fun _ h => by cases h⟩
  | n :: ns, a => by
    obtain ⟨h1, h2⟩ := foldl_min_le ns (min a n)
    rw [List.foldl_cons]
    refine ⟨by omega, fun m hm => ?_⟩
    rcases List.mem_cons.mp hm with e | e
    · subst e; omega
    · exact h2 m e
theorem foldl_min_comm : ∀ (ns : List Nat) (a b : Nat), ns.foldl min (min a b) = min a (ns.foldl min b)
  | [], _, _ => rfl
  | n :: ns, a, b => by
    rw [List.foldl_cons, List.foldl_cons, show min (min a b) n = min a (min b n) from by omega, foldl_min_comm ns]
theorem natD_map (ns : List Nat) : ns.map natD = (ns.map fun (n : Nat) => (n : Int)).map PyData.int := by rw [List.map_map]; rfl
/-- the least of the numbers with 9 behind them -/
theorem min_behind (ns : List Nat) : minL [.list (ns.map natD ++ [.int 9])] = some (.int (ns.foldl min 9 : Nat)) := by
  cases ns with
  | nil => exact minL_ints 9 []
  | cons n ns =>
    have := minL_ints n ((ns ++ [9]).map fun (n : Nat) => (n : Int))
    rw [List.map_append, List.map_append] at this
    rw [List.map_cons, List.cons_append, natD_map]
    refine this.trans ?_
    have e := foldl_min_nat (ns ++ [9]) n
    rw [List.map_append] at e
    rw [e]
    congr 3
    rw [List.foldl_append]
    show min (ns.foldl min n) 9 = ns.foldl min (min 9 n)
    rw [foldl_min_comm, Nat.min_comm]
theorem min_ahead (ns : List Nat) : minL [.list (.int 9 :: ns.map natD)] = some (.int (ns.foldl min 9 : Nat)) := by
  rw [natD_map, minL_ints]
  have := foldl_min_nat ns 9
  exact congrArg (fun x => some (PyData.int x)) this
/-- where some wish likes the call, the nearest are those that do -/
theorem near_fond {ws : List Wish} {c : Cll} (hf : (ws.filter fun w => w.likes c) ≠ []) : (near ws c).map (·.1) = (ws.filter fun w => w.likes c).map (·.name) := by
  have lk : ∀ w : Wish, w.likes c = (nearB c w && (miss w.args c.args == [])) := by
    intro w
    unfold Wish.likes patB nearB
    by_cases h : w.args.length = c.args.length
    · have m := miss_empty h
      cases hm : (w.method == c.method) with
      | false => simp
      | true =>
        rw [h]
        simp only [beq_self_eq_true, Bool.true_and]
        cases hfit : fitsAll w.args c.args with
        | true => rw [m.mpr hfit]; rfl
        | false =>
          have : ¬ miss w.args c.args = [] := fun q => by rw [m.mp q] at hfit; cases hfit
          cases hq : miss w.args c.args with
          | nil => exact (this hq).elim
          | cons a l => rfl
    · rw [fitsAll_len _ _ h]
      have : (w.args.length == c.args.length) = false := by simpa using h
      rw [this]
      simp
  obtain ⟨w0, hw0⟩ := List.exists_mem_of_ne_nil _ hf
  obtain ⟨hm0, hl0⟩ := List.mem_filter.mp hw0
  rw [lk] at hl0
  obtain ⟨hn0, he0⟩ := Bool.and_eq_true_iff.mp hl0
  have e0 : miss w0.args c.args = [] := by simpa using he0
  have hz : least (nrows ws c) = 0 := by
    have : ((w0.name, miss w0.args c.args) : NRow) ∈ nrows ws c := List.mem_flatMap.mpr ⟨w0, hm0, by unfold nrow; rw [if_pos hn0]; simp⟩
    have h0 : (0 : Nat) ∈ (nrows ws c).map fun r => r.2.length := List.mem_map.mpr ⟨_, this, by rw [e0]; rfl⟩
    have := (foldl_min_le _ 9).2 0 h0
    unfold least
    omega
  unfold near
  rw [hz]
  clear hz hf hw0 hm0
  unfold nrows
  induction ws with
  | nil => rfl
  | cons w ws ih =>
    rw [List.flatMap_cons, List.filter_append, List.map_append, ih, List.filter_cons, lk]
    unfold nrow
    cases h1 : nearB c w with
    | false => simp
    | true =>
      cases h2 : miss w.args c.args with
      | nil => simp
      | cons a l => simp
end Pu

namespace Pu
open PySem PySem.Spec PyProof.Rows L2
variable [MemoSpec]
theorem forGo_accB {α β : Type} {b : PyData → Ro → Option Ro} {body : Ro → Fl} {D : α → PyData} {f : α → List β} (st : List β → Ro → Prop) (m M : Nat) : ∀ {xs : List α} {acc : List β} {ρ : Ro}, (∀ x ∈ xs, (f x).length ≤ m) → acc.length + m * xs.length ≤ M → (∀ x ∈ xs, ∀ acc ρ, acc.length + (f x).length ≤ M → st acc ρ → ∃ ρ1 ρ2, b (D x) ρ = some ρ1 ∧ body ρ1 = .nx ρ2 ∧ st (acc ++ f x) ρ2) → st acc ρ → ∃ ρ', forGo b body ρ (xs.map D) = .nx ρ' ∧ st (acc ++ xs.flatMap f) ρ'
  | [], acc, ρ, _, _, _, h => ⟨ρ, rfl, by simpa using h⟩
  | x :: xs, acc, ρ, hl, hM, k, h => by
    have l1 := hl x (by simp)
    rw [List.length_cons, Nat.mul_succ] at hM
    obtain ⟨ρ1, ρ2, e1, e2, h2⟩ := k x (by simp) acc ρ (by omega) h
    obtain ⟨ρ', e3, h3⟩ := forGo_accB st m M (xs := xs) (fun y hy => hl y (by simp [hy])) (by rw [List.length_append]; omega) (fun y hy => k y (by simp [hy])) h2
    refine ⟨ρ', ?_, by rw [List.flatMap_cons, ← List.append_assoc]; exact h3⟩
    rw [List.map_cons, forGo.eq_2, e1]
    simp only [e2]
    exact e3
theorem atI_n {α : Type} {xs : List α} {i : Nat} {d : α} (h : xs[i]? = some d) : atI xs (i : Int) = some d := atI_ge (by omega) d (by simpa using h)
theorem miss_enum {F : List PyData → R PyData} (hF : ∀ (l : Lik) (v : PyData), l.ok → l.parts ≤ 5 → isVal v = true → F [l.D, v] = .ok (.bool (l.fits v))) {ls : List Lik} {c : Cll} (hl : ∀ l ∈ ls, l.ok ∧ l.parts ≤ 5) (hc : c.ok) (h : ls.length = c.args.length) (a0 a2 a3 a4 a5 a6 a7 a8 a9 a10 a11 : Option Cel) :
    lcGo (bTup 2 (bCons (bName 12) (bCons (bName 13) bNil))) (dNot (dTest (dCallF 2 F (dCons (dVar 13) (dCons (dBin ixD (dBin ixD (dVar 1) (dC (.int 1))) (dVar 12)) dNil))))) (dVar 12) [a0, some (.fz c.D), a2, a3, a4, a5, a6, a7, a8, a9, a10, a11, none, none] (enumD 0 (ls.map Lik.D)) = some ((miss ls c.args).map natD) := by
  rw [enumD_range, List.length_map, h]
  unfold miss
  refine lcGo_filter fun i hi => ?_
  have hi' := List.mem_range.mp hi
  have g1 : c.args[i]? = some c.args[i] := List.getElem?_eq_getElem hi'
  have g2 : ls[i]? = some (ls[i]'(by omega)) := List.getElem?_eq_getElem (by omega)
  have g3 : (ls.map Lik.D).getD i .none = (ls[i]'(by omega)).D := by rw [List.getD_eq_getElem?_getD, List.getElem?_map, g2]; rfl
  have v := hc.args _ (List.getElem_mem hi')
  have q := hl _ (List.getElem_mem (by omega : i < ls.length))
  have x := hF _ _ q.1 q.2 v
  have m : missAt ls c.args i = !(ls[i]'(by omega)).fits c.args[i] := by unfold missAt; rw [g1, g2]
  have at1' : atI c.args ((0 + i : Nat) : Int) = some c.args[i] := by rw [Nat.zero_add]; exact atI_n g1
  refine ⟨_, rfl, ?_, ?_⟩
  · simp only [Nat.zero_add] at at1' ⊢
    simp [Cll.D, at1', g2, x, m]
  · simp [natD]
def nearBody (F : List PyData → R PyData) : Ro → Fl := (sIf (dAnd (dTest (dBin eqD (dVar 4) (dBin ixD (dVar 1) (dC (.int 0))))) (dTest (dBin eqD (dCall lenD (dCons (dVar 5) dNil)) (dCall lenD (dCons (dBin ixD (dVar 1) (dC (.int 1))) dNil))))) (sSeq (sAsg (dAsL (dLc (dEnum (dCons (dVar 5) dNil)) (bTup 2 (bCons (bName 12) (bCons (bName 13) bNil))) (dNot (dTest (dCallF 2 F (dCons (dVar 13) (dCons (dBin ixD (dBin ixD (dVar 1) (dC (.int 1))) (dVar 12)) dNil))))) (dVar 12) [12, 13])) (bName 10))
    (sApp 2 (dTup (dCons (dVar 3) (dCons (dVar 10) dNil))))) sNil)
def nearTg : PyData → Ro → Option Ro := (bTup 7 (bCons (bName 3) (bCons (bName 4) (bCons (bName 5) (bCons (bName 6) (bCons (bName 7) (bCons (bName 8) (bCons (bName 9) bNil))))))))
theorem near_body {F : List PyData → R PyData} (hF : ∀ (l : Lik) (v : PyData), l.ok → l.parts ≤ 5 → isVal v = true → F [l.D, v] = .ok (.bool (l.fits v))) {w : Wish} {c : Cll} (hw : w.ok) (hc : c.ok) (acc : List NRow) (hacc : acc.length + (nrow c w).length ≤ 999) (a0 a10 a11 : Option Cel) :
    ∃ b10, (nearBody F) [a0, some (.fz c.D), some (.ow (.list (acc.map nrowD))), some (.fz (.str w.name)), some (.fz (.str w.method)), some (.fz (.tuple (w.args.map Lik.D))), some (.fz (.int w.low)), some (.fz (.int w.top)), some (.fz (.tuple (w.answers.map Ans.D))), some (.fz (.tuple (w.after.map .str))), a10, a11, none, none] =
    .nx [a0, some (.fz c.D), some (.ow (.list ((acc ++ nrow c w).map nrowD))), some (.fz (.str w.name)), some (.fz (.str w.method)), some (.fz (.tuple (w.args.map Lik.D))), some (.fz (.int w.low)), some (.fz (.int w.top)), some (.fz (.tuple (w.answers.map Ans.D))), some (.fz (.tuple (w.after.map .str))), b10, a11, none, none] := by
  have h0 : ixD c.D (.int 0) = some (.str c.method) := rfl
  have h1 : ixD c.D (.int 1) = some (.tuple c.args) := rfl
  unfold nrow nearB at *
  unfold nearBody
  cases hm : (w.method == c.method) with
  | false => exact ⟨a10, by simp [h0, hm]⟩
  | true =>
    by_cases hl : w.args.length = c.args.length
    · have e := miss_enum hF hw.args hc hl a0 (some (.ow (.list (acc.map nrowD)))) (some (.fz (.str w.name))) (some (.fz (.str w.method))) (some (.fz (.tuple (w.args.map Lik.D)))) (some (.fz (.int w.low))) (some (.fz (.int w.top))) (some (.fz (.tuple (w.answers.map Ans.D)))) (some (.fz (.tuple (w.after.map .str)))) a10 a11
      have r2 := dEnum_t (dCons (dVar 5) dNil) [a0, some (.fz c.D), some (.ow (.list (acc.map nrowD))), some (.fz (.str w.name)), some (.fz (.str w.method)), some (.fz (.tuple (w.args.map Lik.D))), some (.fz (.int w.low)), some (.fz (.int w.top)), some (.fz (.tuple (w.answers.map Ans.D))), some (.fz (.tuple (w.after.map .str))), a10, a11, none, none] (w.args.map Lik.D) (by simp)
      have c3 : (enumD 0 (w.args.map Lik.D)).length ≤ 1000000 := by rw [enumD_len, List.length_map]; have := hw.few; omega
      rw [hm, hl] at hacc
      simp only [beq_self_eq_true, Bool.true_and, if_true, List.length_cons, List.length_nil] at hacc
      refine ⟨some (.fz (.list ((miss w.args c.args).map natD))), st_yes (by simp [h0, h1, hm, hl]) (st_set (v := .list ((miss w.args c.args).map natD)) (by simp [r2, c3, e]) ?_)⟩
      simp only [List.set]
      have c4 : acc.length < 1000000 := by omega
      simp [sApp, ownL, c4, hl, nrowD]
    · have l' : ¬ (w.args.length : Int) = c.args.length := by omega
      exact ⟨a10, by simp [h0, h1, hm, l', hl]⟩
theorem near_loop {F : List PyData → R PyData} (hF : ∀ (l : Lik) (v : PyData), l.ok → l.parts ≤ 5 → isVal v = true → F [l.D, v] = .ok (.bool (l.fits v))) {ws : List Wish} {c : Cll} (hw : ∀ w ∈ ws, w.ok) (h4 : ws.length ≤ 4) (hc : c.ok) (a0 : Option Cel) :
    ∃ b3 b4 b5 b6 b7 b8 b9 b10, forGo nearTg (nearBody F) [a0, some (.fz c.D), some (.ow (.list [])), none, none, none, none, none, none, none, none, none, none, none] (ws.map Wish.D) = .nx [a0, some (.fz c.D), some (.ow (.list ((nrows ws c).map nrowD))), b3, b4, b5, b6, b7, b8, b9, b10, none, none, none] := by
  obtain ⟨ρ', e, b3, b4, b5, b6, b7, b8, b9, b10, rfl⟩ := forGo_accB (b := nearTg) (body := nearBody F) (D := Wish.D) (f := nrow c) (fun (acc : List NRow) ρ => ∃ b3 b4 b5 b6 b7 b8 b9 b10, ρ = [a0, some (.fz c.D), some (.ow (.list (acc.map nrowD))), b3, b4, b5, b6, b7, b8, b9, b10, none, none, none]) 1 999 (xs := ws) (acc := []) (fun w _ => by unfold nrow; split <;> simp) (by simp; omega)
    (fun w hm acc ρ hl ⟨b3, b4, b5, b6, b7, b8, b9, b10, h⟩ => by
      subst h
      obtain ⟨c10, e⟩ := near_body hF (hw w hm) hc acc hl a0 b10 none
      exact ⟨_, _, rfl, e, _, _, _, _, _, _, _, _, rfl⟩) ⟨none, none, none, none, none, none, none, none, rfl⟩
  exact ⟨b3, b4, b5, b6, b7, b8, b9, b10, by rw [List.nil_append] at e; exact e⟩
theorem near_core {gb gc F : List PyData → R PyData} (hF : ∀ (l : Lik) (v : PyData), l.ok → l.parts ≤ 5 → isVal v = true → F [l.D, v] = .ok (.bool (l.fits v))) {ws : List Wish} {c : Cll} (hw : ∀ w ∈ ws, w.ok) (h4 : ws.length ≤ 4) (hc : c.ok) (e1 : gb [bookD ws] = .ok .none) (e2 : gc [c.D] = .ok .none) : runD 14 (fb_nearest gb gc F) [bookD ws, c.D] = .ok (.list ((near ws c).map nrowD)) := by
  obtain ⟨b3, b4, b5, b6, b7, b8, b9, b10, e3⟩ := near_loop hF hw h4 hc (some (.fz (bookD ws)))
  have it : itemsD (bookD ws) = .ok (ws.map Wish.D) := rfl
  have ln := nrows_len ws c
  have l6 : (nrows ws c).length ≤ 1000000 := by omega
  refine runD_rt ?_
  unfold fb_nearest
  simp only [startR, List.map_cons, List.map_nil, List.length_cons, List.length_nil, List.cons_append, List.nil_append, List.replicate]
  refine st_ex (d := .none) (by simp [e1]) (st_ex (d := .none) (by simp [e2]) (st_setL (v := []) (by simp) (by simp) ?_))
  simp only [List.set]
  refine st_for (ds := ws.map Wish.D) (by simp [it]) e3 ?_
  have f1 : lcGo (bTup 2 (bCons (bName 3) (bCons (bName 10) bNil))) dYes (dCall lenD (dCons (dVar 10) dNil)) [some (.fz (bookD ws)), some (.fz c.D), some (.fz (.list ((nrows ws c).map nrowD))), none, b4, b5, b6, b7, b8, b9, none, none, none, none] ((nrows ws c).map nrowD) = some ((nrows ws c).map fun r => natD r.2.length) :=
    lcGo_mapD fun r _ => ⟨_, rfl, by simp [natD]⟩
  have mb : minL [.list (((nrows ws c).map fun r => r.2.length).map natD ++ [.int 9])] = some (natD (least (nrows ws c))) := min_behind ((nrows ws c).map fun r => r.2.length)
  have f1' : ((nrows ws c).map fun r => r.2.length).map natD = (nrows ws c).map (fun r => natD r.2.length) := by rw [List.map_map]; rfl
  rw [f1'] at mb
  refine st_nx (ρ' := [some (.fz (bookD ws)), some (.fz c.D), some (.fz (.list ((nrows ws c).map nrowD))), b3, b4, b5, b6, b7, b8, b9, b10, some (.fz (natD (least (nrows ws c)))), none, none]) ?_ ?_
  · have l7 : (nrows ws c).length ≤ 999999 := by omega
    simp [sFrz, l6, l7, f1, mb]
  · have f2 : lcGo (bTup 2 (bCons (bName 3) (bCons (bName 10) bNil))) (dTest (dBin eqD (dCall lenD (dCons (dVar 10) dNil)) (dVar 11))) (dTup (dCons (dVar 3) (dCons (dVar 10) dNil))) [some (.fz (bookD ws)), some (.fz c.D), some (.fz (.list ((nrows ws c).map nrowD))), none, b4, b5, b6, b7, b8, b9, none, some (.fz (natD (least (nrows ws c)))), none, none] ((nrows ws c).map nrowD) = some ((near ws c).map nrowD) :=
      lcGo_filter fun r _ => ⟨[some (.fz (bookD ws)), some (.fz c.D), some (.fz (.list ((nrows ws c).map nrowD))), some (.fz (.str r.1)), b4, b5, b6, b7, b8, b9, some (.fz (.list (r.2.map natD))), some (.fz (natD (least (nrows ws c)))), none, none], rfl, by
        have e : (PyData.int ((r.2.map natD).length : Int)) = natD r.2.length := by rw [List.length_map]; rfl
        have e2 : eqD (natD r.2.length) (natD (least (nrows ws c))) = some (.bool (r.2.length == least (nrows ws c))) := by
          unfold natD
          rw [eqD_i]
          congr 2
          by_cases q : r.2.length = least (nrows ws c)
          · rw [q]; simp
          · have q' : ¬ (r.2.length : Int) = least (nrows ws c) := by omega
            rw [beq_eq_false_iff_ne.mpr q', beq_eq_false_iff_ne.mpr q]
        simp only [dTest_ap, dBin_ap, dCall_ap, dCons_ap, dVar_0, dVar_s, dNil_ap, R.bind_ok, lenD_l, R.of_some, e, e2, asB_b], by simp [nrowD]⟩
    simp [sFrz, l6, f2]
abbrev F_nearest := runD 14 (fb_nearest F_need_book F_need_call (F_fits_value 5))
abbrev F_told_nearest := toldF whX (fun ds => if ds.length = 2 then F_nearest ds else .no)
theorem nearest_eq {ws : List Wish} {c : Cll} (hb : BookOk ws) (hc : c.ok) : F_nearest [bookD ws, c.D] = .ok (.list ((near ws c).map nrowD)) := near_core (fun l v h1 h2 h3 => fits_value_eq l 5 v h1 h2 h3) hb.wish hb.four hc (need_book_ok hb) (need_call_ok hc)
theorem near_out1 {gb gc F : List PyData → R PyData} {d e : PyData} {x : Xc} (h : gb [d] = .ex x) : runD 14 (fb_nearest gb gc F) [d, e] = .ex x := by
  refine runD_ex (ρ := [some (.fz d), some (.fz e), none, none, none, none, none, none, none, none, none, none, none, none]) (st_out ?_)
  simp [startR, h]
theorem near_out2 {gb gc F : List PyData → R PyData} {d e : PyData} {x : Xc} (h : gb [d] = .ok .none) (h2 : gc [e] = .ex x) : runD 14 (fb_nearest gb gc F) [d, e] = .ex x := by
  refine runD_ex (ρ := [some (.fz d), some (.fz e), none, none, none, none, none, none, none, none, none, none, none, none]) (st_ex (d := .none) ?_ (st_out ?_))
  · simp [startR, h]
  · simp [startR, h2]
theorem nearest_ex1 {d e : PyData} (h : F_is_book [d] = .ok (.bool false)) : F_nearest [d, e] = .ex ⟨"NoBook", none⟩ := near_out1 (need_book_ex h)
theorem nearest_ex2 {ws : List Wish} {e : PyData} (hb : BookOk ws) (h : F_is_call [e] = .ok (.bool false)) : F_nearest [bookD ws, e] = .ex ⟨"NoCall", none⟩ := near_out2 (need_book_ok hb) (need_call_ex h)
end Pu

namespace Pu
open PySem PySem.Spec PyProof.Rows L2
variable [MemoSpec]
/-! ### in_order -/
abbrev PP := Cll → Bool
/-- the first place from k on at which p holds -/
def seek (p : PP) : List Cll → Nat → Nat
  | [], k => k
  | c :: cs, k => if p c then k else seek p cs (k + 1)
/-- the first rising places, from k on (cs: the calls from k on) -/
def ordP : List PP → List Cll → Nat → Option (List Nat)
  | [], _, _ => some []
  | p :: ps, cs, k => match seek p cs k - k with
    | j => if j < cs.length then (ordP ps (cs.drop (j + 1)) (k + j + 1)).map ((k + j) :: ·) else none
theorem seek_ge (p : PP) : ∀ (cs : List Cll) (k : Nat), k ≤ seek p cs k ∧ seek p cs k ≤ k + cs.length
  | [], k => ⟨Nat.le_refl _, Nat.le_refl _⟩
  | c :: cs, k => by
    unfold seek
    split
    · exact ⟨Nat.le_refl _, by simp⟩
    · have := seek_ge p cs (k + 1)
      rw [List.length_cons]
      omega
theorem seek_hit (p : PP) : ∀ (cs : List Cll) (k : Nat), (∀ j c, j < seek p cs k - k → cs[j]? = some c → p c = false) ∧ ∀ c, cs[seek p cs k - k]? = some c → p c = true
  | [], k => ⟨fun j c h => by simp [seek] at h, fun c h => by simp at h⟩
  | c :: cs, k => by
    unfold seek
    split
    · rename_i h
      refine ⟨fun j d q => by simp at q, fun d q => ?_⟩
      rw [Nat.sub_self] at q
      simp at q
      rw [← q]; exact h
    · rename_i h
      have ih := seek_hit p cs (k + 1)
      have g := seek_ge p cs (k + 1)
      obtain ⟨m, hm⟩ : ∃ m, seek p cs (k + 1) = k + 1 + m := ⟨seek p cs (k + 1) - (k + 1), by omega⟩
      rw [hm] at ih ⊢
      rw [show k + 1 + m - (k + 1) = m from by omega] at ih
      rw [show k + 1 + m - k = m + 1 from by omega]
      refine ⟨fun j d q e => ?_, fun d q => ih.2 d (by simpa using q)⟩
      cases j with
      | zero => simp at e; rw [← e]; simpa using h
      | succ j => exact ih.1 j d (by omega) (by simpa using e)
/-! all lists of rising places -/
/-- places ks at which the patterns hold, rising, from k on -/
def goodL (cs : List Cll) : List PP → Nat → List Nat → Prop
  | [], _, ks => ks = []
  | p :: ps, k, ks => ∃ j r, ks = j :: r ∧ k ≤ j ∧ (∃ c, cs[j]? = some c ∧ p c = true) ∧ goodL cs ps (j + 1) r
theorem goodL_weak {cs : List Cll} : ∀ {ps : List PP} {k k' : Nat} {ks : List Nat}, k' ≤ k → goodL cs ps k ks → goodL cs ps k' ks
  | [], _, _, _, _, h => h
  | p :: ps, k, k', ks, l, ⟨j, r, e, h1, h2, h3⟩ => ⟨j, r, e, by omega, h2, h3⟩
theorem goodL_len {cs : List Cll} : ∀ {ps : List PP} {k : Nat} {ks : List Nat}, goodL cs ps k ks → ks.length = ps.length
  | [], _, _, h => by rw [h]; rfl
  | p :: ps, k, ks, ⟨j, r, e, _, _, h⟩ => by rw [e, List.length_cons, List.length_cons, goodL_len h]
/-- what ordP tells is good, and least; it tells none where there is none -/
theorem ordP_is (cs0 : List Cll) : ∀ (ps : List PP) (cs : List Cll) (k : Nat), cs = cs0.drop k → match ordP ps cs k with
    | some ks => goodL cs0 ps k ks ∧ ∀ ks', goodL cs0 ps k ks' → ks' = ks ∨ ks < ks'
    | none => ∀ ks', ¬ goodL cs0 ps k ks'
  | [], cs, k, _ => ⟨rfl, fun ks' h => .inl h⟩
  | p :: ps, cs, k, e => by
    have g := seek_ge p cs k
    have hh := seek_hit p cs k
    have at_ : ∀ j, cs[j]? = cs0[k + j]? := fun j => by rw [e, List.getElem?_drop]
    unfold ordP
    generalize seek p cs k - k = j at hh
    simp only
    by_cases hj : j < cs.length
    · rw [if_pos hj]
      have ih := ordP_is cs0 ps (cs.drop (j + 1)) (k + j + 1) (by rw [e, List.drop_drop]; congr 1)
      have hc : cs[j]? = some cs[j] := List.getElem?_eq_getElem hj
      have hp := hh.2 _ hc
      -- no good list begins ahead of k + j
      have ahead : ∀ j' r, goodL cs0 (p :: ps) k (j' :: r) → k + j ≤ j' := fun j' r ⟨a, b, e1, h1, ⟨c, h2, h3⟩, _⟩ => by
        cases e1
        by_cases q : k + j ≤ j'
        · exact q
        · have := hh.1 (j' - k) c (by omega) (by rw [at_, show k + (j' - k) = j' from by omega]; exact h2)
          rw [h3] at this; cases this
      cases ho : ordP ps (cs.drop (j + 1)) (k + j + 1) with
      | none =>
        rw [ho] at ih
        intro ks' hk
        obtain ⟨a, b, e1, h1, h2, h3⟩ := id hk
        subst e1
        have := ahead a b hk
        exact ih b (goodL_weak (by omega) h3)
      | some r =>
        rw [ho] at ih
        refine ⟨⟨k + j, r, rfl, by omega, ⟨_, by rw [← at_]; exact hc, hp⟩, ih.1⟩, fun ks' hk => ?_⟩
        obtain ⟨a, b, e1, h1, h2, h3⟩ := id hk
        subst e1
        have hle := ahead a b hk
        by_cases q : a = k + j
        · subst q
          rcases ih.2 b h3 with z | z
          · left; rw [z]
          · right; exact List.Lex.cons z
        · right; exact List.Lex.rel (by omega)
    · rw [if_neg hj]
      intro ks' ⟨a, b, e1, h1, ⟨c, h2, h3⟩, _⟩
      have hl : k + cs.length = max k cs0.length := by rw [e, List.length_drop]; omega
      have hlt : a < cs0.length := by
        have := (List.getElem?_eq_some_iff.mp h2).1
        exact this
      have := hh.1 (a - k) c (by omega) (by rw [at_, show k + (a - k) = a from by omega]; exact h2)
      rw [h3] at this; cases this
end Pu

namespace Pu
open PySem PySem.Spec PyProof.Rows L2
variable [MemoSpec]
/-! ### the walk of in_order -/
structure PtOk (F : List PyData → R PyData) (cs : List Cll) (x : PyData × PP) : Prop where
  fits : ∀ c ∈ cs, F [x.1, c.D] = .ok (.bool (x.2 c))
def ordCond (F : List PyData → R PyData) : Ro → R Bool := (dAnd (dTest (dBin ltD (dVar 4) (dCall lenD (dCons (dVar 0) dNil)))) (dNot (dTest (dCallF 2 F (dCons (dVar 2) (dCons (dBin ixD (dVar 0) (dVar 4)) dNil))))))
def ordStep : Ro → Fl := (sAsg (dBin addD (dVar 4) (dC (.int 1))) (bName 4))
def ordBody (F : List PyData → R PyData) : Ro → Fl := (sSeq (whileGo (ordCond F) ordStep 1000)
    (sSeq (sIf (dTest (dBin eqD (dVar 4) (dCall lenD (dCons (dVar 0) dNil)))) (sRet (dC .none)) sNil)
    (sSeq (sApp 3 (dVar 4))
    (sAsg (dBin addD (dVar 4) (dC (.int 1))) (bName 4)))))
theorem ord_cond {F : List PyData → R PyData} {cs : List Cll} {x : PyData × PP} (hx : PtOk F cs x) {k : Nat} (hk : k ≤ cs.length) (a1 a3 : Option Cel) : ordCond F [some (.fz (.list (cs.map Cll.D))), a1, some (.fz x.1), a3, some (.fz (natD k))] = .ok (match cs[k]? with | some c => !x.2 c | none => false) := by
  unfold ordCond natD
  by_cases h : k < cs.length
  · have e : cs[k]? = some cs[k] := List.getElem?_eq_getElem h
    have e2 : atI (cs.map Cll.D) (k : Int) = some cs[k].D := atI_n (by rw [List.getElem?_map, e]; rfl)
    have f := hx.fits _ (List.getElem_mem h)
    have h' : (k : Int) < cs.length := by omega
    rw [e]
    simp [h', e2, f]
  · have e : cs[k]? = none := List.getElem?_eq_none (by omega)
    have h' : ¬ (k : Int) < cs.length := by omega
    rw [e]
    simp [h']
theorem ord_while {F : List PyData → R PyData} {cs : List Cll} {x : PyData × PP} (hx : PtOk F cs x) (a1 a3 : Option Cel) : ∀ (n k : Nat), k ≤ cs.length → cs.length - k < n → whileGo (ordCond F) ordStep n [some (.fz (.list (cs.map Cll.D))), a1, some (.fz x.1), a3, some (.fz (natD k))] = .nx [some (.fz (.list (cs.map Cll.D))), a1, some (.fz x.1), a3, some (.fz (natD (seek x.2 (cs.drop k) k)))]
  | 0, _, _, h => by omega
  | n + 1, k, hk, h => by
    have c := ord_cond hx hk a1 a3
    by_cases hl : k < cs.length
    · have e : cs[k]? = some cs[k] := List.getElem?_eq_getElem hl
      have d : cs.drop k = cs[k] :: cs.drop (k + 1) := List.drop_eq_getElem_cons hl
      rw [e] at c
      simp only at c
      rw [d]
      unfold seek
      cases q : x.2 cs[k] with
      | true =>
        rw [q] at c
        rw [whileGo_stop c]
        simp
      | false =>
        rw [q] at c
        have s : ordStep [some (.fz (.list (cs.map Cll.D))), a1, some (.fz x.1), a3, some (.fz (natD k))] = .nx [some (.fz (.list (cs.map Cll.D))), a1, some (.fz x.1), a3, some (.fz (natD (k + 1)))] := by
          unfold ordStep natD
          simp
        rw [whileGo_go c s, ord_while hx a1 a3 n (k + 1) (by omega) (by omega)]
        simp
    · have e : cs[k]? = none := List.getElem?_eq_none (by omega)
      rw [e] at c
      rw [whileGo_stop c, List.drop_eq_nil_of_le (by omega)]
      rfl
theorem ord_loop {F : List PyData → R PyData} {cs : List Cll} (h20 : cs.length ≤ 900) (a1 : Option Cel) : ∀ (pts : List (PyData × PP)) (k : Nat) (made : List Nat) (a2 : Option Cel), (∀ x ∈ pts, PtOk F cs x) → k ≤ cs.length → made.length + pts.length ≤ 1000 →
    match ordP (pts.map Prod.snd) (cs.drop k) k with
    | some ks => ∃ b2 b4, forGo (bName 2) (ordBody F) [some (.fz (.list (cs.map Cll.D))), a1, a2, some (.ow (.list (made.map natD))), some (.fz (natD k))] (pts.map Prod.fst) = .nx [some (.fz (.list (cs.map Cll.D))), a1, b2, some (.ow (.list ((made ++ ks).map natD))), b4]
    | none => forGo (bName 2) (ordBody F) [some (.fz (.list (cs.map Cll.D))), a1, a2, some (.ow (.list (made.map natD))), some (.fz (natD k))] (pts.map Prod.fst) = .rt .none
  | [], k, made, a2, _, _, _ => by
    simp only [List.map_nil, ordP, forGo_n, List.append_nil]
    exact ⟨_, _, rfl⟩
  | x :: pts, k, made, a2, hp, hk, hm => by
    have g := seek_ge x.2 (cs.drop k) k
    have w := ord_while (hp x (by simp)) a1 (some (.ow (.list (made.map natD)))) 1000 k hk (by omega)
    rw [List.length_drop] at g
    obtain ⟨j, hj⟩ : ∃ j, seek x.2 (cs.drop k) k = k + j := ⟨seek x.2 (cs.drop k) k - k, by omega⟩
    rw [hj] at w g
    rw [List.map_cons, List.map_cons]
    unfold ordP
    rw [hj]
    simp only [Nat.add_sub_cancel_left]
    rw [List.length_drop, List.drop_drop]
    have b0 : bName 2 x.1 [some (.fz (.list (cs.map Cll.D))), a1, a2, some (.ow (.list (made.map natD))), some (.fz (natD k))] = some [some (.fz (.list (cs.map Cll.D))), a1, some (.fz x.1), some (.ow (.list (made.map natD))), some (.fz (natD k))] := rfl
    by_cases h : j < cs.length - k
    · rw [if_pos h]
      have hne : ¬ ((k + j : Nat) : Int) = cs.length := by omega
      have hle : made.length < 1000000 := by rw [List.length_cons] at hm; omega
      have st : ordBody F [some (.fz (.list (cs.map Cll.D))), a1, some (.fz x.1), some (.ow (.list (made.map natD))), some (.fz (natD k))] = .nx [some (.fz (.list (cs.map Cll.D))), a1, some (.fz x.1), some (.ow (.list ((made ++ [k + j]).map natD))), some (.fz (natD (k + j + 1)))] := by
        unfold ordBody
        refine st_nx w (st_no ?_ ?_)
        · have q : ¬ (k : Int) + j = cs.length := by omega
          simp [natD, q]
        · simp [sApp, ownL, hle, natD]
      have ih := ord_loop h20 a1 pts (k + j + 1) (made ++ [k + j]) (some (.fz x.1)) (fun y hy => hp y (by simp [hy])) (by omega) (by rw [List.length_append, List.length_cons, List.length_nil]; rw [List.length_cons] at hm; omega)
      rw [show k + (j + 1) = k + j + 1 from by omega]
      cases ho : ordP (pts.map Prod.snd) (cs.drop (k + j + 1)) (k + j + 1) with
      | none =>
        rw [ho] at ih
        simp only [Option.map_none]
        rw [forGo.eq_2, b0]
        simp only [st]
        exact ih
      | some ks =>
        rw [ho] at ih
        obtain ⟨b2, b4, ih⟩ := ih
        simp only [Option.map_some]
        refine ⟨b2, b4, ?_⟩
        rw [forGo.eq_2, b0]
        simp only [st]
        rw [List.append_assoc] at ih
        exact ih
    · rw [if_neg h]
      simp only
      have st : ordBody F [some (.fz (.list (cs.map Cll.D))), a1, some (.fz x.1), some (.ow (.list (made.map natD))), some (.fz (natD k))] = .rt .none := by
        unfold ordBody
        refine st_nx w (st_ret ?_)
        have q : (k : Int) + j = cs.length := by omega
        simp [natD, q]
      rw [forGo.eq_2, b0]
      simp only [st]
def ordD : Option (List Nat) → PyData
  | some ks => .list (ks.map natD)
  | none => .none
theorem forGo_needs {G : List PyData → R PyData} : ∀ {ds : List PyData}, (∀ d ∈ ds, G [d] = .ok .none) → ∀ (a b c d e : Option Cel), ∃ c', forGo (bName 2) (sExpr (dCallF 1 G (dCons (dVar 2) dNil))) [a, b, c, d, e] ds = .nx [a, b, c', d, e]
  | [], _, a, b, c, d, e => ⟨c, rfl⟩
  | x :: xs, hg, a, b, c, d, e => by
    obtain ⟨c', e1⟩ := forGo_needs (ds := xs) (fun d hd => hg d (by simp [hd])) a b (some (.fz x)) d e
    refine ⟨c', ?_⟩
    simp [forGo, hg x (by simp)]
    exact e1
theorem ord_core {gn gp F : List PyData → R PyData} {cs : List Cll} {pts : List (PyData × PP)} (h20 : cs.length ≤ 900) (hp : ∀ x ∈ pts, PtOk F cs x) (hl : pts.length ≤ 1000) (e1 : gn [.list (cs.map Cll.D)] = .ok .none) (e2 : ∀ x ∈ pts, gp [x.1] = .ok .none) :
    runD 5 (fb_in_order gn gp F) [.list (cs.map Cll.D), .list (pts.map Prod.fst)] = .ok (ordD (ordP (pts.map Prod.snd) cs 0)) := by
  obtain ⟨c', f1⟩ := forGo_needs (G := gp) (ds := pts.map Prod.fst) (fun d hd => by obtain ⟨x, hx, rfl⟩ := List.mem_map.mp hd; exact e2 x hx) (some (.fz (.list (cs.map Cll.D)))) (some (.fz (.list (pts.map Prod.fst)))) none none none
  have f2 := ord_loop h20 (some (.fz (.list (pts.map Prod.fst)))) pts 0 [] c' hp (by omega) (by simpa using hl)
  rw [List.drop_zero] at f2
  refine runD_rt ?_
  unfold fb_in_order
  simp only [startR, List.map_cons, List.map_nil, List.length_cons, List.length_nil, List.cons_append, List.nil_append, List.replicate]
  refine st_ex (d := .none) (by simp [e1]) (st_no (by simp [isi_lst, isLst]) ?_)
  refine st_for (ds := pts.map Prod.fst) (by simp) f1 ?_
  refine st_setL (v := []) (by simp) (by simp) ?_
  simp only [List.set]
  refine st_set (v := natD 0) (by simp [natD]) ?_
  simp only [List.set]
  cases ho : ordP (pts.map Prod.snd) cs 0 with
  | none =>
    rw [ho] at f2
    refine st_ret ?_
    unfold ordBody ordCond ordStep at f2
    simp only [List.map_nil] at f2
    simp [f2, ordD]
  | some ks =>
    rw [ho] at f2
    obtain ⟨b2, b4, f2⟩ := f2
    rw [List.nil_append] at f2
    refine st_for (ds := pts.map Prod.fst) (by simp) f2 ?_
    simp [sFrz, ordD]
theorem in_order_eq {cs : List Cll} (hc : ∀ c ∈ cs, c.ok) (hl : cs.length ≤ 20) {ws : List Wish} (hw : ∀ w ∈ ws, w.ok) (h4 : ws.length ≤ 100) : F_in_order [.list (cs.map Cll.D), .list (ws.map fun w => patD w.method w.args)] = .ok (ordD (ordP (ws.map fun w => w.likes) cs 0)) := by
  have := ord_core (gn := F_need_calls) (gp := F_need_pattern) (F := F_fits_call) (cs := cs) (pts := ws.map fun w => (patD w.method w.args, w.likes)) (by omega) (fun x hx => by
    obtain ⟨w, hm, rfl⟩ := List.mem_map.mp hx
    exact ⟨fun c k => fits_call_eq (hw w hm).args (hw w hm).few (hc c k)⟩) (by rw [List.length_map]; omega) (need_calls_ok hc hl) (fun x hx => by
    obtain ⟨w, hm, rfl⟩ := List.mem_map.mp hx
    exact need_pattern_ok (hw w hm).method (hw w hm).few (hw w hm).args)
  rw [List.map_map, List.map_map] at this
  exact this
end Pu

namespace Pu
open PySem PySem.Spec PyProof.Rows L2
variable [MemoSpec]
/-! ### all lists of rising places, as the law makes them -/
def nextOf (one : List Nat) : Nat := match one.getLast? with | some j => j + 1 | none => 0
def growOne (row : List Nat) (one : List Nat) : List (List Nat) := (row.filter fun j => decide (nextOf one ≤ j)).map fun j => one ++ [j]
def grow (made : List (List Nat)) (row : List Nat) : List (List Nat) := made.flatMap (growOne row)
def listsOf (rows : List (List Nat)) : List (List Nat) := rows.foldl grow [[]]
def goodR : List (List Nat) → Nat → List Nat → Prop
  | [], _, ks => ks = []
  | row :: rows, k, ks => ∃ j r, ks = j :: r ∧ k ≤ j ∧ j ∈ row ∧ goodR rows (j + 1) r
theorem nextOf_snoc (one : List Nat) (j : Nat) : nextOf (one ++ [j]) = j + 1 := by
  unfold nextOf
  rw [List.getLast?_append]
  rfl
theorem mem_fold : ∀ (rows : List (List Nat)) (made : List (List Nat)) (ks : List Nat), ks ∈ rows.foldl grow made ↔ ∃ one ∈ made, ∃ r, ks = one ++ r ∧ goodR rows (nextOf one) r
  | [], made, ks => by
    rw [List.foldl_nil]
    constructor
    · intro h; exact ⟨ks, h, [], by simp, rfl⟩
    · rintro ⟨one, h, r, e, h2⟩
      have h2 : r = [] := h2
      rw [e, h2, List.append_nil]; exact h
  | row :: rows, made, ks => by
    rw [List.foldl_cons, mem_fold rows]
    constructor
    · rintro ⟨one, h, r, e, h2⟩
      unfold grow at h
      obtain ⟨one0, h3, h4⟩ := List.mem_flatMap.mp h
      unfold growOne at h4
      obtain ⟨j, h5, h6⟩ := List.mem_map.mp h4
      obtain ⟨h7, h8⟩ := List.mem_filter.mp h5
      subst h6
      rw [nextOf_snoc] at h2
      exact ⟨one0, h3, j :: r, by rw [e]; simp, j, r, rfl, by simpa using h8, h7, h2⟩
    · rintro ⟨one, h, r, e, j, r2, e2, h3, h4, h5⟩
      refine ⟨one ++ [j], List.mem_flatMap.mpr ⟨one, h, List.mem_map.mpr ⟨j, List.mem_filter.mpr ⟨h4, by simpa using h3⟩, rfl⟩⟩, r2, by rw [e, e2]; simp, by rw [nextOf_snoc]; exact h5⟩
theorem mem_where {α : Type} (p : α → Bool) : ∀ (cs : List α) (k j : Nat), j ∈ whereB p k cs ↔ ∃ c, k ≤ j ∧ cs[j - k]? = some c ∧ p c = true
  | [], k, j => by simp [whereB]
  | c :: cs, k, j => by
    have ih := mem_where p cs (k + 1) j
    unfold whereB
    have low : j ∈ whereB p (k + 1) cs → k + 1 ≤ j := fun h => by obtain ⟨_, h1, _⟩ := ih.mp h; exact h1
    constructor
    · intro h
      have h' : (j = k ∧ p c = true) ∨ j ∈ whereB p (k + 1) cs := by
        split at h
        · rename_i q
          rcases List.mem_cons.mp h with e | e
          · exact .inl ⟨e, q⟩
          · exact .inr e
        · exact .inr h
      rcases h' with ⟨e, q⟩ | e
      · subst e
        exact ⟨c, Nat.le_refl _, by simp, q⟩
      · obtain ⟨d, h1, h2, h3⟩ := ih.mp e
        refine ⟨d, by omega, ?_, h3⟩
        rw [show j - k = (j - (k + 1)) + 1 from by omega, List.getElem?_cons_succ]
        exact h2
    · rintro ⟨d, h1, h2, h3⟩
      by_cases e : j = k
      · subst e
        rw [Nat.sub_self] at h2
        simp at h2
        subst h2
        rw [if_pos h3]
        exact List.mem_cons_self
      · have : j ∈ whereB p (k + 1) cs := ih.mpr ⟨d, by omega, by rw [show j - k = (j - (k + 1)) + 1 from by omega, List.getElem?_cons_succ] at h2; exact h2, h3⟩
        split
        · exact List.mem_cons_of_mem _ this
        · exact this
theorem good_rows (cs : List Cll) : ∀ (ps : List PP) (k : Nat) (ks : List Nat), goodR (ps.map fun p => whereB p 0 cs) k ks ↔ goodL cs ps k ks
  | [], _, _ => Iff.rfl
  | p :: ps, k, ks => by
    rw [List.map_cons]
    constructor
    · rintro ⟨j, r, e, h1, h2, h3⟩
      obtain ⟨c, _, h4, h5⟩ := (mem_where p cs 0 j).mp h2
      exact ⟨j, r, e, h1, ⟨c, by simpa using h4, h5⟩, (good_rows cs ps _ _).mp h3⟩
    · rintro ⟨j, r, e, h1, ⟨c, h4, h5⟩, h3⟩
      exact ⟨j, r, e, h1, (mem_where p cs 0 j).mpr ⟨c, by omega, by simpa using h4, h5⟩, (good_rows cs ps _ _).mpr h3⟩
theorem mem_lists (cs : List Cll) (ps : List PP) (ks : List Nat) : ks ∈ listsOf (ps.map fun p => whereB p 0 cs) ↔ goodL cs ps 0 ks := by
  unfold listsOf
  rw [mem_fold]
  constructor
  · rintro ⟨one, h, r, e, h2⟩
    have : one = [] := by simpa using h
    subst this
    rw [List.nil_append] at e
    subst e
    exact (good_rows cs ps 0 _).mp h2
  · intro h
    exact ⟨[], by simp, ks, rfl, (good_rows cs ps 0 ks).mpr h⟩
theorem where_len {α : Type} (p : α → Bool) : ∀ (cs : List α) (k : Nat), (whereB p k cs).length ≤ cs.length
  | [], _ => Nat.le_refl _
  | c :: cs, k => by
    have := where_len p cs (k + 1)
    unfold whereB
    split
    · rw [List.length_cons, List.length_cons]; omega
    · rw [List.length_cons]; omega
theorem growOne_len (row one : List Nat) : (growOne row one).length ≤ row.length := by
  unfold growOne
  rw [List.length_map]
  exact List.length_filter_le _ _
theorem grow_len (row : List Nat) : ∀ made : List (List Nat), (grow made row).length ≤ made.length * row.length
  | [] => by simp [grow]
  | one :: made => by
    have := grow_len row made
    have h := growOne_len row one
    unfold grow at *
    rw [List.flatMap_cons, List.length_append, List.length_cons, Nat.succ_mul]
    omega
/-! the walk -/
def oneD (one : List Nat) : PyData := .list (one.map natD)
def listsInner : Ro → Fl := (sExt 3 (dLc (dItems (dVar 2)) (bName 5) (dOr (dTest (dBin eqD (dVar 4) (dAsL (dLst dNil)))) (dTest (dBin gtD (dVar 5) (dBin ixD (dVar 4) (dUn negD (dC (.int 1))))))) (dAsL (dCat (dOfD (dVar 4)) (dLst (dCons (dVar 5) dNil)))) [5]))
def listsBody : Ro → Fl := (sSeq (sAsgL 3 (dLst dNil))
    (sSeq (sFor (dItems (dVar 1)) (bName 4) listsInner)
    (sFrz 3 (sAsg (dVar 3) (bName 1)))))
theorem last_neg {one : List Nat} {j : Nat} (h : one.getLast? = some j) : atI (one.map natD) (-1) = some (natD j) := by
  have hne : one ≠ [] := fun e => by rw [e] at h; cases h
  obtain ⟨l, e⟩ : ∃ l, one = l ++ [j] := ⟨one.dropLast, by rw [List.getLast?_eq_some_getLast hne] at h; cases h; exact (List.dropLast_concat_getLast hne).symm⟩
  subst e
  rw [List.map_append]
  unfold atI
  have hl : (l.map natD ++ [natD j]).length = l.length + 1 := by simp
  have hx : ixN (l.length + 1) (-1) = some l.length := by
    unfold ixN
    simp
    try omega
  show (ixN (l.map natD ++ [natD j]).length (-1)).bind _ = _
  rw [hl, hx]
  simp
theorem inner_test (one : List Nat) (j : Nat) (a0 a1 a2 a3 : Option Cel) : (dOr (dTest (dBin eqD (dVar 4) (dAsL (dLst dNil)))) (dTest (dBin gtD (dVar 5) (dBin ixD (dVar 4) (dUn negD (dC (.int 1))))))) [a0, a1, a2, a3, some (.fz (oneD one)), some (.fz (natD j))] = .ok (decide (nextOf one ≤ j)) := by
  have e1 := eqD_nil (okd_ints one)
  unfold oneD nextOf
  cases h : one.getLast? with
  | none =>
    have : one = [] := by simpa using h
    subst this
    simp at e1 ⊢
    simp [e1]
  | some l =>
    have hne : (one.map natD).isEmpty = false := by
      cases one with
      | nil => cases h
      | cons a b => rfl
    rw [hne] at e1
    have e2 := last_neg h
    have e3 : negD (.int 1) = some (.int (-1)) := rfl
    simp [e1, e2, natD]
    by_cases q : l + 1 ≤ j
    · have q' : (l : Int) < j := by omega
      simp [q, q']; try omega
    · have q' : ¬ (l : Int) < j := by omega
      simp [q, q']; try omega
end Pu

namespace Pu
open PySem PySem.Spec PyProof.Rows L2
variable [MemoSpec]
theorem lists_inner (row one : List Nat) (acc : List (List Nat)) (hr : row.length ≤ 1000) (h1 : one.length ≤ 1000) (ha : acc.length + (growOne row one).length ≤ 100000) (a0 a1 : Option Cel) :
    listsInner [a0, a1, some (.fz (.list (row.map natD))), some (.ow (.list (acc.map oneD))), some (.fz (oneD one)), none] = .nx [a0, a1, some (.fz (.list (row.map natD))), some (.ow (.list ((acc ++ growOne row one).map oneD))), some (.fz (oneD one)), none] := by
  have f1 : lcGo (bName 5) (dOr (dTest (dBin eqD (dVar 4) (dAsL (dLst dNil)))) (dTest (dBin gtD (dVar 5) (dBin ixD (dVar 4) (dUn negD (dC (.int 1))))))) (dAsL (dCat (dOfD (dVar 4)) (dLst (dCons (dVar 5) dNil)))) [a0, a1, some (.fz (.list (row.map natD))), some (.ow (.list (acc.map oneD))), some (.fz (oneD one)), none] (row.map natD) = some ((row.filter fun j => decide (nextOf one ≤ j)).map fun j => oneD (one ++ [j])) :=
    lcGo_filter fun j _ => ⟨[a0, a1, some (.fz (.list (row.map natD))), some (.ow (.list (acc.map oneD))), some (.fz (oneD one)), some (.fz (natD j))], rfl, inner_test one j _ _ _ _, by
      have l1 : one.length ≤ 999999 := by omega
      simp [oneD, l1]⟩
  have e : (row.filter fun j => decide (nextOf one ≤ j)).map (fun j => oneD (one ++ [j])) = (growOne row one).map oneD := by
    unfold growOne
    rw [List.map_map]
    rfl
  rw [e] at f1
  have g : dLc (dItems (dVar 2)) (bName 5) (dOr (dTest (dBin eqD (dVar 4) (dAsL (dLst dNil)))) (dTest (dBin gtD (dVar 5) (dBin ixD (dVar 4) (dUn negD (dC (.int 1))))))) (dAsL (dCat (dOfD (dVar 4)) (dLst (dCons (dVar 5) dNil)))) [5] [a0, a1, some (.fz (.list (row.map natD))), some (.ow (.list (acc.map oneD))), some (.fz (oneD one)), none] = .ok ((growOne row one).map oneD) :=
    dLc_go (ds := row.map natD) (by simp) (by rw [List.length_map]; omega) f1
  unfold listsInner
  have l2 : acc.length + (growOne row one).length ≤ 1000000 := by omega
  unfold sExt ownL
  rw [g]
  simp [l2]
theorem lists_body (row : List Nat) (made : List (List Nat)) (hr : row.length ≤ 8) (hm : made.length ≤ 10000) (h1 : ∀ one ∈ made, one.length ≤ 1000) (a0 a3 a4 : Option Cel) :
    ∃ b3 b4, listsBody [a0, some (.fz (.list (made.map oneD))), some (.fz (.list (row.map natD))), a3, a4, none] = .nx [a0, some (.fz (.list ((grow made row).map oneD))), some (.fz (.list (row.map natD))), b3, b4, none] := by
  obtain ⟨ρ', e, b4, rfl⟩ := forGo_accB (b := bName 4) (body := listsInner) (D := oneD) (f := growOne row) (fun (acc : List (List Nat)) ρ => ∃ b4, ρ = [a0, some (.fz (.list (made.map oneD))), some (.fz (.list (row.map natD))), some (.ow (.list (acc.map oneD))), b4, none]) 8 100000 (xs := made) (acc := []) (fun one _ => Nat.le_trans (growOne_len row one) hr) (by simp; omega)
    (fun one hone acc ρ hl ⟨b4, h⟩ => by
      subst h
      exact ⟨_, _, rfl, lists_inner row one acc (by omega) (h1 one hone) hl _ _, _, rfl⟩) ⟨a4, rfl⟩
  refine ⟨some (.fz (.list ((grow made row).map oneD))), b4, ?_⟩
  unfold listsBody
  refine st_setL (v := []) (by simp) (by simp) ?_
  simp only [List.set]
  refine st_for (ds := made.map oneD) (by simp) e ?_
  rw [List.nil_append]
  simp [sFrz, grow]
theorem lists_loop : ∀ (rows : List (List Nat)) (made : List (List Nat)) (n : Nat), rows.length ≤ n → n ≤ 4 → (∀ row ∈ rows, row.length ≤ 8) → made.length * 8 ^ n ≤ 10000 → (∀ one ∈ made, one.length + rows.length ≤ 1000) → ∀ (a0 a2 a3 a4 : Option Cel),
    ∃ b2 b3 b4, forGo (bName 2) listsBody [a0, some (.fz (.list (made.map oneD))), a2, a3, a4, none] (rows.map fun r => .list (r.map natD)) = .nx [a0, some (.fz (.list ((rows.foldl grow made).map oneD))), b2, b3, b4, none]
  | [], made, _, _, _, _, _, _, a0, a2, a3, a4 => ⟨a2, a3, a4, rfl⟩
  | row :: rows, made, 0, h, _, _, _, _, a0, a2, a3, a4 => by simp at h
  | row :: rows, made, n + 1, h, h4, hr, hm, h1, a0, a2, a3, a4 => by
    have hr0 := hr row (by simp)
    have hp : 0 < 8 ^ n := Nat.pow_pos (by omega)
    have hmm : made.length * 8 * 8 ^ n ≤ 10000 := by rw [Nat.mul_assoc, Nat.mul_comm 8, ← Nat.pow_succ]; exact hm
    have hml : made.length ≤ 10000 := by
      have := Nat.le_trans (Nat.le_mul_of_pos_right (made.length * 8) hp) hmm
      omega
    obtain ⟨b3, b4, e⟩ := lists_body row made hr0 hml (fun one k => by have := h1 one k; omega) a0 a3 a4
    have gl := grow_len row made
    have gl2 : (grow made row).length ≤ made.length * 8 := Nat.le_trans gl (Nat.mul_le_mul_left _ hr0)
    obtain ⟨c2, c3, c4, ih⟩ := lists_loop rows (grow made row) n (by simpa using h) (by omega) (fun r k => hr r (by simp [k])) (Nat.le_trans (Nat.mul_le_mul_right _ gl2) hmm) (fun one k => by
      unfold grow at k
      obtain ⟨one0, k1, k2⟩ := List.mem_flatMap.mp k
      unfold growOne at k2
      obtain ⟨j, _, rfl⟩ := List.mem_map.mp k2
      have := h1 one0 k1
      rw [List.length_cons] at this
      rw [List.length_append, List.length_cons, List.length_nil]
      omega) a0 (some (.fz (.list (row.map natD)))) b3 b4
    refine ⟨c2, c3, c4, ?_⟩
    rw [List.map_cons, List.foldl_cons]
    have b0 : bName 2 (.list (row.map natD)) [a0, some (.fz (.list (made.map oneD))), a2, a3, a4, none] = some [a0, some (.fz (.list (made.map oneD))), some (.fz (.list (row.map natD))), a3, a4, none] := rfl
    rw [forGo.eq_2, b0]
    simp only [e]
    exact ih
abbrev F_law_lists := runD 6 fb_law_lists
theorem lists_eq {rows : List (List Nat)} (h4 : rows.length ≤ 4) (hr : ∀ row ∈ rows, row.length ≤ 8) : F_law_lists [.list (rows.map fun r => .list (r.map natD))] = .ok (.list ((listsOf rows).map oneD)) := by
  obtain ⟨b2, b3, b4, e⟩ := lists_loop rows [[]] 4 h4 (by omega) hr (by decide) (fun one k => by
    have : one = [] := by simpa using k
    rw [this]; simp; omega) (some (.fz (.list (rows.map fun r => .list (r.map natD))))) none none none
  refine runD_rt ?_
  unfold fb_law_lists
  simp only [startR, List.map_cons, List.map_nil, List.length_cons, List.length_nil, List.cons_append, List.nil_append, List.replicate]
  refine st_set (v := .list (([[]] : List (List Nat)).map oneD)) (by simp [oneD]) ?_
  simp only [List.set]
  refine st_for (by simp) e ?_
  unfold listsOf
  simp
/-! the least of lists of numbers -/
theorem lex_cast : ∀ xs ys : List Nat, ((xs.map fun (n : Nat) => (n : Int)) < (ys.map fun (n : Nat) => (n : Int))) ↔ xs < ys
  | [], [] => by simp
  | [], y :: ys => by simp
  | x :: xs, [] => by simp
  | x :: xs, y :: ys => by
    rw [List.map_cons, List.map_cons, List.cons_lt_cons_iff, List.cons_lt_cons_iff, lex_cast xs ys]
    constructor
    · rintro (h | ⟨h, q⟩)
      · exact .inl (by omega)
      · exact .inr ⟨by omega, q⟩
    · rintro (h | ⟨h, q⟩)
      · exact .inl (by omega)
      · exact .inr ⟨by omega, q⟩
theorem lt_oneD (xs ys : List Nat) : PySem.W.dataLt (oneD xs) (oneD ys) = decide (xs < ys) := by
  have h := PySem.W.dataLt_ints (xs.map fun (n : Nat) => (n : Int)) (ys.map fun (n : Nat) => (n : Int))
  unfold oneD
  rw [natD_map, natD_map]
  show PySem.W.rowLt _ _ = _
  rw [h]
  exact decide_eq_decide.mpr (lex_cast xs ys)
theorem alike_oneD (xs ys : List Nat) : PySem.W.alike (oneD xs) (oneD ys) = true := by
  unfold oneD
  rw [natD_map, natD_map]
  show PySem.W.alikeAll _ _ = true
  exact PySem.W.alike_ints _ _
theorem nodicts_map {α : Type} {D : α → PyData} (h : ∀ x, nodict (D x) = true) : ∀ xs : List α, nodicts (xs.map D) = true
  | [] => rfl
  | x :: xs => by show (nodict (D x) && nodicts (xs.map D)) = true; rw [h x, nodicts_map h xs]; rfl
theorem depthAll_map {α : Type} {D : α → PyData} {n : Nat} (h : ∀ x, (D x).depth ≤ n) : ∀ xs : List α, PyData.depthAll (xs.map D) ≤ n
  | [] => Nat.zero_le _
  | x :: xs => by
    rw [List.map_cons]
    unfold PyData.depthAll
    exact Nat.max_le.mpr ⟨h x, depthAll_map h xs⟩
theorem nodict_oneD (xs : List Nat) : nodict (oneD xs) = true := by
  unfold oneD
  show nodicts (xs.map natD) = true
  exact nodicts_map (fun _ => rfl) xs
theorem depth_oneD (xs : List Nat) : (oneD xs).depth ≤ 1 := by
  unfold oneD PyData.depth
  have := depthAll_map (D := natD) (n := 0) (fun _ => Nat.le_refl _) xs
  omega
theorem cmpB_ones (xs : List (List Nat)) : cmpB (xs.map oneD) = true := by
  unfold cmpB
  have a : alikeB (xs.map oneD) = true := by
    unfold alikeB
    refine List.all_eq_true.mpr fun x hx => List.all_eq_true.mpr fun y hy => ?_
    obtain ⟨i, _, rfl⟩ := List.mem_map.mp hx
    obtain ⟨j, _, rfl⟩ := List.mem_map.mp hy
    exact alike_oneD i j
  have b : (xs.map oneD).all notNone = true := List.all_eq_true.mpr fun x hx => by obtain ⟨i, _, rfl⟩ := List.mem_map.mp hx; rfl
  have c := depthAll_map depth_oneD xs
  rw [a, b, nodicts_map nodict_oneD]
  simp
  omega
theorem minD_ones : ∀ (xs : List (List Nat)) (x : List Nat), ∃ m, PySem.W.minD (oneD x) (xs.map oneD) = oneD m ∧ m ∈ x :: xs ∧ ∀ y ∈ x :: xs, ¬ y < m
  | [], x => ⟨x, rfl, by simp, fun y hy => by
      have : y = x := by simpa using hy
      rw [this]; exact List.lt_irrefl x⟩
  | y :: xs, x => by
    unfold PySem.W.minD
    rw [List.map_cons, List.foldl_cons, lt_oneD]
    by_cases h : y < x
    · obtain ⟨m, e, h1, h2⟩ := minD_ones xs y
      refine ⟨m, by simp only [h, decide_true, if_true]; exact e, List.mem_cons_of_mem _ h1, fun z hz => ?_⟩
      rcases List.mem_cons.mp hz with q | q
      · subst q
        intro hlt
        exact h2 y (by simp) (List.lt_trans h hlt)
      · exact h2 z q
    · obtain ⟨m, e, h1, h2⟩ := minD_ones xs x
      refine ⟨m, by simp only [h, decide_false, Bool.false_eq_true, if_false]; exact e, ?_, fun z hz => ?_⟩
      · rcases List.mem_cons.mp h1 with q | q
        · subst q; simp
        · exact List.mem_cons_of_mem _ (List.mem_cons_of_mem _ q)
      · rcases List.mem_cons.mp hz with q | q
        · subst q; exact h2 _ (by simp)
        · rcases List.mem_cons.mp q with q | q
          · subst q
            intro hlt
            have hx := h2 x (by simp)
            have : ¬ m < x := fun w => h (List.lt_trans hlt w)
            have e9 : m = x := List.le_antisymm (show m ≤ x from hx) (show x ≤ m from this)
            subst e9
            exact h hlt
          · exact h2 z (by simp [q])
end Pu

namespace Pu
open PySem PySem.Spec PyProof.Rows L2
/-! ### samples, plain: values that stand for all others -/
def bareL : Lik → List Lik
  | .not a | .has a | .row1 a => bareL a
  | .both a b | .either a b | .row2 a b => bareL a ++ bareL b
  | .row0 => []
  | l => [l]
def toldOf : Lik → List PyData
  | .is (.tuple ds) => .tuple ds :: ds
  | .is v => [v]
  | _ => []
def toldL (ps : List Lik) : List PyData := ps.flatMap toldOf
structure LeafEq (ps : List Lik) (a b : PyData) : Prop where
  la : isLeaf a = true
  lb : isLeaf b = true
  kind : kindD a = kindD b
  told : ∀ t ∈ toldL ps, isLeaf t = true → sameL t a = sameL t b
  over : ∀ i, .over i ∈ ps → overD i a = overD i b
  beg : ∀ s, .begins s ∈ ps → beginsD s a = beginsD s b
inductive ValEq (ps : List Lik) : PyData → PyData → Prop
  | leaf {a b : PyData} : LeafEq ps a b → ValEq ps a b
  | row0 : ValEq ps (.tuple []) (.tuple [])
  | row1 {a b : PyData} : LeafEq ps a b → ValEq ps (.tuple [a]) (.tuple [b])
  | row2 {a b c d : PyData} : LeafEq ps a b → LeafEq ps c d → ValEq ps (.tuple [a, c]) (.tuple [b, d])
theorem leaf_rowN {a : PyData} (h : isLeaf a = true) : rowOf a = none := by cases a <;> first | rfl | (simp [isLeaf, isNone, isBool, isWhole, isWord] at h)
theorem leaf_notup {ds : List PyData} : isLeaf (.tuple ds) = false := rfl
theorem sameD_leaf {t a : PyData} (ha : isLeaf a = true) : sameD t a = sameL t a := by
  cases a <;> first | (cases t <;> rfl) | (simp [isLeaf, isNone, isBool, isWhole, isWord] at ha)
theorem kind_row {a : PyData} (h : isLeaf a = true) : kindD a ≠ "row" := by cases a <;> first | (simp [kindD]; done) | (simp [isLeaf, isNone, isBool, isWhole, isWord] at h)
theorem sameL_tup_leaf {ds : List PyData} {a : PyData} (h : isLeaf a = true) : sameL (.tuple ds) a = false := by
  cases a <;> first | rfl | (simp [isLeaf, isNone, isBool, isWhole, isWord] at h)
theorem told_is {ps : List Lik} {t : PyData} (h : .is t ∈ ps) : t ∈ toldL ps := by
  unfold toldL
  refine List.mem_flatMap.mpr ⟨.is t, h, ?_⟩
  cases t <;> simp [toldOf]
theorem told_tup {ps : List Lik} {ds : List PyData} (h : .is (.tuple ds) ∈ ps) : ∀ d ∈ ds, d ∈ toldL ps := fun d hd => by
  unfold toldL
  exact List.mem_flatMap.mpr ⟨.is (.tuple ds), h, by simp [toldOf, hd]⟩
theorem val_cases {t : PyData} (h : isVal t = true) : isLeaf t = true ∨ ∃ ds, t = .tuple ds ∧ ds.length ≤ 2 ∧ ∀ d ∈ ds, isLeaf d = true := by
  cases t <;> first | exact .inl h | skip
  rename_i ds
  have : (decide (ds.length ≤ 2) && ds.all isLeaf) = true := h
  rw [Bool.and_eq_true, List.all_eq_true] at this
  exact .inr ⟨ds, rfl, of_decide_eq_true this.1, this.2⟩
theorem sameL_leaf_tup {t : PyData} {ds : List PyData} (h : isLeaf t = true) : sameL t (.tuple ds) = false := by
  unfold sameL
  have : (kindD t == kindD (.tuple ds)) = false := by
    rw [beq_eq_false_iff_ne]
    exact kind_row h
  rw [this]
  rfl
theorem is_eq {ps : List Lik} {t v v' : PyData} (ht : isVal t = true) (hm : .is t ∈ ps) (h : ValEq ps v v') : sameD t v = sameD t v' := by
  rcases val_cases ht with hl | ⟨ds, rfl, _, hd⟩
  · have tm := told_is hm
    cases h with
    | leaf e => rw [sameD_leaf e.la, sameD_leaf e.lb]; exact e.told t tm hl
    | row0 => rfl
    | row1 e => cases t <;> first | (simp [leaf_notup] at hl; done) | (show sameL _ _ = sameL _ _; rw [sameL_leaf_tup hl, sameL_leaf_tup hl])
    | row2 e e2 => cases t <;> first | (simp [leaf_notup] at hl; done) | (show sameL _ _ = sameL _ _; rw [sameL_leaf_tup hl, sameL_leaf_tup hl])
  · have tm := told_tup hm
    cases h with
    | leaf e => rw [sameD_leaf e.la, sameD_leaf e.lb, sameL_tup_leaf e.la, sameL_tup_leaf e.lb]
    | row0 => rfl
    | row1 e =>
      show sameLs ds _ = sameLs ds _
      match ds, hd, tm with
      | [], _, _ => rfl
      | [x], hd, tm => simp only [sameLs]; rw [e.told x (tm x (by simp)) (hd x (by simp))]
      | x :: y :: r, hd, tm => simp only [sameLs]; simp
    | row2 e e2 =>
      show sameLs ds _ = sameLs ds _
      match ds, hd, tm with
      | [], _, _ => rfl
      | [x], hd, tm => simp only [sameLs]; simp
      | [x, y], hd, tm => simp only [sameLs]; rw [e.told x (tm x (by simp)) (hd x (by simp)), e2.told y (tm y (by simp)) (hd y (by simp))]
      | x :: y :: z :: r, hd, tm => simp only [sameLs]; simp
theorem rep_fits {ps : List Lik} : ∀ (l : Lik) {v v' : PyData}, l.ok → (∀ b ∈ bareL l, b ∈ ps) → ValEq ps v v' → l.fits v = l.fits v'
  | .any, _, _, _, _, _ => rfl
  | .is t, _, _, ho, hb, h => is_eq ho (hb _ (by simp [bareL])) h
  | .kind s, _, _, _, _, h => by
    show (kindD _ == s) = (kindD _ == s)
    cases h with
    | leaf e => rw [e.kind]
    | row0 => rfl
    | row1 e => rfl
    | row2 e e2 => rfl
  | .over i, _, _, _, hb, h => by
    cases h with
    | leaf e => exact e.over i (hb _ (by simp [bareL]))
    | row0 => rfl
    | row1 e => rfl
    | row2 e e2 => rfl
  | .begins s, _, _, _, hb, h => by
    cases h with
    | leaf e => exact e.beg s (hb _ (by simp [bareL]))
    | row0 => rfl
    | row1 e => rfl
    | row2 e e2 => rfl
  | .not a, _, _, ho, hb, h => by
    show (!a.fits _) = !a.fits _
    rw [rep_fits a ho hb h]
  | .both a b, _, _, ho, hb, h => by
    show (a.fits _ && b.fits _) = (a.fits _ && b.fits _)
    rw [rep_fits a ho.1 (fun x hx => hb x (by simp [bareL, hx])) h, rep_fits b ho.2 (fun x hx => hb x (by simp [bareL, hx])) h]
  | .either a b, _, _, ho, hb, h => by
    show (a.fits _ || b.fits _) = (a.fits _ || b.fits _)
    rw [rep_fits a ho.1 (fun x hx => hb x (by simp [bareL, hx])) h, rep_fits b ho.2 (fun x hx => hb x (by simp [bareL, hx])) h]
  | .has a, _, _, ho, hb, h => by
    cases h with
    | leaf e => simp only [Lik.fits, leaf_rowN e.la, leaf_rowN e.lb]
    | row0 => rfl
    | row1 e => simp only [Lik.fits, rowOf, List.any_cons, List.any_nil]; rw [rep_fits a ho hb (.leaf e)]
    | row2 e e2 => simp only [Lik.fits, rowOf, List.any_cons, List.any_nil]; rw [rep_fits a ho hb (.leaf e), rep_fits a ho hb (.leaf e2)]
  | .row0, _, _, _, _, h => by
    cases h with
    | leaf e => simp only [Lik.fits, leaf_rowN e.la, leaf_rowN e.lb]
    | row0 => rfl
    | row1 e => rfl
    | row2 e e2 => rfl
  | .row1 a, _, _, ho, hb, h => by
    cases h with
    | leaf e => simp only [Lik.fits, leaf_rowN e.la, leaf_rowN e.lb]
    | row0 => rfl
    | row1 e => simp only [Lik.fits, rowOf]; rw [rep_fits a ho hb (.leaf e)]
    | row2 e e2 => rfl
  | .row2 a b, _, _, ho, hb, h => by
    cases h with
    | leaf e => simp only [Lik.fits, leaf_rowN e.la, leaf_rowN e.lb]
    | row0 => rfl
    | row1 e => rfl
    | row2 e e2 => simp only [Lik.fits, rowOf]; rw [rep_fits a ho.1 (fun x hx => hb x (by simp [bareL, hx])) (.leaf e), rep_fits b ho.2 (fun x hx => hb x (by simp [bareL, hx])) (.leaf e2)]
/-! ### which leaves stand for all -/
def knownT (ps : List Lik) (w : Str) : Prop := .str w ∈ toldL ps ∨ .begins w ∈ ps
structure Rep (ps : List Lik) (L : List PyData) : Prop where
  leaf : ∀ a ∈ L, isLeaf a = true
  non : .none ∈ L
  bl : ∀ b, .bool b ∈ L
  num : ∀ k, .int k ∈ toldL ps → -999 ≤ k → k ≤ 999 → .int k ∈ L
  free : ∀ s v : Int, (s = -999 ∨ ∃ i, .over i ∈ ps ∧ s = i + 1) → s ≤ v → v ≤ 999 → .int v ∉ toldL ps → ∃ n : Int, .int n ∈ L ∧ s ≤ n ∧ n ≤ v ∧ .int n ∉ toldL ps
  txt : ∀ w, knownT ps w → .str w ∈ L
  long : ∀ w : Str, (w.length = 0 ∨ knownT ps w) → w.length < 6 → ∃ t, .str t ∈ L ∧ begs t w = true ∧ t.length = w.length + 1 ∧ ∀ k, knownT ps k → begs k t = false
theorem LeafEq.refl {ps : List Lik} {a : PyData} (h : isLeaf a = true) : LeafEq ps a a := ⟨h, h, rfl, fun _ _ _ => rfl, fun _ _ => rfl, fun _ _ => rfl⟩
theorem sameL_int (t : PyData) (n : Int) : sameL t (.int n) = true ↔ t = .int n := by
  cases t <;> simp [sameL, kindD, PyData.eqv]
theorem sameL_str (t : PyData) (n : Str) : sameL t (.str n) = true ↔ t = .str n := by
  cases t <;> simp [sameL, kindD, PyData.eqv]
theorem bool_ext {a b : Bool} (h : a = true ↔ b = true) : a = b := by cases a <;> cases b <;> simp_all
theorem exists_max {α : Type} (f : α → Int) (P : α → Prop) : ∀ (l : List α), (∃ x ∈ l, P x) → ∃ m ∈ l, P m ∧ ∀ x ∈ l, P x → f x ≤ f m
  | [], ⟨x, h, _⟩ => by simp at h
  | a :: l, h => by
    by_cases hl : ∃ x ∈ l, P x
    · obtain ⟨m, m1, m2, m3⟩ := exists_max f P l hl
      by_cases ha : P a ∧ f m < f a
      · refine ⟨a, by simp, ha.1, fun x hx px => ?_⟩
        rcases List.mem_cons.mp hx with rfl | hx
        · omega
        · have := m3 x hx px; omega
      · refine ⟨m, by simp [m1], m2, fun x hx px => ?_⟩
        rcases List.mem_cons.mp hx with rfl | hx
        · apply Classical.byContradiction
          intro z
          exact ha ⟨px, by omega⟩
        · exact m3 x hx px
    · obtain ⟨x, hx, px⟩ := h
      rcases List.mem_cons.mp hx with rfl | hx
      · refine ⟨x, by simp, px, fun y hy py => ?_⟩
        rcases List.mem_cons.mp hy with rfl | hy
        · omega
        · exact (hl ⟨y, hy, py⟩).elim
      · exact (hl ⟨x, hx, px⟩).elim
def startsL (ps : List Lik) : List Int := -999 :: ps.filterMap fun l => match l with | .over i => some (i + 1) | _ => none
theorem mem_starts {ps : List Lik} {s : Int} : s ∈ startsL ps ↔ s = -999 ∨ ∃ i, .over i ∈ ps ∧ s = i + 1 := by
  unfold startsL
  rw [List.mem_cons, List.mem_filterMap]
  constructor
  · rintro (h | ⟨l, h1, h2⟩)
    · exact .inl h
    · cases l <;> simp at h2
      exact .inr ⟨_, h1, h2.symm⟩
  · rintro (h | ⟨i, h1, h2⟩)
    · exact .inl h
    · exact .inr ⟨.over i, h1, by simp [h2]⟩
theorem rep_int {ps : List Lik} {L : List PyData} (R : Rep ps L) {v : Int} (h1 : -999 ≤ v) (h2 : v ≤ 999) : ∃ b ∈ L, LeafEq ps (.int v) b := by
  have lv : isLeaf (.int v) = true := by simp [isLeaf, isNone, isBool, isWhole, h1, h2]
  by_cases ht : .int v ∈ toldL ps
  · exact ⟨_, R.num v ht h1 h2, LeafEq.refl lv⟩
  · obtain ⟨s, s1, s2, s3⟩ := exists_max (fun x : Int => x) (fun x => x ≤ v) (startsL ps) ⟨-999, mem_starts.mpr (.inl rfl), h1⟩
    obtain ⟨n, n1, n2, n3, n4⟩ := R.free s v (mem_starts.mp s1) s2 h2 ht
    refine ⟨_, n1, lv, R.leaf _ n1, rfl, fun t hm _ => ?_, fun i hi => ?_, fun _ _ => rfl⟩
    · apply bool_ext
      rw [sameL_int, sameL_int]
      constructor
      · rintro rfl; exact (ht hm).elim
      · rintro rfl; exact (n4 hm).elim
    · show decide (i < v) = decide (i < n)
      apply bool_ext
      rw [decide_eq_true_eq, decide_eq_true_eq]
      constructor
      · intro h
        have := s3 (i + 1) (mem_starts.mpr (.inr ⟨i, hi, rfl⟩)) (by omega)
        have this : i + 1 ≤ s := this
        omega
      · intro h; omega
/-! texts -/
theorem begs_iff {t s : Str} : begs t s = true ↔ s.cps.toList <+: t.cps.toList := by
  unfold begs
  rw [beq_iff_eq, List.prefix_iff_eq_take]
  have : s.length = s.cps.toList.length := by simp [Str.length]
  rw [this]
  exact eq_comm
theorem begs_len {t s : Str} (h : begs t s = true) : s.length ≤ t.length := by
  have := (begs_iff.mp h).length_le
  simpa [Str.length] using this
theorem str_ext {t s : Str} (h : t.cps.toList = s.cps.toList) : t = s := by
  obtain ⟨a⟩ := t
  obtain ⟨b⟩ := s
  congr
  exact Array.toList_inj.mp h
theorem begs_eq {t s : Str} (h : begs t s = true) (hl : t.length ≤ s.length) : t = s := by
  refine str_ext ((begs_iff.mp h).eq_of_length ?_).symm
  have := begs_len h
  have e1 : s.length = s.cps.toList.length := by simp [Str.length]
  have e2 : t.length = t.cps.toList.length := by simp [Str.length]
  omega
theorem begs_trans {a b c : Str} (h1 : begs a b = true) (h2 : begs b c = true) : begs a c = true := begs_iff.mpr ((begs_iff.mp h2).trans (begs_iff.mp h1))
theorem begs_self (t : Str) : begs t t = true := begs_iff.mpr (List.prefix_refl _)
theorem begs_le {t s w : Str} (h1 : begs t s = true) (h2 : begs t w = true) (hl : s.length ≤ w.length) : begs w s = true := by
  refine begs_iff.mpr (List.prefix_of_prefix_length_le (begs_iff.mp h1) (begs_iff.mp h2) ?_)
  simpa [Str.length] using hl
theorem begs_nil {t s : Str} (h : s.length = 0) : begs t s = true := by
  refine begs_iff.mpr ?_
  have : s.cps.toList = [] := List.eq_nil_of_length_eq_zero (by simpa [Str.length] using h)
  rw [this]
  exact List.nil_prefix
def knownW (ps : List Lik) : List Str := (toldL ps).filterMap (fun d => match d with | .str w => some w | _ => none) ++ ps.filterMap fun l => match l with | .begins w => some w | _ => none
theorem mem_known {ps : List Lik} {w : Str} : w ∈ knownW ps ↔ knownT ps w := by
  unfold knownW knownT
  rw [List.mem_append, List.mem_filterMap, List.mem_filterMap]
  constructor
  · rintro (⟨d, h1, h2⟩ | ⟨d, h1, h2⟩) <;> cases d <;> simp at h2 <;> subst h2
    · exact .inl h1
    · exact .inr h1
  · rintro (h | h)
    · exact .inl ⟨_, h, rfl⟩
    · exact .inr ⟨_, h, rfl⟩
theorem rep_str {ps : List Lik} {L : List PyData} (R : Rep ps L) {v : Str} (hv : Word v) : ∃ b ∈ L, LeafEq ps (.str v) b := by
  have lv : isLeaf (.str v) = true := by simp only [isLeaf, isNone, isBool, isWhole, Bool.false_or]; exact hv
  by_cases hk : knownT ps v
  · exact ⟨_, R.txt v hk, LeafEq.refl lv⟩
  · obtain ⟨w, w1, w2, w3⟩ := exists_max (fun x : Str => (x.length : Int)) (fun x => begs v x = true) (⟨#[]⟩ :: knownW ps) ⟨⟨#[]⟩, by simp, begs_nil rfl⟩
    have wv : w ≠ v := by
      rintro rfl
      rcases List.mem_cons.mp w1 with e | e
      · subst e
        have := (Word_iff.mp hv).1
        simp [Str.length] at this
      · exact hk (mem_known.mp e)
    have wl : w.length < v.length := by
      have := begs_len w2
      rcases Nat.lt_or_ge w.length v.length with h | h
      · exact h
      · exact (wv (begs_eq w2 h).symm).elim
    have wk : w.length = 0 ∨ knownT ps w := by
      rcases List.mem_cons.mp w1 with e | e
      · subst e; exact .inl rfl
      · exact .inr (mem_known.mp e)
    obtain ⟨t, t1, t2, t3, t4⟩ := R.long w wk (by have := (Word_iff.mp hv).2.1; omega)
    refine ⟨_, t1, lv, R.leaf _ t1, rfl, fun x hm _ => ?_, fun _ _ => rfl, fun s hs => ?_⟩
    · apply bool_ext
      rw [sameL_str, sameL_str]
      constructor
      · rintro rfl; exact (hk (.inl hm)).elim
      · rintro rfl
        have := t4 t (.inl hm)
        rw [begs_self] at this
        cases this
    · show begs v s = begs t s
      apply bool_ext
      constructor
      · intro h
        have := w3 s (by simp [mem_known.mpr (.inr hs : knownT ps s)]) h
        exact begs_trans t2 (begs_le h w2 (by omega))
      · intro h
        have hl := begs_len h
        by_cases e : s.length = t.length
        · have := begs_eq h (by omega)
          subst this
          have := t4 t (.inr hs)
          rw [begs_self] at this
          cases this
        · exact begs_trans w2 (begs_le h t2 (by omega))
theorem rep_leaf {ps : List Lik} {L : List PyData} (R : Rep ps L) {a : PyData} (h : isLeaf a = true) : ∃ b ∈ L, LeafEq ps a b := by
  cases a with
  | none => exact ⟨_, R.non, LeafEq.refl rfl⟩
  | bool b => exact ⟨_, R.bl b, LeafEq.refl rfl⟩
  | int v =>
    have : (-999 ≤ v) ∧ v ≤ 999 := by simpa [isLeaf, isNone, isBool, isWhole, isWord] using h
    exact rep_int R this.1 this.2
  | str s => exact rep_str R (show isWord (.str s) = true by simpa only [isLeaf, isNone, isBool, isWhole, Bool.false_or] using h)
  | list xs => simp [isLeaf, isNone, isBool, isWhole, isWord] at h
  | tuple xs => simp [isLeaf, isNone, isBool, isWhole, isWord] at h
  | dict xs => simp [isLeaf, isNone, isBool, isWhole, isWord] at h
/-- all values over these leaves -/
def valsL (L : List PyData) : List PyData := L ++ .tuple [] :: (L.map (fun a => .tuple [a]) ++ L.flatMap fun a => L.map fun b => .tuple [a, b])
theorem rep_val {ps : List Lik} {L : List PyData} (R : Rep ps L) {v : PyData} (h : isVal v = true) : ∃ b ∈ valsL L, ValEq ps v b := by
  unfold valsL
  rcases val_cases h with hl | ⟨ds, rfl, h2, hd⟩
  · obtain ⟨b, b1, b2⟩ := rep_leaf R hl
    exact ⟨b, by simp [b1], .leaf b2⟩
  · match ds, h2, hd with
    | [], _, _ => exact ⟨.tuple [], by simp, .row0⟩
    | [x], _, hd =>
      obtain ⟨b, b1, b2⟩ := rep_leaf R (hd x (by simp))
      exact ⟨.tuple [b], by simp [b1], .row1 b2⟩
    | [x, y], _, hd =>
      obtain ⟨b, b1, b2⟩ := rep_leaf R (hd x (by simp))
      obtain ⟨c, c1, c2⟩ := rep_leaf R (hd y (by simp))
      exact ⟨.tuple [b, c], by simp [b1, c1], .row2 b2 c2⟩
    | x :: y :: z :: r, h2, _ => simp at h2
/-- nothing fits, if nothing of these does -/
theorem rep_none {l : Lik} {L : List PyData} (ho : l.ok) (R : Rep (bareL l) L) (h : ∀ b ∈ valsL L, l.fits b = false) {v : PyData} (hv : isVal v = true) : l.fits v = false := by
  obtain ⟨b, b1, b2⟩ := rep_val R hv
  rw [rep_fits l ho (fun _ h => h) b2]
  exact h b b1
end Pu

namespace Pu
open PySem PySem.Spec PyProof.Rows L2
/-! ### dicts: their keys -/
def KK (ds : Kvs) (ks : List Key) : Prop := ds.map (·.1) = ks.map keyD
noncomputable instance decMem (ks : List Key) (k : Key) : Decidable (k ∈ ks) := Classical.propDecidable _
noncomputable def insK (ks : List Key) (k : Key) : List Key := if k ∈ ks then ks else ks ++ [k]
theorem mem_insK {ks : List Key} {k j : Key} : j ∈ insK ks k ↔ j ∈ ks ∨ j = k := by
  unfold insK
  split
  · rename_i h
    constructor
    · exact .inl
    · rintro (h | rfl)
      · exact h
      · assumption
  · simp
theorem insK_len (ks : List Key) (k : Key) : (insK ks k).length ≤ ks.length + 1 := by
  unfold insK
  split <;> simp
theorem KK.any {ds : Kvs} {ks : List Key} (h : KK ds ks) (k : Key) : (ds.any fun kv => decide (kyOf kv.1 = some k)) = decide (k ∈ ks) := by
  have e : (ds.any fun kv => decide (kyOf kv.1 = some k)) = (ds.map (·.1)).any fun d => decide (kyOf d = some k) := by rw [List.any_map]; rfl
  rw [e, h, List.any_map]
  have : (fun j : Key => decide (kyOf (keyD j) = some k)) = fun j => decide (j = k) := by
    funext j
    rw [kyOf_keyD]
    simp
  show ks.any (fun j : Key => decide (kyOf (keyD j) = some k)) = _
  rw [this]
  apply bool_ext
  rw [List.any_eq_true, decide_eq_true_eq]
  constructor
  · rintro ⟨x, hx, e⟩
    have := of_decide_eq_true e
    subst this
    exact hx
  · exact fun h => ⟨k, h, by simp⟩
theorem KK.put {ds : Kvs} {ks : List Key} (h : KK ds ks) (k : Key) (d : PyData) : KK (putKD ds k d) (insK ks k) := by
  unfold putKD insK
  rw [h.any k]
  by_cases hk : k ∈ ks
  · rw [if_pos (by simp [hk]), if_pos hk]
    unfold KK
    rw [List.map_map, ← h]
    apply List.map_congr_left
    intro kv _
    show (if kyOf kv.1 = some k then (kv.1, d) else kv).1 = kv.1
    split <;> rfl
  · rw [if_neg (by simp [hk]), if_neg hk]
    unfold KK
    rw [List.map_append, List.map_append, h]
    rfl
theorem KK.merge : ∀ (ps : List (Key × PyData)) {ds : Kvs} {ks : List Key}, KK ds ks → ∃ ks', KK (mergeD ds ps) ks' ∧ (∀ k, k ∈ ks' ↔ k ∈ ks ∨ ∃ q ∈ ps, q.1 = k) ∧ ks'.length ≤ ks.length + ps.length
  | [], ds, ks, h => ⟨ks, h, fun k => by simp, by simp⟩
  | q :: ps, ds, ks, h => by
    obtain ⟨ks', h1, h2, h3⟩ := KK.merge ps (h.put q.1 q.2)
    refine ⟨ks', h1, fun k => ?_, ?_⟩
    · rw [h2, mem_insK]
      constructor
      · rintro ((h | h) | ⟨r, h, e⟩)
        · exact .inl h
        · exact .inr ⟨q, by simp, h.symm⟩
        · exact .inr ⟨r, by simp [h], e⟩
      · rintro (h | ⟨r, h, e⟩)
        · exact .inl (.inl h)
        · rcases List.mem_cons.mp h with rfl | h
          · exact .inl (.inr e.symm)
          · exact .inr ⟨r, h, e⟩
    · have := insK_len ks q.1
      simp only [List.length_cons]
      omega
theorem KK.len {ds : Kvs} {ks : List Key} (h : KK ds ks) : ds.length = ks.length := by
  have := congrArg List.length h
  simpa using this
theorem lett_lt {c : Nat} (h : lett c = true) : 97 ≤ c ∧ c ≤ 122 := by
  unfold lett at h
  have h := of_decide_eq_true h
  have : ∀ c ∈ letters.cps.toList, 97 ≤ c ∧ c ≤ 122 := by decide +kernel
  exact this c h
theorem word_lay {w : Str} (h : ∀ c ∈ w.cps.toList, lett c = true) : PyData.canLay0 (.str w) = true := by
  show w.cps.all (· < 0x110000) = true
  rw [← Array.all_toList, List.all_eq_true]
  intro c hc
  have := lett_lt (h c hc)
  exact decide_eq_true (by omega)
def keyG : Key → Bool
  | .inl _ => true
  | .inr w => PyData.canLay0 (.str w) && decide (w.length ≤ 1000000)
theorem keysK_eq {ds : Kvs} {ks : List Key} (h : KK ds ks) (h0 : ks ≠ []) (hl : ks.length ≤ 1000000) (hg : ∀ k ∈ ks, keyG k = true) : keysK (.dict ds) = .ok (ks.map keyD) := by
  have e := h.len
  have ha : ds.all keyK = true := by
    have e1 : ds.all keyK = (ds.map (·.1)).all fun d => keyK (d, .none) := by rw [List.all_map]; rfl
    rw [e1, h, List.all_map, List.all_eq_true]
    intro k hk
    have := hg k hk
    cases k with
    | inl i => rfl
    | inr w => exact this
  have hn : ds.isEmpty = false := by
    cases ds with
    | nil => exact (h0 (List.eq_nil_of_length_eq_zero e.symm)).elim
    | cons a l => rfl
  show (if ds.all keyK && (!ds.isEmpty && decide (ds.length ≤ 1000000)) then R.ok (ds.map (·.1)) else .no) = _
  rw [ha, hn, show decide (ds.length ≤ 1000000) = true from decide_eq_true (by omega), h]
  rfl
/-! ### sorted -/
theorem mem_sortD {ds : List PyData} {d : PyData} : d ∈ sortD ds ↔ d ∈ ds := (List.mergeSort_perm ds _).mem_iff
theorem nodicts_flat : ∀ {ds : List PyData}, (∀ d ∈ ds, flatP d = true) → nodicts ds = true
  | [], _ => rfl
  | d :: ds, h => by
    show (nodict d && nodicts ds) = true
    rw [nodicts_flat fun e he => h e (by simp [he])]
    have := h d (by simp)
    cases d <;> first | rfl | (simp [flatP] at this)
theorem depth_flat : ∀ {ds : List PyData}, (∀ d ∈ ds, flatP d = true) → PyData.depthAll ds ≤ 60
  | [], _ => by simp [PyData.depthAll]
  | d :: ds, h => by
    have ih := depth_flat (ds := ds) fun e he => h e (by simp [he])
    have := h d (by simp)
    have hd : d.depth ≤ 60 := by cases d <;> first | (simp [PyData.depth]; done) | (simp [flatP] at this)
    unfold PyData.depthAll
    omega
theorem sortB_ints {ks : List Key} (h : ∀ k ∈ ks, ∃ i, k = .inl i) : sortB (ks.map keyD) = true := by
  have hf : ∀ d ∈ ks.map keyD, ∃ i, d = .int i := fun d hd => by
    obtain ⟨k, hk, rfl⟩ := List.mem_map.mp hd
    obtain ⟨i, rfl⟩ := h k hk
    exact ⟨i, rfl⟩
  generalize ks.map keyD = ds at hf
  unfold sortB
  simp only [Bool.and_eq_true, decide_eq_true_eq, Bool.or_eq_true]
  refine ⟨?_, nodicts_flat fun d hd => ?_, depth_flat fun d hd => ?_, .inr ?_⟩
  · refine List.all_eq_true.mpr fun x hx => List.all_eq_true.mpr fun y hy => ?_
    obtain ⟨i, rfl⟩ := hf x hx
    obtain ⟨j, rfl⟩ := hf y hy
    exact alike_int i j
  · obtain ⟨i, rfl⟩ := hf d hd; rfl
  · obtain ⟨i, rfl⟩ := hf d hd; rfl
  · refine List.all_eq_true.mpr fun x hx => ?_
    obtain ⟨i, rfl⟩ := hf x hx; rfl
theorem sortB_strs {ks : List Key} (h : ∀ k ∈ ks, ∃ i, k = .inr i) : sortB (ks.map keyD) = true := by
  have hf : ∀ d ∈ ks.map keyD, ∃ i, d = .str i := fun d hd => by
    obtain ⟨k, hk, rfl⟩ := List.mem_map.mp hd
    obtain ⟨i, rfl⟩ := h k hk
    exact ⟨i, rfl⟩
  generalize ks.map keyD = ds at hf
  unfold sortB
  simp only [Bool.and_eq_true, decide_eq_true_eq, Bool.or_eq_true]
  refine ⟨?_, nodicts_flat fun d hd => ?_, depth_flat fun d hd => ?_, .inr ?_⟩
  · refine List.all_eq_true.mpr fun x hx => List.all_eq_true.mpr fun y hy => ?_
    obtain ⟨i, rfl⟩ := hf x hx
    obtain ⟨j, rfl⟩ := hf y hy
    simp [PySem.W.alike]
  · obtain ⟨i, rfl⟩ := hf d hd; rfl
  · obtain ⟨i, rfl⟩ := hf d hd; rfl
  · refine List.all_eq_true.mpr fun x hx => ?_
    obtain ⟨i, rfl⟩ := hf x hx; rfl
/-! ### bare_parts, told_values -/
def F_bare_parts : Nat → List PyData → R PyData
  | 0 => fun _ => .no
  | n + 1 => runD 3 (fb_bare_parts F_is_bare F_inner (F_bare_parts n))
abbrev F_told_values := runD 3 fb_told_values
def psD (ps : List Lik) : PyData := .list (ps.map Lik.D)
/-! ### numbers -/
def isNumD (d : PyData) : Bool := isInt d && !isBool d
theorem eqv_int (a b : Int) : PyData.eqv (.int a) (.int b) = decide (a = b) := by
  have : PyData.eqv (.int a) (.int b) = (a == b) := by simp [PyData.eqv]
  rw [this]
  by_cases h : a = b <;> simp [h]
theorem any_ints (x : Int) : ∀ ns : List Int, ((ns.map PyData.int).any fun z => PyData.eqv z (.int x)) = decide (x ∈ ns)
  | [] => rfl
  | n :: ns => by
    rw [List.map_cons, List.any_cons, any_ints x ns, eqv_int]
    by_cases h : n = x
    · simp [h]
    · simp [h, Ne.symm h]
theorem inD_ints (x : Int) (ns : List Int) : inD (.int x) (.list (ns.map .int)) = some (.bool (decide (x ∈ ns))) := by
  have ok : okd (.list (ns.map .int)) = true := okN_okd (n := 1) (okN_list fun d hd => by obtain ⟨i, _, rfl⟩ := List.mem_map.mp hd; exact okN_flat rfl) (by omega)
  show (if okd (.int x) && okd (.list (ns.map .int)) then some (PyData.bool ((ns.map PyData.int).any fun z => PyData.eqv z (.int x))) else none) = _
  rw [ok, any_ints]
  rfl
theorem cnt_less (ns : List Int) (x : Int) (h : x ∈ ns) : (ns.filter fun y => decide (x + 1 ≤ y)).length < (ns.filter fun y => decide (x ≤ y)).length := by
  induction ns with
  | nil => simp at h
  | cons n ns ih =>
    have le : (ns.filter fun y => decide (x + 1 ≤ y)).length ≤ (ns.filter fun y => decide (x ≤ y)).length := by
      clear ih h
      induction ns with
      | nil => exact Nat.le_refl _
      | cons m ns ih =>
        simp only [List.filter_cons]
        by_cases h1 : x + 1 ≤ m
        · simp [h1, show x ≤ m by omega]; simpa using ih
        · by_cases h2 : x ≤ m
          · simp [h1, h2]; omega
          · simp [h1, h2]; simpa using ih
    simp only [List.filter_cons]
    rcases List.mem_cons.mp h with rfl | h
    · simp [show ¬ (x + 1 ≤ x) by omega]
      omega
    · have ih := ih h
      by_cases h1 : x + 1 ≤ n
      · simp [h1, show x ≤ n by omega]; simpa using ih
      · by_cases h2 : x ≤ n
        · simp [h1, h2]; omega
        · simp [h1, h2]; simpa using ih
def numC : Ro → R Bool := (dTest (dBin inD (dVar 5) (dVar 2)))
def numB : Ro → Fl := (sAsg (dBin addD (dVar 5) (dC (.int 1))) (bName 5))
theorem num_loop (a0 a1 a3 a4 a6 a7 : Option Cel) (ns : List Int) : ∀ (fuel : Nat) (x : Int), (ns.filter fun y => decide (x ≤ y)).length < fuel → ∃ m : Int, x ≤ m ∧ m ∉ ns ∧ (∀ y, x ≤ y → y < m → y ∈ ns) ∧
    whileGo numC numB fuel [a0, a1, some (.fz (.list (ns.map .int))), a3, a4, some (.fz (.int x)), a6, a7] = .nx [a0, a1, some (.fz (.list (ns.map .int))), a3, a4, some (.fz (.int m)), a6, a7]
  | 0, x, h => by omega
  | fuel + 1, x, h => by
    have c : numC [a0, a1, some (.fz (.list (ns.map .int))), a3, a4, some (.fz (.int x)), a6, a7] = .ok (decide (x ∈ ns)) := by
      unfold numC
      simp only [dTest_ap, dBin_ap, dVar_0, dVar_s, R.bind_ok, inD_ints, R.of_some]
      rfl
    by_cases hx : x ∈ ns
    · obtain ⟨m, m1, m2, m3, m4⟩ := num_loop a0 a1 a3 a4 a6 a7 ns fuel (x + 1) (by have := cnt_less ns x hx; omega)
      refine ⟨m, by omega, m2, fun y h1 h2 => ?_, ?_⟩
      · by_cases e : y = x
        · subst e; exact hx
        · exact m3 y (by omega) h2
      · refine (whileGo_go (ρ' := [a0, a1, some (.fz (.list (ns.map .int))), a3, a4, some (.fz (.int (x + 1))), a6, a7]) (by rw [c]; simp [hx]) ?_).trans m4
        simp [numB]
    · exact ⟨x, by omega, hx, fun y h1 h2 => by omega, whileGo_stop (by rw [c]; simp [hx])⟩
end Pu

namespace Pu
open PySem PySem.Spec PyProof.Rows L2
theorem bareL_sub (l : Lik) (h : l.bare = false) : bareL l = l.subs.flatMap bareL := by cases l <;> first | cases h; done | simp [bareL, Lik.subs]
theorem bareL_bare (l : Lik) (h : l.bare = true) : bareL l = [l] := by cases l <;> first | rfl | cases h
theorem subs_okB {l : Lik} (h : l.ok) : ∀ s ∈ l.subs, s.ok := fun s hs => by
  cases l <;> simp [Lik.subs] at hs <;> first | (subst hs; exact h) | (rcases hs with rfl | rfl <;> first | exact h.1 | exact h.2)
theorem subs_lt {l : Lik} : ∀ s ∈ l.subs, s.parts < l.parts := fun s hs => by
  cases l <;> simp [Lik.subs] at hs <;> first | (subst hs; simp [Lik.parts]) | (rcases hs with rfl | rfl <;> simp [Lik.parts] <;> omega)
theorem bareL_len : ∀ l : Lik, (bareL l).length ≤ l.parts
  | .not a => by have := bareL_len a; simp [bareL, Lik.parts]; omega
  | .has a => by have := bareL_len a; simp [bareL, Lik.parts]; omega
  | .row1 a => by have := bareL_len a; simp [bareL, Lik.parts]; omega
  | .both a b => by have := bareL_len a; have := bareL_len b; simp [bareL, Lik.parts]; omega
  | .either a b => by have := bareL_len a; have := bareL_len b; simp [bareL, Lik.parts]; omega
  | .row2 a b => by have := bareL_len a; have := bareL_len b; simp [bareL, Lik.parts]; omega
  | .row0 => by simp [bareL, Lik.parts]
  | .any => by simp [bareL, Lik.parts]
  | .is _ => by simp [bareL, Lik.parts]
  | .kind _ => by simp [bareL, Lik.parts]
  | .over _ => by simp [bareL, Lik.parts]
  | .begins _ => by simp [bareL, Lik.parts]
theorem bareL_ok : ∀ l : Lik, l.ok → ∀ b ∈ bareL l, b.ok ∧ b.bare = true
  | .not a, h => bareL_ok a h
  | .has a, h => bareL_ok a h
  | .row1 a, h => bareL_ok a h
  | .both a b, h => fun x hx => (List.mem_append.mp hx).elim (bareL_ok a h.1 x) (bareL_ok b h.2 x)
  | .either a b, h => fun x hx => (List.mem_append.mp hx).elim (bareL_ok a h.1 x) (bareL_ok b h.2 x)
  | .row2 a b, h => fun x hx => (List.mem_append.mp hx).elim (bareL_ok a h.1 x) (bareL_ok b h.2 x)
  | .row0, _ => fun x hx => by simp [bareL] at hx
  | .any, h => fun x hx => by simp [bareL] at hx; subst hx; exact ⟨h, rfl⟩
  | .is _, h => fun x hx => by simp [bareL] at hx; subst hx; exact ⟨h, rfl⟩
  | .kind _, h => fun x hx => by simp [bareL] at hx; subst hx; exact ⟨h, rfl⟩
  | .over _, h => fun x hx => by simp [bareL] at hx; subst hx; exact ⟨h, rfl⟩
  | .begins _, h => fun x hx => by simp [bareL] at hx; subst hx; exact ⟨h, rfl⟩
def bpB (g : List PyData → R PyData) : Ro → Fl := (sExt 1 (dOfD (dCallF 1 g (dCons (dVar 2) dNil))))
theorem sExt_go {i : Nat} {f : Ro → R (List PyData)} {ρ : Ro} {ds es : List PyData} (h : ρ[i]? = some (some (.ow (.list ds)))) (h2 : f ρ = .ok es) (hl : ds.length + es.length ≤ 1000000) : sExt i f ρ = .nx (ρ.set i (some (.ow (.list (ds ++ es))))) := by
  unfold sExt ownL
  rw [h, h2]
  show (if _ then _ else _) = _
  rw [if_pos hl]
theorem sApp_go {i : Nat} {f : Ro → R PyData} {ρ : Ro} {ds : List PyData} {d : PyData} (h : ρ[i]? = some (some (.ow (.list ds)))) (h2 : f ρ = .ok d) (hl : ds.length < 1000000) : sApp i f ρ = .nx (ρ.set i (some (.ow (.list (ds ++ [d]))))) := by
  unfold sApp ownL
  rw [h, h2]
  show (if _ then _ else _) = _
  rw [if_pos hl]
theorem bp_loop {g : List PyData → R PyData} (a0 : Option Cel) : ∀ (ls : List Lik) (acc : List Lik) (a2 : Option Cel), (∀ l ∈ ls, g [l.D] = .ok (psD (bareL l))) → acc.length + (ls.flatMap bareL).length ≤ 1000 → ∃ b2,
    forGo (bName 2) (bpB g) [a0, some (.ow (psD acc)), a2] (ls.map Lik.D) = .nx [a0, some (.ow (psD (acc ++ ls.flatMap bareL))), b2]
  | [], acc, a2, _, _ => ⟨a2, by simp⟩
  | l :: ls, acc, a2, h, hl => by
    have hl' : acc.length + ((bareL l).length + (ls.flatMap bareL).length) ≤ 1000 := by simpa using hl
    obtain ⟨b2, ih⟩ := bp_loop a0 ls (acc ++ bareL l) (some (.fz l.D)) (fun x hx => h x (by simp [hx])) (by rw [List.length_append]; omega)
    refine ⟨b2, ?_⟩
    rw [List.map_cons, forGo.eq_2]
    simp only [bName_ap, List.set]
    have body : bpB g [a0, some (.ow (psD acc)), some (.fz l.D)] = .nx [a0, some (.ow (psD (acc ++ bareL l))), some (.fz l.D)] := by
      unfold bpB
      rw [sExt_go (ds := acc.map Lik.D) (es := (bareL l).map Lik.D) rfl (by simp [h l (by simp), psD]) (by rw [List.length_map, List.length_map]; omega)]
      simp [psD]
    simp only [body]
    rw [ih]
    simp [List.append_assoc]
theorem flat_len {l : Lik} (h : l.bare = false) : (l.subs.flatMap bareL).length ≤ l.parts := by rw [← bareL_sub l h]; exact bareL_len l
theorem bare_parts_eq : ∀ (n : Nat) (l : Lik), l.ok → l.parts ≤ n → l.parts ≤ 500 → F_bare_parts n [l.D] = .ok (psD (bareL l))
  | 0, l, _, h, _ => by have := parts_pos l; omega
  | n + 1, l, ho, h, h5 => by
    show runD 3 (fb_bare_parts F_is_bare F_inner (F_bare_parts n)) [l.D] = _
    have hb := is_bare_eq l ho
    refine runD_rt ?_
    unfold fb_bare_parts
    rw [show startR 3 [l.D] = [some (.fz l.D), none, none] from rfl]
    cases k : l.bare with
    | true =>
      rw [k] at hb
      refine st_ret ?_
      rw [bareL_bare l k]
      simp [hb, psD]
    | false =>
      rw [k] at hb
      refine st_no (by simp [hb]) ?_
      refine st_setL (v := []) rfl (by simp) ?_
      simp only [List.set]
      have hi := inner_eq l k
      obtain ⟨b2, e⟩ := bp_loop (g := F_bare_parts n) (some (.fz l.D)) l.subs [] none (fun x hx => bare_parts_eq n x (subs_okB ho x hx) (by have := subs_lt x hx; omega) (by have := subs_lt x hx; omega)) (by have := flat_len k; simp; simp at this; omega)
      refine st_for (ds := l.subs.map Lik.D) (by simp [hi]) e ?_
      rw [List.nil_append, ← bareL_sub l k]
      rfl
/-! ### told_values -/
def tvB : Ro → Fl := (sIf (dTest (dBin eqD (dBin ixD (dVar 2) (dC (.int 0))) (dC (.str "is")))) (sSeq (sApp 1 (dBin ixD (dVar 2) (dC (.int 1))))
    (sIf (dTest (dUn (isiD "tuple") (dBin ixD (dVar 2) (dC (.int 1))))) (sExt 1 (dListOf (dBin ixD (dVar 2) (dC (.int 1))))) sNil)) sNil)
theorem tv_is (v : PyData) (a0 : Option Cel) (acc : List PyData) (hl : acc.length ≤ 1000) (hv : isVal v = true) : tvB [a0, some (.ow (.list acc)), some (.fz (Lik.is v).D)] = .nx [a0, some (.ow (.list (acc ++ toldOf (.is v)))), some (.fz (Lik.is v).D)] := by
  have i0 : ixD (Lik.is v).D (.int 0) = some (.str "is") := rfl
  have i1 : ixD (Lik.is v).D (.int 1) = some v := rfl
  unfold tvB
  refine st_yes (by simp [i0]) ?_
  refine st_nx (sApp_go (ds := acc) (d := v) rfl (by simp [i1]) (by omega)) ?_
  simp only [List.set]
  cases v with
  | tuple ds =>
    have hd : ds.length ≤ 2 := by
      have : (decide (ds.length ≤ 2) && ds.all isLeaf) = true := hv
      rw [Bool.and_eq_true] at this
      exact of_decide_eq_true this.1
    refine st_yes (by simp [i1, isi_tup, isTup]) ?_
    rw [sExt_go (ds := acc ++ [.tuple ds]) (es := ds) rfl (by simp [i1]) (by simp; omega)]
    simp [toldOf]
  | none => simp [i1, isi_tup, isTup, toldOf]
  | bool b => simp [i1, isi_tup, isTup, toldOf]
  | int b => simp [i1, isi_tup, isTup, toldOf]
  | str b => simp [i1, isi_tup, isTup, toldOf]
  | list b => simp [i1, isi_tup, isTup, toldOf]
  | dict b => simp [i1, isi_tup, isTup, toldOf]
theorem tv_body {b : Lik} (hb : b.ok) (a0 : Option Cel) (acc : List PyData) (hl : acc.length ≤ 1000) : tvB [a0, some (.ow (.list acc)), some (.fz b.D)] = .nx [a0, some (.ow (.list (acc ++ toldOf b))), some (.fz b.D)] := by
  cases b with
  | is v => exact tv_is v a0 acc hl hb
  | any => simp [tvB, Lik.D, toldOf]
  | kind s => simp [tvB, Lik.D, toldOf]
  | over s => simp [tvB, Lik.D, toldOf]
  | begins s => simp [tvB, Lik.D, toldOf]
  | not s => simp [tvB, Lik.D, toldOf]
  | has s => simp [tvB, Lik.D, toldOf]
  | both s t => simp [tvB, Lik.D, toldOf]
  | either s t => simp [tvB, Lik.D, toldOf]
  | row0 => simp [tvB, Lik.D, toldOf]
  | row1 s => simp [tvB, Lik.D, toldOf]
  | row2 s t => simp [tvB, Lik.D, toldOf]
theorem told_len {b : Lik} (hb : b.ok) : (toldOf b).length ≤ 3 := by
  cases b with
  | is v =>
    rcases val_cases hb with h | ⟨ds, rfl, h2, _⟩
    · cases v <;> first | (simp [toldOf]; done) | (simp [leaf_notup] at h)
    · simp [toldOf]; omega
  | _ => simp [toldOf]
theorem toldL_len {ps : List Lik} (hp : ∀ b ∈ ps, b.ok) : (toldL ps).length ≤ 3 * ps.length := by
  induction ps with
  | nil => simp [toldL]
  | cons b ps ih =>
    have := ih fun x hx => hp x (by simp [hx])
    have := told_len (hp b (by simp))
    simp only [toldL, List.flatMap_cons, List.length_append, List.length_cons] at *
    omega
theorem tv_loop (a0 : Option Cel) : ∀ (ps : List Lik) (acc : List PyData) (a2 : Option Cel), (∀ b ∈ ps, b.ok) → acc.length + 3 * ps.length ≤ 1000 → ∃ b2,
    forGo (bName 2) tvB [a0, some (.ow (.list acc)), a2] (ps.map Lik.D) = .nx [a0, some (.ow (.list (acc ++ toldL ps))), b2]
  | [], acc, a2, _, _ => ⟨a2, by simp [toldL]⟩
  | b :: ps, acc, a2, h, hl => by
    simp only [List.length_cons] at hl
    have tl := told_len (h b (by simp))
    obtain ⟨b2, ih⟩ := tv_loop a0 ps (acc ++ toldOf b) (some (.fz b.D)) (fun x hx => h x (by simp [hx])) (by rw [List.length_append]; omega)
    refine ⟨b2, ?_⟩
    rw [List.map_cons, forGo.eq_2]
    simp only [bName_ap, List.set]
    simp only [tv_body (h b (by simp)) a0 acc (by omega)]
    rw [ih]
    simp [toldL, List.append_assoc]
theorem told_values_eq {ps : List Lik} (h : ∀ b ∈ ps, b.ok) (hl : ps.length ≤ 100) : F_told_values [psD ps] = .ok (.list (toldL ps)) := by
  obtain ⟨b2, e⟩ := tv_loop (some (.fz (psD ps))) ps [] none h (by simp; omega)
  refine runD_rt ?_
  unfold fb_told_values
  rw [show startR 3 [psD ps] = [some (.fz (psD ps)), none, none] from rfl]
  refine st_setL (v := []) rfl (by simp) ?_
  simp only [List.set]
  refine st_for (ds := ps.map Lik.D) (by simp [psD]) e ?_
  rfl
end Pu

namespace Pu
open PySem PySem.Spec PyProof.Rows L2
/-! ### numbers_for -/
abbrev F_numbers_for := runD 8 fb_numbers_for
def intsT : List PyData → List Int
  | [] => []
  | .int i :: r => i :: intsT r
  | _ :: r => intsT r
theorem intsT_filter : ∀ ds : List PyData, ds.filter isNumD = (intsT ds).map .int
  | [] => rfl
  | d :: ds => by
    have ih := intsT_filter ds
    cases d <;> (rw [List.filter_cons, ih]; rfl)
theorem mem_intsT {i : Int} : ∀ {ds : List PyData}, i ∈ intsT ds ↔ .int i ∈ ds
  | [] => by simp [intsT]
  | d :: ds => by
    have ih := mem_intsT (i := i) (ds := ds)
    cases d <;> simp [intsT, ih]
theorem intsT_len : ∀ ds : List PyData, (intsT ds).length ≤ ds.length
  | [] => Nat.le_refl _
  | d :: ds => by
    have ih := intsT_len ds
    cases d <;> simp [intsT] <;> omega
structure NumsOk (ps : List Lik) (N : List PyData) : Prop where
  rng : ∀ d ∈ N, ∃ n : Int, d = .int n ∧ -999 ≤ n ∧ n ≤ 999
  num : ∀ k : Int, .int k ∈ toldL ps → .int k ∈ N
  free : ∀ s v : Int, s ∈ startsL ps → s ≤ v → v ≤ 999 → .int v ∉ toldL ps → ∃ n : Int, .int n ∈ N ∧ s ≤ n ∧ n ≤ v ∧ .int n ∉ toldL ps
  len : N.length ≤ 4 * ps.length + 1
theorem told_leaf {ps : List Lik} (hp : ∀ b ∈ ps, b.ok) : ∀ d ∈ toldL ps, isVal d = true := fun d hd => by
  unfold toldL at hd
  obtain ⟨b, hb, h⟩ := List.mem_flatMap.mp hd
  cases b <;> simp [toldOf] at h
  rename_i v
  have hv : isVal v = true := hp _ hb
  rcases val_cases hv with hl | ⟨ds, rfl, _, hl⟩
  · cases v <;> first | (simp at h; subst h; exact hv) | (simp [leaf_notup] at hl)
  · simp at h
    rcases h with rfl | h
    · exact hv
    · have := hl d h
      cases d <;> first | exact this | (simp [leaf_notup] at this)
theorem told_int {ps : List Lik} (hp : ∀ b ∈ ps, b.ok) {k : Int} (h : .int k ∈ toldL ps) : -999 ≤ k ∧ k ≤ 999 := by
  have : isLeaf (.int k) = true := told_leaf hp _ h
  simpa [isLeaf, isNone, isBool, isWhole, isWord] using this
theorem told_str {ps : List Lik} (hp : ∀ b ∈ ps, b.ok) {k : Str} (h : .str k ∈ toldL ps) : Word k := by
  have : isLeaf (.str k) = true := told_leaf hp _ h
  show isWord (.str k) = true
  simpa only [isLeaf, isNone, isBool, isWhole, Bool.false_or] using this
theorem pairs_ints : ∀ ns : List Int, pairsOf (ns.map fun n => PyData.tuple [.int n, .bool true]) = some (ns.map fun n => (Sum.inl n, PyData.bool true))
  | [] => rfl
  | n :: ns => by
    show ((pairOf (.tuple [.int n, .bool true])).bind fun q => (pairsOf (ns.map fun n => PyData.tuple [.int n, .bool true])).map (q :: ·)) = _
    rw [pairs_ints ns]
    rfl
def isOver : Lik → Bool
  | .over _ => true
  | _ => false
def overG : Lik → PyData
  | .over i => .int (i + 1)
  | _ => .none
theorem starts_map : ∀ ps : List Lik, (ps.filter isOver).map overG = (ps.filterMap fun l => match l with | .over i => some (i + 1) | _ => none).map PyData.int
  | [] => rfl
  | b :: ps => by
    have ih := starts_map ps
    cases b <;> simp [isOver, overG, List.filter_cons, List.filterMap_cons] <;> simpa using ih
def numBody : Ro → Fl := (sSeq (sAsg (dVar 4) (bName 5))
    (sSeq (whileGo (dTest (dBin inD (dVar 5) (dVar 2))) (sAsg (dBin addD (dVar 5) (dC (.int 1))) (bName 5)) 1000)
    (sIf (dTest (dBin leD (dVar 5) (dC (.int 999)))) (sPutK 3 (dVar 5) (dC (.bool true))) sNil)))
theorem sPutK_go {i : Nat} {fk fe : Ro → R PyData} {ρ : Ro} {ds : Kvs} {k : Key} {d : PyData} (h : ρ[i]? = some (some (.ow (.dict ds)))) (h1 : fe ρ = .ok d) (h2 : fk ρ = .ok (keyD k)) (hl : ds.length < 1000000) : sPutK i fk fe ρ = .nx (ρ.set i (some (.ow (.dict (putKD ds k d))))) := by
  unfold sPutK ownK
  rw [h, h1]
  show Fl.of ρ (fk ρ) (fun kd => putToK ρ i ds kd d) = _
  rw [h2]
  show putToK ρ i ds (keyD k) d = _
  unfold putToK
  rw [kyOf_keyD]
  show (if _ then _ else _) = _
  rw [if_pos hl]
theorem num_for (a0 a1 a6 a7 : Option Cel) (ns : List Int) (hn : ns.length ≤ 900) : ∀ (ss : List Int) (ds : Kvs) (ks : List Key) (a4 a5 : Option Cel), (∀ s ∈ ss, -999 ≤ s) → KK ds ks → ks.length + ss.length ≤ 5000 → ∃ ds' ks' b4 b5, KK ds' ks' ∧ ks'.length ≤ ks.length + ss.length ∧ (∀ k ∈ ks, k ∈ ks') ∧ (∀ k ∈ ks', k ∈ ks ∨ ∃ n : Int, k = .inl n ∧ -999 ≤ n ∧ n ≤ 999) ∧
    (∀ s ∈ ss, ∀ v : Int, s ≤ v → v ≤ 999 → v ∉ ns → ∃ n : Int, Sum.inl n ∈ ks' ∧ s ≤ n ∧ n ≤ v ∧ n ∉ ns) ∧
    forGo (bName 4) numBody [a0, a1, some (.fz (.list (ns.map .int))), some (.ow (.dict ds)), a4, a5, a6, a7] (ss.map .int) = .nx [a0, a1, some (.fz (.list (ns.map .int))), some (.ow (.dict ds')), b4, b5, a6, a7]
  | [], ds, ks, a4, a5, _, hk, _ => ⟨ds, ks, a4, a5, hk, by simp, fun _ h => h, fun _ h => .inl h, fun s h => by simp at h, rfl⟩
  | s :: ss, ds, ks, a4, a5, hs, hk, hl => by
    simp only [List.length_cons] at hl
    have fl : (ns.filter fun y => decide (s ≤ y)).length ≤ ns.length := List.length_filter_le _ _
    obtain ⟨m, m1, m2, m3, m4⟩ := num_loop a0 a1 (some (.ow (.dict ds))) (some (.fz (.int s))) a6 a7 ns 1000 s (by omega)
    have hlen := hk.len
    have hs0 := hs s (by simp)
    by_cases h9 : m ≤ 999
    · have body : numBody [a0, a1, some (.fz (.list (ns.map .int))), some (.ow (.dict ds)), some (.fz (.int s)), a5, a6, a7] = .nx [a0, a1, some (.fz (.list (ns.map .int))), some (.ow (.dict (putKD ds (.inl m) (.bool true)))), some (.fz (.int s)), some (.fz (.int m)), a6, a7] := by
        unfold numBody
        refine st_set (v := .int s) rfl ?_
        simp only [List.set]
        refine st_nx m4 ?_
        refine st_yes (by simp [h9]) ?_
        exact sPutK_go (k := .inl m) rfl rfl rfl (by omega)
      obtain ⟨ds', ks', b4, b5, g1, g2, g3, g4, g5, g6⟩ := num_for a0 a1 a6 a7 ns hn ss (putKD ds (.inl m) (.bool true)) (insK ks (.inl m)) (some (.fz (.int s))) (some (.fz (.int m))) (fun x hx => hs x (by simp [hx])) (hk.put _ _) (by have := insK_len ks (.inl m); omega)
      refine ⟨ds', ks', b4, b5, g1, ?_, fun k h => g3 k (mem_insK.mpr (.inl h)), fun k h => ?_, fun x hx v v1 v2 v3 => ?_, ?_⟩
      · have := insK_len ks (.inl m); simp only [List.length_cons]; omega
      · rcases g4 k h with h | h
        · rcases mem_insK.mp h with h | h
          · exact .inl h
          · exact .inr ⟨m, h, by omega, h9⟩
        · exact .inr h
      · rcases List.mem_cons.mp hx with rfl | hx
        · refine ⟨m, g3 _ (mem_insK.mpr (.inr rfl)), m1, ?_, m2⟩
          apply Classical.byContradiction
          intro z
          exact v3 (m3 v v1 (by omega))
        · exact g5 x hx v v1 v2 v3
      · rw [List.map_cons, forGo.eq_2]
        simp only [bName_ap, List.set]
        simp only [body]
        exact g6
    · have body : numBody [a0, a1, some (.fz (.list (ns.map .int))), some (.ow (.dict ds)), some (.fz (.int s)), a5, a6, a7] = .nx [a0, a1, some (.fz (.list (ns.map .int))), some (.ow (.dict ds)), some (.fz (.int s)), some (.fz (.int m)), a6, a7] := by
        unfold numBody
        refine st_set (v := .int s) rfl ?_
        simp only [List.set]
        refine st_nx m4 ?_
        simp [h9]
      obtain ⟨ds', ks', b4, b5, g1, g2, g3, g4, g5, g6⟩ := num_for a0 a1 a6 a7 ns hn ss ds ks (some (.fz (.int s))) (some (.fz (.int m))) (fun x hx => hs x (by simp [hx])) hk (by omega)
      refine ⟨ds', ks', b4, b5, g1, by simp only [List.length_cons]; omega, g3, g4, fun x hx v v1 v2 v3 => ?_, ?_⟩
      · rcases List.mem_cons.mp hx with rfl | hx
        · exfalso
          exact v3 (m3 v v1 (by omega))
        · exact g5 x hx v v1 v2 v3
      · rw [List.map_cons, forGo.eq_2]
        simp only [bName_ap, List.set]
        simp only [body]
        exact g6
theorem lcGo_filter2 {α : Type} {b : PyData → Ro → Option Ro} {ft : Ro → R Bool} {fe : Ro → R PyData} {ρ : Ro} {D g : α → PyData} {p : α → Bool} : ∀ {xs : List α}, (∀ x ∈ xs, ∃ ρ', b (D x) ρ = some ρ' ∧ ft ρ' = .ok (p x) ∧ (p x = true → fe ρ' = .ok (g x))) → lcGo b ft fe ρ (xs.map D) = some ((xs.filter p).map g)
  | [], _ => rfl
  | x :: xs, h => by
    obtain ⟨ρ', h1, h2, h3⟩ := h x (by simp)
    have ih := lcGo_filter2 (b := b) (ft := ft) (fe := fe) (ρ := ρ) (D := D) (g := g) (p := p) (xs := xs) fun y hy => h y (by simp [hy])
    rw [List.map_cons]
    unfold lcGo
    rw [h1]
    cases k : p x with
    | true =>
      rw [k] at h2
      simp [h2, h3 k, ih, k]
    | false =>
      rw [k] at h2
      simp [h2, ih, k]
theorem over_word (b : Lik) : ∃ w : Str, ixD b.D (.int 0) = some (.str w) ∧ (w == "over") = isOver b := by
  cases b <;> first | exact ⟨_, rfl, rfl⟩ | exact ⟨_, rfl, by decide +kernel⟩
theorem numbers_eq {ps : List Lik} (hp : ∀ b ∈ ps, b.ok) (hl : ps.length ≤ 100) : ∃ N, F_numbers_for [psD ps, .list (toldL ps)] = .ok (.list N) ∧ NumsOk ps N := by
  have tl := toldL_len hp
  have il := intsT_len (toldL ps)
  generalize hns : intsT (toldL ps) = ns at il
  have mn : ∀ k : Int, k ∈ ns ↔ .int k ∈ toldL ps := fun k => by rw [← hns]; exact mem_intsT
  obtain ⟨ks0, k1, k2, k3⟩ := KK.merge (ns.map fun n => (Sum.inl n, PyData.bool true)) (ds := []) (ks := []) rfl
  have sl : (startsL ps).length ≤ ps.length + 1 := by
    unfold startsL
    exact Nat.succ_le_succ (List.length_filterMap_le _ ps)
  have k3' : ks0.length ≤ ns.length := by simpa using k3
  obtain ⟨ds', ks', b4, b5, g1, g2, g3, g4, g5, g6⟩ := num_for (some (.fz (psD ps))) (some (.fz (.list (toldL ps)))) none none ns (by omega) (startsL ps) _ ks0 none none (fun s h => by
    rcases mem_starts.mp h with h | ⟨i, h1, h2⟩
    · omega
    · have : -999 ≤ i ∧ i ≤ 999 := hp _ h1
      omega) k1 (by omega)
  have rng : ∀ k ∈ ks', ∃ n : Int, k = .inl n ∧ -999 ≤ n ∧ n ≤ 999 := fun k hk => by
    rcases g4 k hk with h | h
    · rcases (k2 k).mp h with h | ⟨q, hq, rfl⟩
      · simp at h
      · obtain ⟨n, hn, rfl⟩ := List.mem_map.mp hq
        have := told_int hp ((mn n).mp hn)
        exact ⟨n, rfl, this.1, this.2⟩
    · exact h
  have ne : ks' ≠ [] := by
    intro z
    by_cases h : (999 : Int) ∈ ns
    · have := g3 (.inl 999) ((k2 _).mpr (.inr ⟨(.inl 999, .bool true), List.mem_map.mpr ⟨999, h, rfl⟩, rfl⟩))
      rw [z] at this
      simp at this
    · obtain ⟨n, n1, _⟩ := g5 (-999) (mem_starts.mpr (.inl rfl)) 999 (by omega) (by omega) h
      rw [z] at n1
      simp at n1
  have hkeys := keysK_eq g1 ne (by omega) (fun k hk => by obtain ⟨n, rfl, _⟩ := rng k hk; rfl)
  have hsort := sortB_ints (ks := ks') (fun k hk => by obtain ⟨n, rfl, _⟩ := rng k hk; exact ⟨n, rfl⟩)
  have memN : ∀ n : Int, PyData.int n ∈ sortD (ks'.map keyD) ↔ Sum.inl n ∈ ks' := fun n => by
    rw [mem_sortD, List.mem_map]
    constructor
    · rintro ⟨k, hk, e⟩
      have : k = .inl n := keyD_inj (b := .inl n) e
      rw [← this]; exact hk
    · exact fun h => ⟨_, h, rfl⟩
  refine ⟨sortD (ks'.map keyD), ?_, fun d hd => ?_, fun k hk => ?_, fun s v hs h1 h2 h3 => ?_, ?_⟩
  · refine runD_rt ?_
    unfold fb_numbers_for
    rw [show startR 8 [psD ps, .list (toldL ps)] = [some (.fz (psD ps)), some (.fz (.list (toldL ps))), none, none, none, none, none, none] from rfl]
    have c1 : lcGo (bName 6) (dAnd (dTest (dUn (isiD "int") (dVar 6))) (dNot (dTest (dUn (isiD "bool") (dVar 6))))) (dVar 6) [some (.fz (psD ps)), some (.fz (.list (toldL ps))), none, none, none, none, none, none] (toldL ps) = some (ns.map .int) := by
      have := lcGo_filter (b := bName 6) (ft := dAnd (dTest (dUn (isiD "int") (dVar 6))) (dNot (dTest (dUn (isiD "bool") (dVar 6))))) (fe := dVar 6) (ρ := [some (.fz (psD ps)), some (.fz (.list (toldL ps))), none, none, none, none, none, none]) (D := fun d : PyData => d) (g := fun d => d) (p := isNumD) (xs := toldL ps) (fun d _ => ⟨_, rfl, by
        cases h : isInt d <;> simp [isi_int, isi_bool, isNumD, h], rfl⟩)
      rw [List.map_id', List.map_id', intsT_filter, hns] at this
      exact this
    refine st_set (v := .list (ns.map .int)) (dAsL_go (dLc_go (ds := toldL ps) (by simp) (by omega) c1)) ?_
    simp only [List.set]
    have c2 : dLc (dItems (dVar 2)) (bName 6) dYes (dTup (dCons (dVar 6) (dCons (dC (.bool true)) dNil))) [6] [some (.fz (psD ps)), some (.fz (.list (toldL ps))), some (.fz (.list (ns.map .int))), none, none, none, none, none] = .ok (ns.map fun n => PyData.tuple [.int n, .bool true]) :=
      dLc_go (ds := ns.map .int) (by simp) (by rw [List.length_map]; omega) (lcGo_mapD (D := PyData.int) fun n _ => ⟨_, rfl, by simp⟩)
    have s2 : sAsgDP 3 (dLc (dItems (dVar 2)) (bName 6) dYes (dTup (dCons (dVar 6) (dCons (dC (.bool true)) dNil))) [6]) [some (.fz (psD ps)), some (.fz (.list (toldL ps))), some (.fz (.list (ns.map .int))), none, none, none, none, none] = .nx [some (.fz (psD ps)), some (.fz (.list (toldL ps))), some (.fz (.list (ns.map .int))), some (.ow (.dict (mergeD [] (ns.map fun n => (Sum.inl n, PyData.bool true))))), none, none, none, none] := by
      unfold sAsgDP
      rw [c2]
      show setDP _ 3 (ns.map fun n => PyData.tuple [.int n, .bool true]) = _
      unfold setDP
      rw [pairs_ints]
      rfl
    refine st_nx s2 ?_
    have c3 : dLc (dItems (dVar 0)) (bName 7) (dTest (dBin eqD (dBin ixD (dVar 7) (dC (.int 0))) (dC (.str "over")))) (dBin addD (dBin ixD (dVar 7) (dC (.int 1))) (dC (.int 1))) [7] [some (.fz (psD ps)), some (.fz (.list (toldL ps))), some (.fz (.list (ns.map .int))), some (.ow (.dict (mergeD [] (ns.map fun n => (Sum.inl n, PyData.bool true))))), none, none, none, none] = .ok ((ps.filter isOver).map overG) := by
      refine dLc_go (ds := ps.map Lik.D) (by simp [psD]) (by rw [List.length_map]; omega) (lcGo_filter2 (p := isOver) fun b _ => ⟨_, rfl, ?_, fun hb => ?_⟩)
      · obtain ⟨w, w1, w2⟩ := over_word b
        simp only [wipeR_c, wipeR_n, List.set, dTest_ap, dBin_ap, dVar_0, dVar_s, R.bind_ok, dC_ap, w1, R.of_some, eqD_s, w2]
        rfl
      · cases b <;> first | (cases hb; done) | skip
        rename_i i hm
        have w1 : ixD (Lik.over i).D (.int 1) = some (.int i) := rfl
        simp only [wipeR_c, wipeR_n, List.set, dBin_ap, dVar_0, dVar_s, R.bind_ok, dC_ap, w1, R.of_some, addD_i]
        rfl
    have c4 : dItems (dAsL (dCat (dLst (dCons (dUn negD (dC (.int 999))) dNil)) (dLc (dItems (dVar 0)) (bName 7) (dTest (dBin eqD (dBin ixD (dVar 7) (dC (.int 0))) (dC (.str "over")))) (dBin addD (dBin ixD (dVar 7) (dC (.int 1))) (dC (.int 1))) [7]))) [some (.fz (psD ps)), some (.fz (.list (toldL ps))), some (.fz (.list (ns.map .int))), some (.ow (.dict (mergeD [] (ns.map fun n => (Sum.inl n, PyData.bool true))))), none, none, none, none] = .ok ((startsL ps).map .int) := by
      have eY : (startsL ps).map PyData.int = .int (-999) :: (ps.filter isOver).map overG := by rw [starts_map]; rfl
      have hx : ([PyData.int (-999)] : List PyData).length + ((ps.filter isOver).map overG).length ≤ 1000000 := by
        have := List.length_filter_le isOver ps
        rw [List.length_map]
        simp
        omega
      rw [eY]
      have e0 : dLst (dCons (dUn negD (dC (.int 999))) dNil) [some (.fz (psD ps)), some (.fz (.list (toldL ps))), some (.fz (.list (ns.map .int))), some (.ow (.dict (mergeD [] (ns.map fun n => (Sum.inl n, PyData.bool true))))), none, none, none, none] = .ok [.int (-999)] := rfl
      rw [dItems_ap, dAsL_go (ys := .int (-999) :: (ps.filter isOver).map overG) (by
        rw [dCat_ap, e0, c3]
        show (if _ then _ else _) = _
        rw [if_pos hx]
        rfl)]
      rfl
    refine st_for c4 g6 ?_
    show sRet (dAsL (dSorted (dKeysK (dVar 3)))) [some (.fz (psD ps)), some (.fz (.list (toldL ps))), some (.fz (.list (ns.map .int))), some (.fz (.dict ds')), b4, b5, none, none] = _
    have e1 : dKeysK (dVar 3) [some (.fz (psD ps)), some (.fz (.list (toldL ps))), some (.fz (.list (ns.map .int))), some (.fz (.dict ds')), b4, b5, none, none] = .ok (ks'.map keyD) := hkeys
    have e2 : dSorted (dKeysK (dVar 3)) [some (.fz (psD ps)), some (.fz (.list (toldL ps))), some (.fz (.list (ns.map .int))), some (.fz (.dict ds')), b4, b5, none, none] = .ok (sortD (ks'.map keyD)) := by
      rw [dSorted_ap, e1]
      show (if _ then _ else _) = _
      rw [if_pos hsort]
    simp only [sRet_ap, dAsL_go e2, Fl.of_ok]
  · obtain ⟨k, hk, rfl⟩ := List.mem_map.mp (mem_sortD.mp hd)
    obtain ⟨n, rfl, h⟩ := rng k hk
    exact ⟨n, rfl, h⟩
  · exact (memN k).mpr (g3 _ ((k2 _).mpr (.inr ⟨(.inl k, .bool true), List.mem_map.mpr ⟨k, (mn k).mpr hk, rfl⟩, rfl⟩)))
  · obtain ⟨n, n1, n2, n3, n4⟩ := g5 s hs v h1 h2 (fun z => h3 ((mn v).mp z))
    exact ⟨n, (memN n).mpr n1, n2, n3, fun z => n4 ((mn n).mpr z)⟩
  · rw [sortD_len, List.length_map]
    omega
end Pu

namespace Pu
open PySem PySem.Spec PyProof.Rows L2
/-! ### one_longer -/
abbrev F_one_longer := runD 4 fb_one_longer
def ch (c : Nat) : Str := ⟨#[c]⟩
theorem nodup_sub {α : Type} [BEq α] [LawfulBEq α] : ∀ {xs ys : List α}, xs.Nodup → (∀ x ∈ xs, x ∈ ys) → xs.length ≤ ys.length
  | [], ys, _, _ => Nat.zero_le _
  | x :: xs, ys, nd, h => by
    have hx := h x (by simp)
    rw [List.nodup_cons] at nd
    have := nodup_sub (xs := xs) (ys := ys.erase x) nd.2 (fun z hz => (List.mem_erase_of_ne (fun e => nd.1 (by rw [← e]; exact hz))).mpr (h z (by simp [hz])))
    rw [List.length_erase_of_mem hx] at this
    have : 0 < ys.length := List.length_pos_of_mem hx
    simp only [List.length_cons]
    omega
theorem app_toList (w : Str) (c : Nat) : (w ++ ch c).cps.toList = w.cps.toList ++ [c] := by
  show (w.cps ++ #[c]).toList = _
  simp
theorem len_toList (w : Str) : w.cps.toList.length = w.length := by simp [Str.length]
theorem app_len (w : Str) (c : Nat) : (w ++ ch c).length = w.length + 1 := by
  show (w.cps ++ #[c]).size = w.cps.size + 1
  simp
theorem begs_char {k w : Str} {c : Nat} (h : begs k (w ++ ch c) = true) : k.cps.toList[w.length]? = some c := by
  obtain ⟨r, e⟩ := begs_iff.mp h
  rw [app_toList] at e
  rw [← e, ← len_toList w]
  simp
theorem free_letter (w : Str) (known : List Str) (h : known.length < 26) : ∃ c ∈ letters.cps.toList, ∀ k ∈ known, begs k (w ++ ch c) = false := by
  apply Classical.byContradiction
  intro z
  have all : ∀ c ∈ letters.cps.toList, c ∈ known.filterMap fun k => k.cps.toList[w.length]? := fun c hc => by
    apply Classical.byContradiction
    intro y
    refine z ⟨c, hc, fun k hk => ?_⟩
    cases e : begs k (w ++ ch c) with
    | false => rfl
    | true => exact (y (List.mem_filterMap.mpr ⟨k, hk, begs_char e⟩)).elim
  have l1 := nodup_sub (by decide +kernel) all
  have l2 := List.length_filterMap_le (fun k : Str => k.cps.toList[w.length]?) known
  have l3 : letters.cps.toList.length = 26 := by decide +kernel
  omega
def olB : Ro → Fl := (sIf (dNot (dTest (dCall anyD (dCons (dAsL (dLc (dItems (dVar 1)) (bName 3) dYes (dMeth isStr startsD (dVar 3) (dCons (dBin addD (dVar 0) (dVar 2)) dNil)) [3])) dNil)))) (sRet (dBin addD (dVar 0) (dVar 2))) sNil)
theorem ol_body {w : Str} {known : List Str} {c : Nat} (hw : w.length ≤ 100) (hk : known.length ≤ 1000) : olB [some (.fz (.str w)), some (.fz (.list (known.map .str))), some (.fz (.str (ch c))), none] =
    if known.any (fun k => begs k (w ++ ch c)) then .nx [some (.fz (.str w)), some (.fz (.list (known.map .str))), some (.fz (.str (ch c))), none] else .rt (.str (w ++ ch c)) := by
  have ad : addD (.str w) (.str (ch c)) = some (.str (w ++ ch c)) := by
    show (if w.length + (ch c).length ≤ 1000000 then some (PyData.str (w ++ ch c)) else none) = _
    rw [if_pos (by have : (ch c).length = 1 := rfl; omega)]
  have g1 : lcGo (bName 3) dYes (dMeth isStr startsD (dVar 3) (dCons (dBin addD (dVar 0) (dVar 2)) dNil)) [some (.fz (.str w)), some (.fz (.list (known.map .str))), some (.fz (.str (ch c))), none] (known.map .str) = some (known.map fun k => PyData.bool (begs k (w ++ ch c))) :=
    lcGo_mapD fun k _ => ⟨_, rfl, by
      have st : startsD (.str k) [.str (w ++ ch c)] = some (.bool (begs k (w ++ ch c))) := by rw [← starts_begs]; rfl
      simp only [List.set, dMeth_ap, dVar_0, dVar_s, R.bind_ok, isStr, if_true, dCons_ap, dBin_ap, ad, R.of_some, dNil_ap, st]⟩
  have g2 := dAsL_go (dLc_go (fi := dItems (dVar 1)) (vs := [3]) (ρ := [some (.fz (.str w)), some (.fz (.list (known.map .str))), some (.fz (.str (ch c))), none]) (ds := known.map .str) (by simp) (by rw [List.length_map]; omega) g1)
  have g3 := anyD_map known fun k => begs k (w ++ ch c)
  have t : dTest (dCall anyD (dCons (dAsL (dLc (dItems (dVar 1)) (bName 3) dYes (dMeth isStr startsD (dVar 3) (dCons (dBin addD (dVar 0) (dVar 2)) dNil)) [3])) dNil)) [some (.fz (.str w)), some (.fz (.list (known.map .str))), some (.fz (.str (ch c))), none] = .ok (known.any fun k => begs k (w ++ ch c)) := by
    simp only [dTest_ap, dCall_ap, dCons_ap, g2, R.bind_ok, dNil_ap, g3, R.of_some]
    rfl
  have tn : dNot (dTest (dCall anyD (dCons (dAsL (dLc (dItems (dVar 1)) (bName 3) dYes (dMeth isStr startsD (dVar 3) (dCons (dBin addD (dVar 0) (dVar 2)) dNil)) [3])) dNil))) [some (.fz (.str w)), some (.fz (.list (known.map .str))), some (.fz (.str (ch c))), none] = .ok (!(known.any fun k => begs k (w ++ ch c))) := by
    unfold dNot
    rw [t]
    rfl
  unfold olB
  rw [sIf_ap, tn]
  cases h : known.any fun k => begs k (w ++ ch c) with
  | true => rfl
  | false =>
    show sRet (dBin addD (dVar 0) (dVar 2)) [some (.fz (.str w)), some (.fz (.list (known.map .str))), some (.fz (.str (ch c))), none] = _
    simp [ad]
theorem ol_loop {w : Str} {known : List Str} (hw : w.length ≤ 100) (hk : known.length ≤ 1000) : ∀ (cs : List Nat) (a2 : Option Cel), (∃ c ∈ cs, ∀ k ∈ known, begs k (w ++ ch c) = false) → ∃ c ∈ cs, (∀ k ∈ known, begs k (w ++ ch c) = false) ∧
    forGo (bName 2) olB [some (.fz (.str w)), some (.fz (.list (known.map .str))), a2, none] (cs.map fun c => PyData.str (ch c)) = .rt (.str (w ++ ch c))
  | [], _, ⟨c, h, _⟩ => by simp at h
  | c :: cs, a2, hex => by
    have body := ol_body (w := w) (known := known) (c := c) hw hk
    by_cases h : (known.any fun k => begs k (w ++ ch c)) = true
    · obtain ⟨d, hd, gd⟩ := hex
      have hd' : d ∈ cs := by
        rcases List.mem_cons.mp hd with rfl | hd
        · obtain ⟨k, k1, k2⟩ := List.any_eq_true.mp h
          rw [gd k k1] at k2
          cases k2
        · exact hd
      obtain ⟨e, e1, e2, e3⟩ := ol_loop hw hk cs (some (.fz (.str (ch c)))) ⟨d, hd', gd⟩
      refine ⟨e, by simp [e1], e2, ?_⟩
      rw [List.map_cons, forGo.eq_2]
      simp only [bName_ap, List.set]
      rw [if_pos h] at body
      simp only [body]
      exact e3
    · refine ⟨c, by simp, fun k hk => ?_, ?_⟩
      · cases e : begs k (w ++ ch c) with
        | false => rfl
        | true => exact (h (List.any_eq_true.mpr ⟨k, hk, e⟩)).elim
      · rw [List.map_cons, forGo.eq_2]
        simp only [bName_ap, List.set]
        rw [if_neg h] at body
        simp only [body]
theorem one_longer_eq {w : Str} {known : List Str} (hw : w.length ≤ 100) (hk : known.length < 26) : ∃ c, lett c = true ∧ (∀ k ∈ known, begs k (w ++ ch c) = false) ∧ F_one_longer [.str w, .list (known.map .str)] = .ok (.str (w ++ ch c)) := by
  obtain ⟨c, c1, c2, c3⟩ := ol_loop hw (by omega) letters.cps.toList none (free_letter w known hk)
  refine ⟨c, decide_eq_true c1, c2, runD_rt ?_⟩
  show sFor (dItems (dC (.str "abcdefghijklmnopqrstuvwxyz"))) (bName 2) olB [some (.fz (.str w)), some (.fz (.list (known.map .str))), none, none] = _
  rw [sFor_ap, show dItems (dC (.str "abcdefghijklmnopqrstuvwxyz")) [some (.fz (.str w)), some (.fz (.list (known.map .str))), none, none] = .ok (letters.cps.toList.map fun c => PyData.str (ch c)) from rfl]
  exact c3
theorem word_app {w : Str} {c : Nat} (hw : w.length = 0 ∨ Word w) (hl : w.length < 6) (hc : lett c = true) : Word (w ++ ch c) := by
  rw [Word_iff]
  refine ⟨by rw [app_len]; omega, by rw [app_len]; omega, fun d hd => ?_⟩
  rw [app_toList] at hd
  rcases List.mem_append.mp hd with h | h
  · rcases hw with hw | hw
    · have : w.cps.toList = [] := List.eq_nil_of_length_eq_zero (by rw [len_toList]; exact hw)
      rw [this] at h
      simp at h
    · exact (Word_iff.mp hw).2.2 d h
  · simp at h; subst h; exact hc
end Pu

namespace Pu
open PySem PySem.Spec PyProof.Rows L2
/-! ### texts_for -/
abbrev F_texts_for := runD 7 (fb_texts_for F_one_longer)
def strsT : List PyData → List Str
  | [] => []
  | .str i :: r => i :: strsT r
  | _ :: r => strsT r
theorem strsT_filter : ∀ ds : List PyData, ds.filter isStr = (strsT ds).map .str
  | [] => rfl
  | d :: ds => by
    have ih := strsT_filter ds
    cases d <;> (rw [List.filter_cons, ih]; rfl)
theorem mem_strsT {i : Str} : ∀ {ds : List PyData}, i ∈ strsT ds ↔ .str i ∈ ds
  | [] => by simp [strsT]
  | d :: ds => by
    have ih := mem_strsT (i := i) (ds := ds)
    cases d <;> simp [strsT, ih]
theorem strsT_len : ∀ ds : List PyData, (strsT ds).length ≤ ds.length
  | [] => Nat.le_refl _
  | d :: ds => by
    have ih := strsT_len ds
    cases d <;> simp [strsT] <;> omega
def isBeg : Lik → Bool
  | .begins _ => true
  | _ => false
def begT : List Lik → List Str
  | [] => []
  | .begins w :: r => w :: begT r
  | _ :: r => begT r
def begG : Lik → PyData
  | .begins w => .str w
  | _ => .none
theorem begT_filter : ∀ ps : List Lik, (ps.filter isBeg).map begG = (begT ps).map .str
  | [] => rfl
  | b :: ps => by
    have ih := begT_filter ps
    cases b <;> (rw [List.filter_cons]; first | exact ih | (show PyData.str _ :: _ = _; rw [ih]; rfl))
theorem mem_begT {w : Str} : ∀ {ps : List Lik}, w ∈ begT ps ↔ .begins w ∈ ps
  | [] => by simp [begT]
  | b :: ps => by
    have ih := mem_begT (w := w) (ps := ps)
    cases b <;> simp [begT, ih]
theorem begT_len : ∀ ps : List Lik, (begT ps).length ≤ ps.length
  | [] => Nat.le_refl _
  | b :: ps => by
    have ih := begT_len ps
    cases b <;> simp [begT] <;> omega
theorem beg_word (b : Lik) : ∃ w : Str, ixD b.D (.int 0) = some (.str w) ∧ (w == "begins") = isBeg b := by
  cases b <;> first | exact ⟨_, rfl, rfl⟩ | exact ⟨_, rfl, by decide +kernel⟩
def kn (ps : List Lik) : List Str := strsT (toldL ps) ++ begT ps
theorem mem_kn {ps : List Lik} {w : Str} : w ∈ kn ps ↔ knownT ps w := by
  unfold kn knownT
  rw [List.mem_append, mem_strsT, mem_begT]
theorem kn_word {ps : List Lik} (hp : ∀ b ∈ ps, b.ok) {w : Str} (h : knownT ps w) : Word w := by
  rcases h with h | h
  · exact told_str hp h
  · exact hp _ h
theorem pairs_strs : ∀ ns : List Str, pairsOf (ns.map fun n => PyData.tuple [.str n, .bool true]) = some (ns.map fun n => (Sum.inr n, PyData.bool true))
  | [] => rfl
  | n :: ns => by
    show ((pairOf (.tuple [.str n, .bool true])).bind fun q => (pairsOf (ns.map fun n => PyData.tuple [.str n, .bool true])).map (q :: ·)) = _
    rw [pairs_strs ns]
    rfl
structure TxtsOk (ps : List Lik) (T : List PyData) : Prop where
  rng : ∀ d ∈ T, ∃ w, d = .str w ∧ Word w
  txt : ∀ w, knownT ps w → .str w ∈ T
  long : ∀ w : Str, (w.length = 0 ∨ knownT ps w) → w.length < 6 → ∃ t, .str t ∈ T ∧ begs t w = true ∧ t.length = w.length + 1 ∧ ∀ k, knownT ps k → begs k t = false
  len : T.length ≤ 2 * (kn ps).length + 1
def txtBody (g : List PyData → R PyData) : Ro → Fl := (sFrz 2 (sIf (dTest (dBin ltD (dCall lenD (dCons (dVar 4) dNil)) (dC (.int 6)))) (sFrz 2 (sPutK 3 (dCallF 2 g (dCons (dVar 4) (dCons (dVar 2) dNil))) (dC (.bool true)))) sNil))
theorem begs_app (w : Str) (c : Nat) : begs (w ++ ch c) w = true := by
  rw [begs_iff, app_toList]
  exact List.prefix_append _ _
theorem txt_for {g : List PyData → R PyData} (a0 a1 a5 a6 : Option Cel) (ks0 : List Str) (hg : ∀ w : Str, w.length ≤ 100 → ∃ c, lett c = true ∧ (∀ k ∈ ks0, begs k (w ++ ch c) = false) ∧ g [.str w, .list (ks0.map .str)] = .ok (.str (w ++ ch c))) : ∀ (ws : List Str) (ds : Kvs) (ks : List Key) (a4 : Option Cel), (∀ w ∈ ws, w.length = 0 ∨ Word w) → KK ds ks → ks.length + ws.length ≤ 5000 → ∃ ds' ks' b4, KK ds' ks' ∧ ks'.length ≤ ks.length + ws.length ∧ (∀ k ∈ ks, k ∈ ks') ∧ (∀ k ∈ ks', k ∈ ks ∨ ∃ n : Str, k = .inr n ∧ Word n) ∧
    (∀ w ∈ ws, w.length < 6 → ∃ t : Str, Sum.inr t ∈ ks' ∧ begs t w = true ∧ t.length = w.length + 1 ∧ ∀ k ∈ ks0, begs k t = false) ∧
    forGo (bName 4) (txtBody g) [a0, a1, some (.fz (.list (ks0.map .str))), some (.ow (.dict ds)), a4, a5, a6] (ws.map .str) = .nx [a0, a1, some (.fz (.list (ks0.map .str))), some (.ow (.dict ds')), b4, a5, a6]
  | [], ds, ks, a4, _, hk, _ => ⟨ds, ks, a4, hk, by simp, fun _ h => h, fun _ h => .inl h, fun s h => by simp at h, rfl⟩
  | w :: ws, ds, ks, a4, hs, hk, hl => by
    simp only [List.length_cons] at hl
    have hlen := hk.len
    have hs0 := hs w (by simp)
    have hw6 : w.length ≤ 6 := by
      rcases hs0 with h | h
      · omega
      · exact (Word_iff.mp h).2.1
    by_cases h6 : w.length < 6
    · obtain ⟨c, c1, c2, c3⟩ := hg w (by omega)
      have lt : ltD (.int (w.length : Int)) (.int 6) = some (.bool true) := by rw [ltD_i]; simp; omega
      have body : txtBody g [a0, a1, some (.fz (.list (ks0.map .str))), some (.ow (.dict ds)), some (.fz (.str w)), a5, a6] = .nx [a0, a1, some (.fz (.list (ks0.map .str))), some (.ow (.dict (putKD ds (.inr (w ++ ch c)) (.bool true)))), some (.fz (.str w)), a5, a6] := by
        show sIf (dTest (dBin ltD (dCall lenD (dCons (dVar 4) dNil)) (dC (.int 6)))) (sFrz 2 (sPutK 3 (dCallF 2 g (dCons (dVar 4) (dCons (dVar 2) dNil))) (dC (.bool true)))) sNil [a0, a1, some (.fz (.list (ks0.map .str))), some (.ow (.dict ds)), some (.fz (.str w)), a5, a6] = _
        refine st_yes (by simp only [dTest_ap, dBin_ap, dCall_ap, dCons_ap, dVar_0, dVar_s, R.bind_ok, dNil_ap, lenD_s, R.of_some, dC_ap, lt]; rfl) ?_
        show sPutK 3 (dCallF 2 g (dCons (dVar 4) (dCons (dVar 2) dNil))) (dC (.bool true)) [a0, a1, some (.fz (.list (ks0.map .str))), some (.ow (.dict ds)), some (.fz (.str w)), a5, a6] = _
        exact sPutK_go (k := .inr (w ++ ch c)) rfl rfl (by simp [c3, keyD]) (by omega)
      obtain ⟨ds', ks', b4, g1, g2, g3, g4, g5, g6⟩ := txt_for a0 a1 a5 a6 ks0 hg ws (putKD ds (.inr (w ++ ch c)) (.bool true)) (insK ks (.inr (w ++ ch c))) (some (.fz (.str w))) (fun x hx => hs x (by simp [hx])) (hk.put _ _) (by have := insK_len ks (.inr (w ++ ch c)); omega)
      refine ⟨ds', ks', b4, g1, ?_, fun k h => g3 k (mem_insK.mpr (.inl h)), fun k h => ?_, fun x hx h => ?_, ?_⟩
      · have := insK_len ks (.inr (w ++ ch c)); simp only [List.length_cons]; omega
      · rcases g4 k h with h | h
        · rcases mem_insK.mp h with h | h
          · exact .inl h
          · exact .inr ⟨_, h, word_app hs0 h6 c1⟩
        · exact .inr h
      · rcases List.mem_cons.mp hx with rfl | hx
        · exact ⟨_, g3 _ (mem_insK.mpr (.inr rfl)), begs_app x c, app_len x c, c2⟩
        · exact g5 x hx h
      · rw [List.map_cons, forGo.eq_2]
        simp only [bName_ap, List.set]
        simp only [body]
        exact g6
    · have lt : ltD (.int (w.length : Int)) (.int 6) = some (.bool false) := by rw [ltD_i]; simp; omega
      have body : txtBody g [a0, a1, some (.fz (.list (ks0.map .str))), some (.ow (.dict ds)), some (.fz (.str w)), a5, a6] = .nx [a0, a1, some (.fz (.list (ks0.map .str))), some (.ow (.dict ds)), some (.fz (.str w)), a5, a6] := by
        show sIf (dTest (dBin ltD (dCall lenD (dCons (dVar 4) dNil)) (dC (.int 6)))) (sFrz 2 (sPutK 3 (dCallF 2 g (dCons (dVar 4) (dCons (dVar 2) dNil))) (dC (.bool true)))) sNil [a0, a1, some (.fz (.list (ks0.map .str))), some (.ow (.dict ds)), some (.fz (.str w)), a5, a6] = _
        rw [sIf_ap, show dTest (dBin ltD (dCall lenD (dCons (dVar 4) dNil)) (dC (.int 6))) [a0, a1, some (.fz (.list (ks0.map .str))), some (.ow (.dict ds)), some (.fz (.str w)), a5, a6] = .ok false by simp only [dTest_ap, dBin_ap, dCall_ap, dCons_ap, dVar_0, dVar_s, R.bind_ok, dNil_ap, lenD_s, R.of_some, dC_ap, lt]; rfl]
        rfl
      obtain ⟨ds', ks', b4, g1, g2, g3, g4, g5, g6⟩ := txt_for a0 a1 a5 a6 ks0 hg ws ds ks (some (.fz (.str w))) (fun x hx => hs x (by simp [hx])) hk (by omega)
      refine ⟨ds', ks', b4, g1, by simp only [List.length_cons]; omega, g3, g4, fun x hx h => ?_, ?_⟩
      · rcases List.mem_cons.mp hx with rfl | hx
        · omega
        · exact g5 x hx h
      · rw [List.map_cons, forGo.eq_2]
        simp only [bName_ap, List.set]
        simp only [body]
        exact g6
theorem strsT_app : ∀ (a b : List PyData), strsT (a ++ b) = strsT a ++ strsT b
  | [], _ => rfl
  | d :: a, b => by
    have ih := strsT_app a b
    cases d <;> simp [strsT, ih]
theorem kn_len {ps : List Lik} (hp : ∀ b ∈ ps, b.ok) : (kn ps).length ≤ 2 * ps.length := by
  induction ps with
  | nil => simp [kn, toldL, strsT, begT]
  | cons b ps ih =>
    have ih := ih fun x hx => hp x (by simp [hx])
    have hb := hp b (by simp)
    have e : toldL (b :: ps) = toldOf b ++ toldL ps := by simp [toldL]
    unfold kn at ih ⊢
    rw [e, strsT_app]
    simp only [List.length_append, List.length_cons] at ih ⊢
    have : (strsT (toldOf b)).length + (begT (b :: ps)).length ≤ 2 + (begT ps).length := by
      cases b with
      | is v =>
        rcases val_cases (show isVal v = true from hb) with h | ⟨ds, rfl, h2, _⟩
        · cases v <;> first | (simp [toldOf, strsT, begT]; done) | (simp [toldOf, strsT, begT]; omega) | (simp [leaf_notup] at h)
        · have := strsT_len ds
          simp [toldOf, strsT, begT]
          omega
      | _ => simp [toldOf, strsT, begT] <;> omega
    omega
theorem texts_eq {ps : List Lik} (hp : ∀ b ∈ ps, b.ok) (hl : ps.length ≤ 12) : ∃ T, F_texts_for [psD ps, .list (toldL ps)] = .ok (.list T) ∧ TxtsOk ps T := by
  have tl := toldL_len hp
  have kl := kn_len hp
  have sl := strsT_len (toldL ps)
  have bl := begT_len ps
  have ekn : kn ps = strsT (toldL ps) ++ begT ps := rfl
  have mk := fun w => mem_kn (ps := ps) (w := w)
  generalize kn ps = ks0 at kl ekn mk
  obtain ⟨kk0, k1, k2, k3⟩ := KK.merge (ks0.map fun n => (Sum.inr n, PyData.bool true)) (ds := []) (ks := []) rfl
  have k3' : kk0.length ≤ ks0.length := by simpa using k3
  obtain ⟨ds', ks', b4, g1, g2, g3, g4, g5, g6⟩ := txt_for (g := F_one_longer) (some (.fz (psD ps))) (some (.fz (.list (toldL ps)))) none none ks0 (fun w hw => one_longer_eq hw (by omega)) ("" :: ks0) _ kk0 none (fun w h => by
    rcases List.mem_cons.mp h with rfl | h
    · exact .inl rfl
    · exact .inr (kn_word hp ((mk w).mp h))) k1 (by simp; omega)
  have rng : ∀ k ∈ ks', ∃ n : Str, k = .inr n ∧ Word n := fun k hk => by
    rcases g4 k hk with h | h
    · rcases (k2 k).mp h with h | ⟨q, hq, rfl⟩
      · simp at h
      · obtain ⟨n, hn, rfl⟩ := List.mem_map.mp hq
        exact ⟨n, rfl, kn_word hp ((mk n).mp hn)⟩
    · exact h
  have ne : ks' ≠ [] := by
    intro z
    obtain ⟨t, t1, _⟩ := g5 "" (by simp) (by show (0 : Nat) < 6; omega)
    rw [z] at t1
    simp at t1
  have lk : ks'.length ≤ 2 * ks0.length + 1 := by simp only [List.length_cons] at g2; omega
  have hkeys := keysK_eq g1 ne (by omega) (fun k hk => by
    obtain ⟨n, rfl, h⟩ := rng k hk
    have w := Word_iff.mp h
    show (PyData.canLay0 (.str n) && decide (n.length ≤ 1000000)) = true
    rw [word_lay w.2.2, decide_eq_true (by omega)]
    rfl)
  have hsort := sortB_strs (ks := ks') (fun k hk => by obtain ⟨n, rfl, _⟩ := rng k hk; exact ⟨n, rfl⟩)
  have memN : ∀ n : Str, PyData.str n ∈ sortD (ks'.map keyD) ↔ Sum.inr n ∈ ks' := fun n => by
    rw [mem_sortD, List.mem_map]
    constructor
    · rintro ⟨k, hk, e⟩
      have : k = .inr n := keyD_inj (b := .inr n) e
      rw [← this]; exact hk
    · exact fun h => ⟨_, h, rfl⟩
  refine ⟨sortD (ks'.map keyD), ?_, fun d hd => ?_, fun k hk => ?_, fun w h1 h2 => ?_, ?_⟩
  · refine runD_rt ?_
    unfold fb_texts_for
    rw [show startR 7 [psD ps, .list (toldL ps)] = [some (.fz (psD ps)), some (.fz (.list (toldL ps))), none, none, none, none, none] from rfl]
    have c1 : lcGo (bName 5) (dTest (dUn (isiD "str") (dVar 5))) (dVar 5) [some (.fz (psD ps)), some (.fz (.list (toldL ps))), none, none, none, none, none] (toldL ps) = some ((strsT (toldL ps)).map .str) := by
      have := lcGo_filter (b := bName 5) (ft := dTest (dUn (isiD "str") (dVar 5))) (fe := dVar 5) (ρ := [some (.fz (psD ps)), some (.fz (.list (toldL ps))), none, none, none, none, none]) (D := fun d : PyData => d) (g := fun d => d) (p := isStr) (xs := toldL ps) (fun d _ => ⟨_, rfl, by simp [isi_str], rfl⟩)
      rw [List.map_id', List.map_id', strsT_filter] at this
      exact this
    refine st_setL (v := (strsT (toldL ps)).map .str) (dLc_go (ds := toldL ps) (by simp) (by omega) c1) (by simp) ?_
    simp only [List.set]
    have c2 : dLc (dItems (dVar 0)) (bName 6) (dTest (dBin eqD (dBin ixD (dVar 6) (dC (.int 0))) (dC (.str "begins")))) (dBin ixD (dVar 6) (dC (.int 1))) [6] [some (.fz (psD ps)), some (.fz (.list (toldL ps))), some (.ow (.list ((strsT (toldL ps)).map .str))), none, none, none, none] = .ok ((begT ps).map .str) := by
      rw [← begT_filter]
      refine dLc_go (ds := ps.map Lik.D) (by simp [psD]) (by rw [List.length_map]; omega) (lcGo_filter2 (p := isBeg) fun b _ => ⟨_, rfl, ?_, fun hb => ?_⟩)
      · obtain ⟨w, w1, w2⟩ := beg_word b
        simp only [wipeR_c, wipeR_n, List.set, dTest_ap, dBin_ap, dVar_0, dVar_s, R.bind_ok, dC_ap, w1, R.of_some, eqD_s, w2]
        rfl
      · cases b <;> first | (cases hb; done) | skip
        rename_i i hm
        have w1 : ixD (Lik.begins i).D (.int 1) = some (.str i) := rfl
        simp only [wipeR_c, wipeR_n, List.set, dBin_ap, dVar_0, dVar_s, R.bind_ok, dC_ap, w1, R.of_some]
        rfl
    refine st_nx (sExt_go (ds := (strsT (toldL ps)).map .str) (es := (begT ps).map .str) rfl c2 (by rw [List.length_map, List.length_map]; omega)) ?_
    simp only [List.set]
    rw [← List.map_append, ← ekn]
    have c3 : dLc (dItems (dVar 2)) (bName 4) dYes (dTup (dCons (dVar 4) (dCons (dC (.bool true)) dNil))) [4] [some (.fz (psD ps)), some (.fz (.list (toldL ps))), some (.fz (.list (ks0.map .str))), none, none, none, none] = .ok (ks0.map fun n => PyData.tuple [.str n, .bool true]) :=
      dLc_go (ds := ks0.map .str) (by simp) (by rw [List.length_map]; omega) (lcGo_mapD (D := PyData.str) fun n _ => ⟨_, rfl, by simp⟩)
    have s2 : sFrz 2 (sAsgDP 3 (dLc (dItems (dVar 2)) (bName 4) dYes (dTup (dCons (dVar 4) (dCons (dC (.bool true)) dNil))) [4])) [some (.fz (psD ps)), some (.fz (.list (toldL ps))), some (.ow (.list (ks0.map .str))), none, none, none, none] = .nx [some (.fz (psD ps)), some (.fz (.list (toldL ps))), some (.fz (.list (ks0.map .str))), some (.ow (.dict (mergeD [] (ks0.map fun n => (Sum.inr n, PyData.bool true))))), none, none, none] := by
      show sAsgDP 3 (dLc (dItems (dVar 2)) (bName 4) dYes (dTup (dCons (dVar 4) (dCons (dC (.bool true)) dNil))) [4]) [some (.fz (psD ps)), some (.fz (.list (toldL ps))), some (.fz (.list (ks0.map .str))), none, none, none, none] = _
      unfold sAsgDP
      rw [c3]
      show setDP _ 3 (ks0.map fun n => PyData.tuple [.str n, .bool true]) = _
      unfold setDP
      rw [pairs_strs]
      rfl
    refine st_nx s2 ?_
    have c4 : dItems (dAsL (dCat (dLst (dCons (dC (.str "")) dNil)) (dOfD (dVar 2)))) [some (.fz (psD ps)), some (.fz (.list (toldL ps))), some (.fz (.list (ks0.map .str))), some (.ow (.dict (mergeD [] (ks0.map fun n => (Sum.inr n, PyData.bool true))))), none, none, none] = .ok ((("" : Str) :: ks0).map PyData.str) := by
      have hx : ([PyData.str ""] : List PyData).length + (ks0.map PyData.str).length ≤ 1000000 := by rw [List.length_map]; simp; omega
      rw [dItems_ap, dAsL_go (ys := (("" : Str) :: ks0).map PyData.str) (by
        rw [dCat_ap]
        show (if _ then _ else _) = _
        rw [if_pos hx]
        rfl)]
      rfl
    have s3 : sFrz 2 (sFor (dItems (dAsL (dCat (dLst (dCons (dC (.str "")) dNil)) (dOfD (dVar 2))))) (bName 4) (txtBody F_one_longer)) [some (.fz (psD ps)), some (.fz (.list (toldL ps))), some (.fz (.list (ks0.map .str))), some (.ow (.dict (mergeD [] (ks0.map fun n => (Sum.inr n, PyData.bool true))))), none, none, none] = .nx [some (.fz (psD ps)), some (.fz (.list (toldL ps))), some (.fz (.list (ks0.map .str))), some (.ow (.dict ds')), b4, none, none] := by
      show sFor (dItems (dAsL (dCat (dLst (dCons (dC (.str "")) dNil)) (dOfD (dVar 2))))) (bName 4) (txtBody F_one_longer) [some (.fz (psD ps)), some (.fz (.list (toldL ps))), some (.fz (.list (ks0.map .str))), some (.ow (.dict (mergeD [] (ks0.map fun n => (Sum.inr n, PyData.bool true))))), none, none, none] = _
      rw [sFor_ap, c4]
      exact g6
    refine st_nx s3 ?_
    show sRet (dAsL (dSorted (dKeysK (dVar 3)))) [some (.fz (psD ps)), some (.fz (.list (toldL ps))), some (.fz (.list (ks0.map .str))), some (.fz (.dict ds')), b4, none, none] = _
    have e1 : dKeysK (dVar 3) [some (.fz (psD ps)), some (.fz (.list (toldL ps))), some (.fz (.list (ks0.map .str))), some (.fz (.dict ds')), b4, none, none] = .ok (ks'.map keyD) := hkeys
    have e2 : dSorted (dKeysK (dVar 3)) [some (.fz (psD ps)), some (.fz (.list (toldL ps))), some (.fz (.list (ks0.map .str))), some (.fz (.dict ds')), b4, none, none] = .ok (sortD (ks'.map keyD)) := by
      rw [dSorted_ap, e1]
      show (if _ then _ else _) = _
      rw [if_pos hsort]
    simp only [sRet_ap, dAsL_go e2, Fl.of_ok]
  · obtain ⟨k, hk, rfl⟩ := List.mem_map.mp (mem_sortD.mp hd)
    obtain ⟨n, rfl, h⟩ := rng k hk
    exact ⟨n, rfl, h⟩
  · exact (memN k).mpr (g3 _ ((k2 _).mpr (.inr ⟨(.inr k, .bool true), List.mem_map.mpr ⟨k, (mk k).mpr hk, rfl⟩, rfl⟩)))
  · have hw : w ∈ ("" :: ks0 : List Str) := by
      rcases h1 with h1 | h1
      · have : w = "" := str_ext (by
          have : w.cps.toList = [] := List.eq_nil_of_length_eq_zero (by rw [len_toList]; exact h1)
          rw [this]
          rfl)
        rw [this]; simp
      · simp [(mk w).mpr h1]
    obtain ⟨t, t1, t2, t3, t4⟩ := g5 w hw h2
    exact ⟨t, (memN t).mpr t1, t2, t3, fun k hk => t4 k ((mk k).mpr hk)⟩
  · rw [sortD_len, List.length_map]
    have : (kn ps).length = ks0.length := by rw [ekn]; rfl
    omega
end Pu

namespace Pu
open PySem PySem.Spec PyProof.Rows L2
/-! ### values_for, sample_of -/
abbrev F_values_for := runD 6 (fb_values_for F_told_values F_numbers_for F_texts_for)
def vfB : Ro → Fl := (sExt 3 (dLc (dItems (dVar 2)) (bName 5) dYes (dTup (dCons (dVar 4) (dCons (dVar 5) dNil))) [5]))
theorem vf_loop (a0 a1 : Option Cel) (L : List PyData) (hl : L.length ≤ 200) : ∀ (ds acc : List PyData) (a4 : Option Cel), acc.length + ds.length * 200 ≤ 100000 → ∃ b4,
    forGo (bName 4) vfB [a0, a1, some (.fz (.list L)), some (.ow (.list acc)), a4, none] ds = .nx [a0, a1, some (.fz (.list L)), some (.ow (.list (acc ++ ds.flatMap fun a => L.map fun b => .tuple [a, b]))), b4, none]
  | [], acc, a4, _ => ⟨a4, by simp⟩
  | d :: ds, acc, a4, h => by
    simp only [List.length_cons] at h
    obtain ⟨b4, ih⟩ := vf_loop a0 a1 L hl ds (acc ++ L.map fun b => .tuple [d, b]) (some (.fz d)) (by rw [List.length_append, List.length_map]; omega)
    refine ⟨b4, ?_⟩
    rw [forGo.eq_2]
    simp only [bName_ap, List.set]
    have c : dLc (dItems (dVar 2)) (bName 5) dYes (dTup (dCons (dVar 4) (dCons (dVar 5) dNil))) [5] [a0, a1, some (.fz (.list L)), some (.ow (.list acc)), some (.fz d), none] = .ok (L.map fun b => .tuple [d, b]) := by
      have := lcGo_mapD (b := bName 5) (fe := dTup (dCons (dVar 4) (dCons (dVar 5) dNil))) (ρ := [a0, a1, some (.fz (.list L)), some (.ow (.list acc)), some (.fz d), none]) (D := fun x : PyData => x) (g := fun b => PyData.tuple [d, b]) (xs := L) (fun b _ => ⟨_, rfl, by simp⟩)
      rw [List.map_id'] at this
      exact dLc_go (ds := L) (by simp) (by omega) this
    have body : vfB [a0, a1, some (.fz (.list L)), some (.ow (.list acc)), some (.fz d), none] = .nx [a0, a1, some (.fz (.list L)), some (.ow (.list (acc ++ L.map fun b => .tuple [d, b]))), some (.fz d), none] := by
      unfold vfB
      rw [sExt_go (ds := acc) rfl c (by rw [List.length_map]; omega)]
      rfl
    simp only [body]
    rw [ih]
    simp [List.append_assoc]
theorem rep_of {ps : List Lik} {N T : List PyData} (hN : NumsOk ps N) (hT : TxtsOk ps T) : Rep ps ([.none, .bool false, .bool true] ++ N ++ T) where
  leaf := fun a ha => by
    rcases List.mem_append.mp ha with ha | ha
    · rcases List.mem_append.mp ha with ha | ha
      · simp at ha
        rcases ha with rfl | rfl | rfl <;> rfl
      · obtain ⟨n, rfl, h1, h2⟩ := hN.rng a ha
        simp [isLeaf, isNone, isBool, isWhole, h1, h2]
    · obtain ⟨w, rfl, h⟩ := hT.rng a ha
      simp only [isLeaf, isNone, isBool, isWhole, Bool.false_or]
      exact h
  non := by simp
  bl := fun b => by cases b <;> simp
  num := fun k h _ _ => by simp [hN.num k h]
  free := fun s v h1 h2 h3 h4 => by
    obtain ⟨n, n1, n2⟩ := hN.free s v (mem_starts.mpr h1) h2 h3 h4
    exact ⟨n, by simp [n1], n2⟩
  txt := fun w h => by simp [hT.txt w h]
  long := fun w h1 h2 => by
    obtain ⟨t, t1, t2⟩ := hT.long w h1 h2
    exact ⟨t, by simp [t1], t2⟩
theorem values_core {g1 g2 g3 : List PyData → R PyData} {ps : List Lik} {N T : List PyData} (e1 : g1 [psD ps] = .ok (.list (toldL ps))) (e2 : g2 [psD ps, .list (toldL ps)] = .ok (.list N)) (e3 : g3 [psD ps, .list (toldL ps)] = .ok (.list T)) (hl : 3 + N.length + T.length ≤ 200) :
    runD 6 (fb_values_for g1 g2 g3) [psD ps] = .ok (.list (valsL ([.none, .bool false, .bool true] ++ N ++ T))) := by
  refine runD_rt ?_
  unfold fb_values_for
  rw [show startR 6 [psD ps] = [some (.fz (psD ps)), none, none, none, none, none] from rfl]
  refine st_set (v := .list (toldL ps)) (by simp [e1]) ?_
  simp only [List.set]
  have cL : dAsL (dCat (dCat (dLst (dCons (dC .none) (dCons (dC (.bool false)) (dCons (dC (.bool true)) dNil)))) (dOfD (dCallF 2 g2 (dCons (dVar 0) (dCons (dVar 1) dNil))))) (dOfD (dCallF 2 g3 (dCons (dVar 0) (dCons (dVar 1) dNil))))) [some (.fz (psD ps)), some (.fz (.list (toldL ps))), none, none, none, none] = .ok (.list ([.none, .bool false, .bool true] ++ N ++ T)) := by
    have x1 : (3 : Nat) + N.length ≤ 1000000 := by omega
    have x2 : 3 + N.length + T.length ≤ 1000000 := by omega
    have f2 : dOfD (dCallF 2 g2 (dCons (dVar 0) (dCons (dVar 1) dNil))) [some (.fz (psD ps)), some (.fz (.list (toldL ps))), none, none, none, none] = .ok N := by simp [e2]
    have f3 : dOfD (dCallF 2 g3 (dCons (dVar 0) (dCons (dVar 1) dNil))) [some (.fz (psD ps)), some (.fz (.list (toldL ps))), none, none, none, none] = .ok T := by simp [e3]
    refine dAsL_go ?_
    rw [dCat_ap, dCat_ap, f2, f3]
    show R.bind (if ([PyData.none, .bool false, .bool true] : List PyData).length + N.length ≤ 1000000 then R.ok ([PyData.none, .bool false, .bool true] ++ N) else .no) _ = _
    rw [if_pos (by simp; omega)]
    show (if ([PyData.none, .bool false, .bool true] ++ N).length + T.length ≤ 1000000 then _ else _) = _
    rw [if_pos (by simp; omega)]
  refine st_set cL ?_
  simp only [List.set]
  have hL : ([PyData.none, .bool false, .bool true] ++ N ++ T).length ≤ 200 := by simp; omega
  generalize [PyData.none, .bool false, .bool true] ++ N ++ T = L at hL ⊢
  have c2 : dLc (dItems (dVar 2)) (bName 4) dYes (dTup (dCons (dVar 4) dNil)) [4] [some (.fz (psD ps)), some (.fz (.list (toldL ps))), some (.fz (.list L)), none, none, none] = .ok (L.map fun a => .tuple [a]) := by
    have := lcGo_mapD (b := bName 4) (fe := dTup (dCons (dVar 4) dNil)) (ρ := [some (.fz (psD ps)), some (.fz (.list (toldL ps))), some (.fz (.list L)), none, none, none]) (D := fun x : PyData => x) (g := fun b => PyData.tuple [b]) (xs := L) (fun b _ => ⟨_, rfl, by simp⟩)
    rw [List.map_id'] at this
    exact dLc_go (ds := L) (by simp) (by omega) this
  have c3 : dCat (dCat (dListOf (dVar 2)) (dLst (dCons (dTup dNil) dNil))) (dLc (dItems (dVar 2)) (bName 4) dYes (dTup (dCons (dVar 4) dNil)) [4]) [some (.fz (psD ps)), some (.fz (.list (toldL ps))), some (.fz (.list L)), none, none, none] = .ok (L ++ [.tuple []] ++ L.map fun a => .tuple [a]) := by
    have f1 : dListOf (dVar 2) [some (.fz (psD ps)), some (.fz (.list (toldL ps))), some (.fz (.list L)), none, none, none] = .ok L := by simp
    have f2 : dLst (dCons (dTup dNil) dNil) [some (.fz (psD ps)), some (.fz (.list (toldL ps))), some (.fz (.list L)), none, none, none] = .ok [.tuple []] := rfl
    rw [dCat_ap, dCat_ap, f1, f2, c2]
    show R.bind (if L.length + 1 ≤ 1000000 then R.ok (L ++ [PyData.tuple []]) else .no) _ = _
    rw [if_pos (by omega)]
    show (if _ then _ else _) = _
    rw [if_pos (by simp; omega)]
  refine st_setL c3 (by simp) ?_
  simp only [List.set]
  obtain ⟨b4, lp⟩ := vf_loop (some (.fz (psD ps))) (some (.fz (.list (toldL ps)))) L hL L (L ++ [.tuple []] ++ L.map fun a => .tuple [a]) none (by simp; omega)
  refine st_for (ds := L) (by simp) lp ?_
  have : L ++ [.tuple []] ++ (L.map fun a => PyData.tuple [a]) ++ (L.flatMap fun a => L.map fun b => .tuple [a, b]) = valsL L := by
    unfold valsL
    simp [List.append_assoc]
  rw [this]
  rfl
theorem values_eq {ps : List Lik} (hp : ∀ b ∈ ps, b.ok) (hl : ps.length ≤ 12) : ∃ L, F_values_for [psD ps] = .ok (.list (valsL L)) ∧ Rep ps L ∧ L.length ≤ 200 := by
  obtain ⟨N, eN, hN⟩ := numbers_eq hp (by omega)
  obtain ⟨T, eT, hT⟩ := texts_eq hp hl
  have l1 := hN.len
  have l2 := hT.len
  have l3 := kn_len hp
  exact ⟨_, values_core (told_values_eq hp (by omega)) eN eT (by omega), rep_of hN hT, by simp; omega⟩
theorem vals_ok {L : List PyData} (h : ∀ a ∈ L, isLeaf a = true) : ∀ v ∈ valsL L, isVal v = true := fun v hv => by
  have lf : ∀ a, isLeaf a = true → isVal a = true := fun a h => by cases a <;> first | exact h | (simp [leaf_notup] at h)
  unfold valsL at hv
  simp only [List.mem_append, List.mem_cons, List.mem_map, List.mem_flatMap] at hv
  rcases hv with hv | rfl | ⟨a, ha, rfl⟩ | ⟨a, ha, b, hb, rfl⟩
  · exact lf v (h v hv)
  · rfl
  · simp [isVal, h a ha]
  · simp [isVal, h a ha, h b hb]
theorem valsL_len {L : List PyData} (h : L.length ≤ 200) : (valsL L).length ≤ 41000 := by
  unfold valsL
  have : ∀ (M : List PyData), (M.flatMap fun a => L.map fun b => PyData.tuple [a, b]).length = M.length * L.length := fun M => by
    induction M with
    | nil => simp
    | cons m M ih => simp only [List.flatMap_cons, List.length_append, List.length_map, ih, List.length_cons, Nat.succ_mul]; omega
  simp only [List.length_append, List.length_cons, List.length_map, this]
  have := Nat.mul_le_mul h h
  omega
def soB (g : List PyData → R PyData) : Ro → Fl := (sIf (dTest (dCallF 2 g (dCons (dVar 0) (dCons (dVar 1) dNil)))) (sRet (dTup (dCons (dVar 1) dNil))) sNil)
theorem so_loop {g : List PyData → R PyData} {l : Lik} : ∀ (vs : List PyData) (a1 : Option Cel), (∀ v ∈ vs, g [l.D, v] = .ok (.bool (l.fits v))) → (∃ v ∈ vs, l.fits v = true ∧ forGo (bName 1) (soB g) [some (.fz l.D), a1] vs = .rt (.tuple [v])) ∨ ((∀ v ∈ vs, l.fits v = false) ∧ ∃ b1, forGo (bName 1) (soB g) [some (.fz l.D), a1] vs = .nx [some (.fz l.D), b1])
  | [], a1, _ => .inr ⟨fun v h => by simp at h, a1, rfl⟩
  | v :: vs, a1, h => by
    have hv := h v (by simp)
    cases e : l.fits v with
    | true =>
      rw [e] at hv
      refine .inl ⟨v, by simp, e, ?_⟩
      rw [forGo.eq_2]
      simp only [bName_ap, List.set]
      have body : soB g [some (.fz l.D), some (.fz v)] = .rt (.tuple [v]) := by simp [soB, hv]
      simp only [body]
    | false =>
      rw [e] at hv
      have body : soB g [some (.fz l.D), some (.fz v)] = .nx [some (.fz l.D), some (.fz v)] := by simp [soB, hv]
      rcases so_loop vs (some (.fz v)) (fun x hx => h x (by simp [hx])) with ⟨w, w1, w2, w3⟩ | ⟨w1, b1, w2⟩
      · refine .inl ⟨w, by simp [w1], w2, ?_⟩
        rw [forGo.eq_2]
        simp only [bName_ap, List.set]
        simp only [body]
        exact w3
      · refine .inr ⟨fun x hx => ?_, b1, ?_⟩
        · rcases List.mem_cons.mp hx with rfl | hx
          · exact e
          · exact w1 x hx
        · rw [forGo.eq_2]
          simp only [bName_ap, List.set]
          simp only [body]
          exact w2
abbrev F_sample_of := runD 2 (fb_sample_of (F_bare_parts 12) F_values_for (F_fits_value 12))
theorem sample_core {g1 g2 g3 : List PyData → R PyData} {l : Lik} {L : List PyData} (ho : l.ok) (e1 : g1 [l.D] = .ok (psD (bareL l))) (e2 : g2 [psD (bareL l)] = .ok (.list (valsL L))) (R : Rep (bareL l) L) (e3 : ∀ v, isVal v = true → g3 [l.D, v] = .ok (.bool (l.fits v))) :
    (∃ v, runD 2 (fb_sample_of g1 g2 g3) [l.D] = .ok (.tuple [v]) ∧ isVal v = true ∧ l.fits v = true) ∨ (runD 2 (fb_sample_of g1 g2 g3) [l.D] = .ok .none ∧ ∀ v, isVal v = true → l.fits v = false) := by
  have hv := vals_ok R.leaf
  have ei : dItems (dCallF 1 g2 (dCons (dCallF 1 g1 (dCons (dVar 0) dNil)) dNil)) [some (.fz l.D), none] = .ok (valsL L) := by simp [e1, e2]
  rcases so_loop (g := g3) (l := l) (valsL L) none (fun v h => e3 v (hv v h)) with ⟨v, v1, v2, v3⟩ | ⟨w1, b1, w2⟩
  · refine .inl ⟨v, runD_rt ?_, hv v v1, v2⟩
    unfold fb_sample_of
    refine st_ret ?_
    show sFor _ (bName 1) (soB g3) [some (.fz l.D), none] = _
    rw [sFor_ap, ei]
    exact v3
  · refine .inr ⟨runD_rt ?_, fun v h => rep_none ho R w1 h⟩
    unfold fb_sample_of
    exact st_for (ρ := [some (.fz l.D), none]) ei w2 rfl
theorem sample_of_eq {l : Lik} (ho : l.ok) (h : l.parts ≤ 12) : (∃ v, F_sample_of [l.D] = .ok (.tuple [v]) ∧ isVal v = true ∧ l.fits v = true) ∨ (F_sample_of [l.D] = .ok .none ∧ ∀ v, isVal v = true → l.fits v = false) := by
  obtain ⟨L, e, R, _⟩ := values_eq (ps := bareL l) (fun b hb => (bareL_ok l ho b hb).1) (by have := bareL_len l; omega)
  exact sample_core ho (bare_parts_eq 12 l ho h (by omega)) e R (fun v hv => fits_value_eq l 12 v ho h hv)
end Pu

namespace Pu
open PySem PySem.Spec PyProof.Rows L2
/-! ### is_less -/
abbrev F_is_less := runD 2 (fb_is_less F_need_likeness F_sample_of)
noncomputable def lessB (a b : Lik) : Bool := @decide (∀ v, isVal v = true → a.fits v = true → b.fits v = true) (Classical.propDecidable _)
theorem lessB_t {a b : Lik} (h : ∀ v, isVal v = true → a.fits v = true → b.fits v = true) : lessB a b = true := @decide_eq_true _ (Classical.propDecidable _) h
theorem lessB_f {a b : Lik} (h : ¬ ∀ v, isVal v = true → a.fits v = true → b.fits v = true) : lessB a b = false := @decide_eq_false _ (Classical.propDecidable _) h
theorem is_less_eq {a b : Lik} (ha : a.ok) (hb : b.ok) (pa : a.parts ≤ 5) (pb : b.parts ≤ 5) : F_is_less [a.D, b.D] = .ok (.bool (lessB a b)) := by
  have s := sample_of_eq (l := .both a (.not b)) ⟨ha, hb⟩ (by simp [Lik.parts]; omega)
  refine runD_rt ?_
  unfold fb_is_less
  rw [show startR 2 [a.D, b.D] = [some (.fz a.D), some (.fz b.D)] from rfl]
  refine st_ex (d := .none) (by simp [need_likeness_ok a ha pa]) ?_
  refine st_ex (d := .none) (by simp [need_likeness_ok b hb pb]) ?_
  have ed : dTup (dCons (dC (.str "both")) (dCons (dVar 0) (dCons (dTup (dCons (dC (.str "not")) (dCons (dVar 1) dNil))) dNil))) [some (.fz a.D), some (.fz b.D)] = .ok (Lik.both a (.not b)).D := by simp [Lik.D]
  generalize hF : F_sample_of = F at s
  rcases s with ⟨v, e, v1, v2⟩ | ⟨e, h⟩
  · have l : lessB a b = false := by
      apply lessB_f
      intro z
      have : (a.fits v && !b.fits v) = true := v2
      rw [Bool.and_eq_true] at this
      rw [z v v1 this.1] at this
      simp at this
    rw [l]
    simp only [sRet_ap, dBin_ap, dCallF_ap, dCons_ap, ed, R.bind_ok, dNil_ap, List.length_cons, List.length_nil, Nat.zero_add, if_true, e, dC_ap, isND_n, R.of_some, Fl.of_ok]
    rfl
  · have l : lessB a b = true := by
      apply lessB_t
      intro v v1 v2
      have : (a.fits v && !b.fits v) = false := h v v1
      rw [v2] at this
      simpa using this
    rw [l]
    simp only [sRet_ap, dBin_ap, dCallF_ap, dCons_ap, ed, R.bind_ok, dNil_ap, List.length_cons, List.length_nil, Nat.zero_add, if_true, e, dC_ap, isND_n, R.of_some, Fl.of_ok]
    rfl
theorem sameL_leaf_eq {t a : PyData} (ht : isLeaf t = true) (h : sameL t a = true) : a = t := by
  unfold sameL at h
  rw [Bool.and_eq_true] at h
  cases t <;> first | (simp [isLeaf, isNone, isBool, isWhole, isWord] at ht; done) | skip
  all_goals (cases a <;> first | rfl | (simp [kindD] at h; done) | (simp [PyData.eqv] at h; simp_all))
theorem sameD_eq {t v : PyData} (ht : isVal t = true) (hv : isVal v = true) (h : sameD t v = true) : v = t := by
  rcases val_cases ht with hl | ⟨ds, rfl, _, hd⟩
  · rcases val_cases hv with hl2 | ⟨es, rfl, _, he⟩
    · rw [sameD_leaf hl2] at h
      exact sameL_leaf_eq hl h
    · have : sameD t (.tuple es) = sameL t (.tuple es) := by cases t <;> first | rfl | (simp [leaf_notup] at hl)
      rw [this, sameL_leaf_tup hl] at h
      cases h
  · rcases val_cases hv with hl2 | ⟨es, rfl, _, he⟩
    · rw [sameD_leaf hl2, sameL_tup_leaf hl2] at h
      cases h
    · have h : sameLs ds es = true := h
      have : ∀ (ds es : List PyData), (∀ d ∈ ds, isLeaf d = true) → sameLs ds es = true → es = ds := fun ds => by
        induction ds with
        | nil => intro es _ h; cases es <;> first | rfl | cases h
        | cons d ds ih =>
          intro es hd h
          cases es with
          | nil => cases h
          | cons e es =>
            have h : (sameL d e && sameLs ds es) = true := h
            rw [Bool.and_eq_true] at h
            rw [sameL_leaf_eq (hd d (by simp)) h.1, ih es (fun x hx => hd x (by simp [hx])) h.2]
      rw [this ds es hd h]
theorem sameL_self {t : PyData} (ht : isLeaf t = true) : sameL t t = true := by
  cases t <;> first | (simp [isLeaf, isNone, isBool, isWhole, isWord] at ht; done) | (simp [sameL, PyData.eqv])
theorem sameD_self {t : PyData} (ht : isVal t = true) : sameD t t = true := by
  rcases val_cases ht with hl | ⟨ds, rfl, hlen, hd⟩
  · rw [sameD_leaf hl]; exact sameL_self hl
  · show sameLs ds ds = true
    clear ht hlen
    induction ds with
    | nil => rfl
    | cons d ds ih =>
      show (sameL d d && sameLs ds ds) = true
      rw [sameL_self (hd d (by simp)), ih (fun x hx => hd x (by simp [hx]))]
      rfl
theorem less_is {v : PyData} (hv : isVal v = true) (b : Lik) : lessB (.is v) b = b.fits v := by
  cases h : b.fits v with
  | true =>
    apply lessB_t
    intro w hw e
    have e : sameD v w = true := e
    rw [sameD_eq hv hw e]
    exact h
  | false =>
    apply lessB_f
    intro z
    have := z v hv (sameD_self hv)
    rw [h] at this
    cases this
end Pu

namespace Pu
open PySem PySem.Spec PyProof.Rows L2
def fb_law (F_law_pool F_law_likeness F_law_bare F_law_value F_fits F_is_less : List PyData → R PyData) : Ro → Fl :=
  (sSeq (sAsg (dCallF 2 F_law_pool (dCons (dVar 0) (dCons (dC (.int 20)) dNil))) (bName 1))
    (sSeq (sAsg (dCallF 4 F_law_likeness (dCons (dVar 0) (dCons (dC (.int 100)) (dCons (dVar 1) (dCons (dC (.int 2)) dNil))))) (bName 2))
    (sSeq (sAsg (dCallF 4 F_law_likeness (dCons (dVar 0) (dCons (dC (.int 400)) (dCons (dVar 1) (dCons (dC (.int 2)) dNil))))) (bName 3))
    (sSeq (sAsg (dAsL (dLst (dCons (dCallF 3 F_law_bare (dCons (dVar 0) (dCons (dC (.int 700)) (dCons (dVar 1) dNil)))) (dCons (dCallF 3 F_law_bare (dCons (dVar 0) (dCons (dC (.int 720)) (dCons (dVar 1) dNil)))) dNil)))) (bName 4))
    (sSeq (sFor (dRange1 (dCons (dC (.int 4)) dNil)) (bName 5) (sSeq (sAsg (dCallF 3 F_law_value (dCons (dVar 0) (dCons (dBin addD (dC (.int 60)) (dBin mulD (dC (.int 10)) (dVar 5))) (dCons (dVar 1) dNil)))) (bName 6))
    (sSeq (sAsg (dCallF 2 F_fits (dCons (dVar 2) (dCons (dVar 6) dNil))) (bName 7))
    (sSeq (sIf (dTest (dBin neD (dCallF 2 F_fits (dCons (dTup (dCons (dC (.str "not")) (dCons (dTup (dCons (dC (.str "not")) (dCons (dVar 2) dNil))) dNil))) (dCons (dVar 6) dNil))) (dVar 7))) (sRet (dC (.bool false))) sNil)
    (sSeq (sIf (dTest (dBin neD (dCallF 2 F_fits (dCons (dTup (dCons (dC (.str "both")) (dCons (dVar 2) (dCons (dVar 3) dNil)))) (dCons (dVar 6) dNil))) (dCallF 2 F_fits (dCons (dTup (dCons (dC (.str "both")) (dCons (dVar 3) (dCons (dVar 2) dNil)))) (dCons (dVar 6) dNil))))) (sRet (dC (.bool false))) sNil)
    (sSeq (sIf (dTest (dBin neD (dCallF 2 F_fits (dCons (dTup (dCons (dC (.str "either")) (dCons (dVar 2) (dCons (dVar 3) dNil)))) (dCons (dVar 6) dNil))) (dOrV (dVar 7) (dCallF 2 F_fits (dCons (dVar 3) (dCons (dVar 6) dNil)))))) (sRet (dC (.bool false))) sNil)
    (sSeq (sAsg (dTup (dCons (dC (.str "either")) (dCons (dTup (dCons (dC (.str "not")) (dCons (dBin ixD (dVar 4) (dC (.int 0))) dNil))) (dCons (dTup (dCons (dC (.str "not")) (dCons (dBin ixD (dVar 4) (dC (.int 1))) dNil))) dNil)))) (bName 8))
    (sSeq (sIf (dTest (dBin neD (dCallF 2 F_fits (dCons (dTup (dCons (dC (.str "not")) (dCons (dTup (dCons (dC (.str "both")) (dCons (dBin ixD (dVar 4) (dC (.int 0))) (dCons (dBin ixD (dVar 4) (dC (.int 1))) dNil)))) dNil))) (dCons (dVar 6) dNil))) (dCallF 2 F_fits (dCons (dVar 8) (dCons (dVar 6) dNil))))) (sRet (dC (.bool false))) sNil)
    (sSeq (sIf (dTest (dBin neD (dCallF 2 F_is_less (dCons (dTup (dCons (dC (.str "is")) (dCons (dVar 6) dNil))) (dCons (dVar 2) dNil))) (dVar 7))) (sRet (dC (.bool false))) sNil)
    (sIf (dTest (dUn (isiD "tuple") (dVar 6))) (sIf (dTest (dBin neD (dCallF 2 F_fits (dCons (dTup (dCons (dC (.str "has")) (dCons (dVar 2) dNil))) (dCons (dVar 6) dNil))) (dCall anyD (dCons (dAsL (dLc (dItems (dVar 6)) (bName 9) dYes (dCallF 2 F_fits (dCons (dVar 2) (dCons (dVar 9) dNil))) [9])) dNil)))) (sRet (dC (.bool false))) sNil) (sIf (dOr (dTest (dBin neD (dCallF 2 F_fits (dCons (dTup (dCons (dC (.str "row")) (dCons (dTup (dCons (dVar 2) dNil)) dNil))) (dCons (dTup (dCons (dVar 6) dNil)) dNil))) (dVar 7))) (dTest (dCallF 2 F_fits (dCons (dTup (dCons (dC (.str "has")) (dCons (dVar 2) dNil))) (dCons (dVar 6) dNil))))) (sRet (dC (.bool false))) sNil)))))))))))
    (sRet (dC (.bool true))))))))

end Pu

namespace Pu
open PySem PySem.Spec PyProof.Rows L2
theorem range_natE (f : Ro → R (List PyData)) (ρ : Ro) (n : Nat) (h : f ρ = .ok [natD n]) (h1 : n ≤ 1000000) : dRange1 f ρ = .ok ((List.range' 0 n).map natD) := by
  rw [dRange1_n f ρ n h h1, List.range_eq_range']
  rfl
def lawB (gV gF gI : List PyData → R PyData) : Ro → Fl := (sSeq (sAsg (dCallF 3 gV (dCons (dVar 0) (dCons (dBin addD (dC (.int 60)) (dBin mulD (dC (.int 10)) (dVar 5))) (dCons (dVar 1) dNil)))) (bName 6))
    (sSeq (sAsg (dCallF 2 gF (dCons (dVar 2) (dCons (dVar 6) dNil))) (bName 7))
    (sSeq (sIf (dTest (dBin neD (dCallF 2 gF (dCons (dTup (dCons (dC (.str "not")) (dCons (dTup (dCons (dC (.str "not")) (dCons (dVar 2) dNil))) dNil))) (dCons (dVar 6) dNil))) (dVar 7))) (sRet (dC (.bool false))) sNil)
    (sSeq (sIf (dTest (dBin neD (dCallF 2 gF (dCons (dTup (dCons (dC (.str "both")) (dCons (dVar 2) (dCons (dVar 3) dNil)))) (dCons (dVar 6) dNil))) (dCallF 2 gF (dCons (dTup (dCons (dC (.str "both")) (dCons (dVar 3) (dCons (dVar 2) dNil)))) (dCons (dVar 6) dNil))))) (sRet (dC (.bool false))) sNil)
    (sSeq (sIf (dTest (dBin neD (dCallF 2 gF (dCons (dTup (dCons (dC (.str "either")) (dCons (dVar 2) (dCons (dVar 3) dNil)))) (dCons (dVar 6) dNil))) (dOrV (dVar 7) (dCallF 2 gF (dCons (dVar 3) (dCons (dVar 6) dNil)))))) (sRet (dC (.bool false))) sNil)
    (sSeq (sAsg (dTup (dCons (dC (.str "either")) (dCons (dTup (dCons (dC (.str "not")) (dCons (dBin ixD (dVar 4) (dC (.int 0))) dNil))) (dCons (dTup (dCons (dC (.str "not")) (dCons (dBin ixD (dVar 4) (dC (.int 1))) dNil))) dNil)))) (bName 8))
    (sSeq (sIf (dTest (dBin neD (dCallF 2 gF (dCons (dTup (dCons (dC (.str "not")) (dCons (dTup (dCons (dC (.str "both")) (dCons (dBin ixD (dVar 4) (dC (.int 0))) (dCons (dBin ixD (dVar 4) (dC (.int 1))) dNil)))) dNil))) (dCons (dVar 6) dNil))) (dCallF 2 gF (dCons (dVar 8) (dCons (dVar 6) dNil))))) (sRet (dC (.bool false))) sNil)
    (sSeq (sIf (dTest (dBin neD (dCallF 2 gI (dCons (dTup (dCons (dC (.str "is")) (dCons (dVar 6) dNil))) (dCons (dVar 2) dNil))) (dVar 7))) (sRet (dC (.bool false))) sNil)
    (sIf (dTest (dUn (isiD "tuple") (dVar 6))) (sIf (dTest (dBin neD (dCallF 2 gF (dCons (dTup (dCons (dC (.str "has")) (dCons (dVar 2) dNil))) (dCons (dVar 6) dNil))) (dCall anyD (dCons (dAsL (dLc (dItems (dVar 6)) (bName 9) dYes (dCallF 2 gF (dCons (dVar 2) (dCons (dVar 9) dNil))) [9])) dNil)))) (sRet (dC (.bool false))) sNil) (sIf (dOr (dTest (dBin neD (dCallF 2 gF (dCons (dTup (dCons (dC (.str "row")) (dCons (dTup (dCons (dVar 2) dNil)) dNil))) (dCons (dTup (dCons (dVar 6) dNil)) dNil))) (dVar 7))) (dTest (dCallF 2 gF (dCons (dTup (dCons (dC (.str "has")) (dCons (dVar 2) dNil))) (dCons (dVar 6) dNil))))) (sRet (dC (.bool false))) sNil))))))))))
theorem law_body {gV gF gI : List PyData → R PyData} {ns : List Int} {p : PyData} {a b c d : Lik} (ha : a.ok) (hb : b.ok) (hc : c.ok) (hd : d.ok) (pa : a.parts ≤ 2) (pb : b.parts ≤ 2) (pc : c.parts = 1) (pd : d.parts = 1)
    (hV : ∀ at_ : Int, 0 ≤ at_ → ∃ v, gV [scr ns, .int at_, p] = .ok v ∧ isVal v = true) (hF : ∀ (l : Lik) (v : PyData), l.ok → l.parts ≤ 5 → isVal v = true → gF [l.D, v] = .ok (.bool (l.fits v))) (hI : ∀ v, isVal v = true → gI [(Lik.is v).D, a.D] = .ok (.bool (a.fits v)))
    (k : Nat) (a6 a7 a8 : Option Cel) : ∃ b6 b7 b8, lawB gV gF gI [some (.fz (scr ns)), some (.fz p), some (.fz a.D), some (.fz b.D), some (.fz (.list [c.D, d.D])), some (.fz (natD k)), a6, a7, a8, none] = .nx [some (.fz (scr ns)), some (.fz p), some (.fz a.D), some (.fz b.D), some (.fz (.list [c.D, d.D])), some (.fz (natD k)), b6, b7, b8, none] := by
  obtain ⟨v, ev, hv⟩ := hV (60 + 10 * (k : Int)) (by omega)
  have k1 : mulD (.int 10) (natD k) = some (.int (10 * (k : Int))) := rfl
  have f0 := hF a v ha (by omega) hv
  have f1 : gF [.tuple [.str "not", .tuple [.str "not", a.D]], v] = .ok (.bool (!!a.fits v)) := hF (.not (.not a)) v ha (by simp [Lik.parts]; omega) hv
  have f2 : gF [.tuple [.str "both", a.D, b.D], v] = .ok (.bool (a.fits v && b.fits v)) := hF (.both a b) v ⟨ha, hb⟩ (by simp [Lik.parts]; omega) hv
  have f3 : gF [.tuple [.str "both", b.D, a.D], v] = .ok (.bool (b.fits v && a.fits v)) := hF (.both b a) v ⟨hb, ha⟩ (by simp [Lik.parts]; omega) hv
  have f4 : gF [.tuple [.str "either", a.D, b.D], v] = .ok (.bool (a.fits v || b.fits v)) := hF (.either a b) v ⟨ha, hb⟩ (by simp [Lik.parts]; omega) hv
  have f5 := hF b v hb (by omega) hv
  have f6 : gF [.tuple [.str "not", .tuple [.str "both", c.D, d.D]], v] = .ok (.bool (!(c.fits v && d.fits v))) := hF (.not (.both c d)) v ⟨hc, hd⟩ (by simp [Lik.parts]; omega) hv
  have f7 : gF [.tuple [.str "either", .tuple [.str "not", c.D], .tuple [.str "not", d.D]], v] = .ok (.bool (!c.fits v || !d.fits v)) := hF (.either (.not c) (.not d)) v ⟨hc, hd⟩ (by simp [Lik.parts]; omega) hv
  have f8 : gI [.tuple [.str "is", v], a.D] = .ok (.bool (a.fits v)) := hI v hv
  have f9 : gF [.tuple [.str "has", a.D], v] = .ok (.bool ((Lik.has a).fits v)) := hF (.has a) v ha (by simp [Lik.parts]; omega) hv
  have i0 : ixD (.list [c.D, d.D]) (.int 0) = some c.D := rfl
  have i1 : ixD (.list [c.D, d.D]) (.int 1) = some d.D := rfl
  refine ⟨some (.fz v), some (.fz (.bool (a.fits v))), some (.fz (.tuple [.str "either", .tuple [.str "not", c.D], .tuple [.str "not", d.D]])), ?_⟩
  unfold lawB
  refine st_set (v := v) (by simp [k1, ev]) ?_
  simp only [List.set]
  refine st_set (v := .bool (a.fits v)) (by simp [f0]) ?_
  simp only [List.set]
  have nb1 : neD (.bool (!!a.fits v)) (.bool (a.fits v)) = some (.bool false) := by rw [Bool.not_not]; exact neD_bb _
  refine st_no (by simp only [dTest_ap, dBin_ap, dCallF_ap, dCons_ap, dTup_ap, dC_ap, dVar_0, dVar_s, dNil_ap, R.bind_ok, List.length_cons, List.length_nil, Nat.zero_add, if_true, Nat.reduceAdd, Nat.reduceLeDiff, f1, nb1, R.of_some]; rfl) ?_
  have nb2 : neD (.bool (a.fits v && b.fits v)) (.bool (b.fits v && a.fits v)) = some (.bool false) := by rw [Bool.and_comm]; exact neD_bb _
  refine st_no (by simp only [dTest_ap, dBin_ap, dCallF_ap, dCons_ap, dTup_ap, dC_ap, dVar_0, dVar_s, dNil_ap, R.bind_ok, List.length_cons, List.length_nil, Nat.zero_add, if_true, Nat.reduceAdd, Nat.reduceLeDiff, f2, f3, nb2, R.of_some]; rfl) ?_
  have eo : dOrV (dVar 7) (dCallF 2 gF (dCons (dVar 3) (dCons (dVar 6) dNil))) [some (.fz (scr ns)), some (.fz p), some (.fz a.D), some (.fz b.D), some (.fz (.list [c.D, d.D])), some (.fz (natD k)), some (.fz v), some (.fz (.bool (a.fits v))), a8, none] = .ok (.bool (a.fits v || b.fits v)) := by
    unfold dOrV
    cases h : a.fits v <;> simp [f5]
  have nb3 := neD_bb (a.fits v || b.fits v)
  refine st_no (by simp only [dTest_ap, dBin_ap, dCallF_ap, dCons_ap, dTup_ap, dC_ap, dVar_0, dVar_s, dNil_ap, R.bind_ok, List.length_cons, List.length_nil, Nat.zero_add, if_true, Nat.reduceAdd, Nat.reduceLeDiff, f4, eo, nb3, R.of_some]; rfl) ?_
  refine st_set (v := .tuple [.str "either", .tuple [.str "not", c.D], .tuple [.str "not", d.D]]) (by simp [i0, i1]) ?_
  simp only [List.set]
  have nb4 : neD (.bool (!(c.fits v && d.fits v))) (.bool (!c.fits v || !d.fits v)) = some (.bool false) := by rw [Bool.not_and]; exact neD_bb _
  refine st_no (by simp only [dTest_ap, dBin_ap, dCallF_ap, dCons_ap, dTup_ap, dC_ap, dVar_0, dVar_s, dNil_ap, R.bind_ok, List.length_cons, List.length_nil, Nat.zero_add, if_true, Nat.reduceAdd, Nat.reduceLeDiff, i0, i1, f6, f7, nb4, R.of_some]; rfl) ?_
  have nb5 := neD_bb (a.fits v)
  refine st_no (by simp only [dTest_ap, dBin_ap, dCallF_ap, dCons_ap, dTup_ap, dC_ap, dVar_0, dVar_s, dNil_ap, R.bind_ok, List.length_cons, List.length_nil, Nat.zero_add, if_true, Nat.reduceAdd, Nat.reduceLeDiff, f8, nb5, R.of_some]; rfl) ?_
  rcases val_cases hv with hl | ⟨ds, rfl, h2, hd2⟩
  · have it : isTup v = false := by cases v <;> first | rfl | (simp [leaf_notup] at hl)
    have f10 : gF [.tuple [.str "row", .tuple [a.D]], .tuple [v]] = .ok (.bool (a.fits v)) := hF (.row1 a) (.tuple [v]) ha (by simp [Lik.parts]; omega) (by simp [isVal, hl])
    have hh : (Lik.has a).fits v = false := by simp only [Lik.fits, leaf_rowN hl]
    rw [hh] at f9
    simp [isi_tup, it, f9, f10, nb5]
  · have it : isTup (.tuple ds) = true := rfl
    have hh : (Lik.has a).fits (.tuple ds) = ds.any a.fits := rfl
    rw [hh] at f9
    have g1 : lcGo (bName 9) dYes (dCallF 2 gF (dCons (dVar 2) (dCons (dVar 9) dNil))) [some (.fz (scr ns)), some (.fz p), some (.fz a.D), some (.fz b.D), some (.fz (.list [c.D, d.D])), some (.fz (natD k)), some (.fz (.tuple ds)), some (.fz (.bool (a.fits (.tuple ds)))), some (.fz (.tuple [.str "either", .tuple [.str "not", c.D], .tuple [.str "not", d.D]])), none] ds = some (ds.map fun x => .bool (a.fits x)) := by
      have := lcGo_mapD (b := bName 9) (fe := dCallF 2 gF (dCons (dVar 2) (dCons (dVar 9) dNil))) (ρ := [some (.fz (scr ns)), some (.fz p), some (.fz a.D), some (.fz b.D), some (.fz (.list [c.D, d.D])), some (.fz (natD k)), some (.fz (.tuple ds)), some (.fz (.bool (a.fits (.tuple ds)))), some (.fz (.tuple [.str "either", .tuple [.str "not", c.D], .tuple [.str "not", d.D]])), none]) (D := fun x : PyData => x) (g := fun x => PyData.bool (a.fits x)) (xs := ds) (fun x hx => ⟨_, rfl, by
        have lx := hd2 x hx
        have := hF a x ha (by omega) (by cases x <;> first | exact lx | (simp [leaf_notup] at lx))
        simp [this]⟩)
      rw [List.map_id'] at this
      exact this
    have g2 := dAsL_go (dLc_go (fi := dItems (dVar 6)) (vs := [9]) (ρ := [some (.fz (scr ns)), some (.fz p), some (.fz a.D), some (.fz b.D), some (.fz (.list [c.D, d.D])), some (.fz (natD k)), some (.fz (.tuple ds)), some (.fz (.bool (a.fits (.tuple ds)))), some (.fz (.tuple [.str "either", .tuple [.str "not", c.D], .tuple [.str "not", d.D]])), none]) (ds := ds) (by simp) (by omega) g1)
    have g3 := anyD_map ds a.fits
    have nb6 := neD_bb (ds.any a.fits)
    refine st_yes (by simp [isi_tup, it]) ?_
    rw [sIf_ap, show dTest (dBin neD (dCallF 2 gF (dCons (dTup (dCons (dC (.str "has")) (dCons (dVar 2) dNil))) (dCons (dVar 6) dNil))) (dCall anyD (dCons (dAsL (dLc (dItems (dVar 6)) (bName 9) dYes (dCallF 2 gF (dCons (dVar 2) (dCons (dVar 9) dNil))) [9])) dNil))) [some (.fz (scr ns)), some (.fz p), some (.fz a.D), some (.fz b.D), some (.fz (.list [c.D, d.D])), some (.fz (natD k)), some (.fz (.tuple ds)), some (.fz (.bool (a.fits (.tuple ds)))), some (.fz (.tuple [.str "either", .tuple [.str "not", c.D], .tuple [.str "not", d.D]])), none] = .ok false by
      simp only [dTest_ap, dBin_ap, dCallF_ap, dCall_ap, dCons_ap, g2, dTup_ap, dC_ap, dVar_0, dVar_s, dNil_ap, R.bind_ok, List.length_cons, List.length_nil, Nat.zero_add, if_true, Nat.reduceAdd, Nat.reduceLeDiff, f9, g3, nb6, R.of_some]; rfl]
    rfl
theorem law_loop {gV gF gI : List PyData → R PyData} {ns : List Int} {p : PyData} {a b c d : Lik} (hB : ∀ (k : Nat) (a6 a7 a8 : Option Cel), ∃ b6 b7 b8, lawB gV gF gI [some (.fz (scr ns)), some (.fz p), some (.fz a.D), some (.fz b.D), some (.fz (.list [c.D, d.D])), some (.fz (natD k)), a6, a7, a8, none] = .nx [some (.fz (scr ns)), some (.fz p), some (.fz a.D), some (.fz b.D), some (.fz (.list [c.D, d.D])), some (.fz (natD k)), b6, b7, b8, none]) : ∀ (ks : List Nat) (a5 a6 a7 a8 : Option Cel), ∃ b5 b6 b7 b8,
    forGo (bName 5) (lawB gV gF gI) [some (.fz (scr ns)), some (.fz p), some (.fz a.D), some (.fz b.D), some (.fz (.list [c.D, d.D])), a5, a6, a7, a8, none] (ks.map natD) = .nx [some (.fz (scr ns)), some (.fz p), some (.fz a.D), some (.fz b.D), some (.fz (.list [c.D, d.D])), b5, b6, b7, b8, none]
  | [], a5, a6, a7, a8 => ⟨a5, a6, a7, a8, rfl⟩
  | k :: ks, a5, a6, a7, a8 => by
    obtain ⟨c6, c7, c8, e⟩ := hB k a6 a7 a8
    obtain ⟨b5, b6, b7, b8, ih⟩ := law_loop hB ks (some (.fz (natD k))) c6 c7 c8
    refine ⟨b5, b6, b7, b8, ?_⟩
    rw [List.map_cons, forGo.eq_2]
    simp only [bName_ap, List.set]
    simp only [e]
    exact ih
theorem law_core (gP gL gB gV gF gI : List PyData → R PyData) {ns : List Int} {p : PyData} {a b c d : Lik} (ha : a.ok) (hb : b.ok) (hc : c.ok) (hd : d.ok) (pa : a.parts ≤ 2) (pb : b.parts ≤ 2) (pc : c.parts = 1) (pd : d.parts = 1)
    (e1 : gP [scr ns, .int 20] = .ok p) (e2 : gL [scr ns, .int 100, p, .int 2] = .ok a.D) (e3 : gL [scr ns, .int 400, p, .int 2] = .ok b.D) (e4 : gB [scr ns, .int 700, p] = .ok c.D) (e5 : gB [scr ns, .int 720, p] = .ok d.D)
    (hV : ∀ at_ : Int, 0 ≤ at_ → ∃ v, gV [scr ns, .int at_, p] = .ok v ∧ isVal v = true) (hF : ∀ (l : Lik) (v : PyData), l.ok → l.parts ≤ 5 → isVal v = true → gF [l.D, v] = .ok (.bool (l.fits v))) (hI : ∀ v, isVal v = true → gI [(Lik.is v).D, a.D] = .ok (.bool (a.fits v))) :
    runD 10 (fb_law gP gL gB gV gF gI) [scr ns] = .ok (.bool true) := by
  obtain ⟨b5, b6, b7, b8, lp⟩ := law_loop (fun k a6 a7 a8 => law_body (p := p) ha hb hc hd pa pb pc pd hV hF hI k a6 a7 a8) (List.range' 0 4) none none none none
  refine runD_rt ?_
  unfold fb_law
  rw [show startR 10 [scr ns] = [some (.fz (scr ns)), none, none, none, none, none, none, none, none, none] from rfl]
  refine st_set (v := p) (by simp [e1]) ?_
  simp only [List.set]
  refine st_set (v := a.D) (by simp [e2]) ?_
  simp only [List.set]
  refine st_set (v := b.D) (by simp [e3]) ?_
  simp only [List.set]
  refine st_set (v := .list [c.D, d.D]) (by simp [e4, e5]) ?_
  simp only [List.set]
  exact st_for (range_natE _ _ 4 rfl (by omega)) lp rfl
abbrev F_law := runD 10 (fb_law F_pool (F_law_likeness 5) F_law_bare F_value F_fits F_is_less)
theorem law_true (ns : List Int) : F_law [scr ns] = .ok (.bool true) := by
  obtain ⟨p, e1, hp⟩ := pool_eq ns 20 (by omega)
  obtain ⟨a, e2, ha, pa⟩ := law_likeness_eq ns hp 5 100 2 (by omega) (by omega) (by omega)
  obtain ⟨b, e3, hb, pb⟩ := law_likeness_eq ns hp 5 400 2 (by omega) (by omega) (by omega)
  obtain ⟨c, e4, hc, pc⟩ := law_bare_eq ns 700 (by omega) hp
  obtain ⟨d, e5, hd, pd⟩ := law_bare_eq ns 720 (by omega) hp
  exact law_core _ _ _ _ _ _ ha hb hc hd (by omega) (by omega) pc pd e1 e2 e3 e4 e5 (fun at_ h => value_eq ns at_ h hp) (fun l v h1 h2 h3 => fits_eq h1 h2 h3) (fun v hv => by
    rw [is_less_eq (a := .is v) hv ha (by simp [Lik.parts]) (by omega), less_is hv])
end Pu

namespace Hd
open PySem PySem.Spec PyProof.Rows L2 Pu
def top (i : Nat) : Stmt := PySem.Challenge.pw_standins_k18_whole_algebra.main.body.getD i (.Pass ⟨0, 0, 0, 0⟩)
abbrev s_is_whole : Stmt := top 9
def d_is_whole : He.DefD := ⟨("is_whole", none), "is_whole", "is_whole", defArgs s_is_whole, defBody s_is_whole, defScope s_is_whole, [], []⟩
abbrev s_is_word : Stmt := top 10
def d_is_word : He.DefD := ⟨("is_word", none), "is_word", "is_word", defArgs s_is_word, defBody s_is_word, defScope s_is_word, [], []⟩
abbrev s_is_leaf : Stmt := top 11
def d_is_leaf : He.DefD := ⟨("is_leaf", none), "is_leaf", "is_leaf", defArgs s_is_leaf, defBody s_is_leaf, defScope s_is_leaf, [], []⟩
abbrev s_is_value : Stmt := top 12
def d_is_value : He.DefD := ⟨("is_value", none), "is_value", "is_value", defArgs s_is_value, defBody s_is_value, defScope s_is_value, [], []⟩
abbrev s_need_value : Stmt := top 13
def d_need_value : He.DefD := ⟨("need_value", none), "need_value", "need_value", defArgs s_need_value, defBody s_need_value, defScope s_need_value, [], []⟩
abbrev s_kind_of : Stmt := top 14
def d_kind_of : He.DefD := ⟨("kind_of", none), "kind_of", "kind_of", defArgs s_kind_of, defBody s_kind_of, defScope s_kind_of, [], []⟩
abbrev s_same_as : Stmt := top 15
def d_same_as : He.DefD := ⟨("same_as", none), "same_as", "same_as", defArgs s_same_as, defBody s_same_as, defScope s_same_as, [], []⟩
abbrev s_is_bare : Stmt := top 19
def d_is_bare : He.DefD := ⟨("is_bare", none), "is_bare", "is_bare", defArgs s_is_bare, defBody s_is_bare, defScope s_is_bare, [], []⟩
abbrev s_inner : Stmt := top 20
def d_inner : He.DefD := ⟨("inner", none), "inner", "inner", defArgs s_inner, defBody s_inner, defScope s_inner, [], []⟩
abbrev s_is_likeness : Stmt := top 21
def d_is_likeness : He.DefD := ⟨("is_likeness", none), "is_likeness", "is_likeness", defArgs s_is_likeness, defBody s_is_likeness, defScope s_is_likeness, [], []⟩
abbrev s_need_likeness : Stmt := top 22
def d_need_likeness : He.DefD := ⟨("need_likeness", none), "need_likeness", "need_likeness", defArgs s_need_likeness, defBody s_need_likeness, defScope s_need_likeness, [], []⟩
abbrev s_bare_fits : Stmt := top 23
def d_bare_fits : He.DefD := ⟨("bare_fits", none), "bare_fits", "bare_fits", defArgs s_bare_fits, defBody s_bare_fits, defScope s_bare_fits, [], []⟩
abbrev s_fits_value : Stmt := top 24
def d_fits_value : He.DefD := ⟨("fits_value", none), "fits_value", "fits_value", defArgs s_fits_value, defBody s_fits_value, defScope s_fits_value, [], []⟩
abbrev s_fits : Stmt := top 25
def d_fits : He.DefD := ⟨("fits", none), "fits", "fits", defArgs s_fits, defBody s_fits, defScope s_fits, [], []⟩
abbrev s_bare_parts : Stmt := top 27
def d_bare_parts : He.DefD := ⟨("bare_parts", none), "bare_parts", "bare_parts", defArgs s_bare_parts, defBody s_bare_parts, defScope s_bare_parts, [], []⟩
abbrev s_told_values : Stmt := top 28
def d_told_values : He.DefD := ⟨("told_values", none), "told_values", "told_values", defArgs s_told_values, defBody s_told_values, defScope s_told_values, [], []⟩
abbrev s_numbers_for : Stmt := top 29
def d_numbers_for : He.DefD := ⟨("numbers_for", none), "numbers_for", "numbers_for", defArgs s_numbers_for, defBody s_numbers_for, defScope s_numbers_for, [], []⟩
abbrev s_one_longer : Stmt := top 30
def d_one_longer : He.DefD := ⟨("one_longer", none), "one_longer", "one_longer", defArgs s_one_longer, defBody s_one_longer, defScope s_one_longer, [], []⟩
abbrev s_texts_for : Stmt := top 31
def d_texts_for : He.DefD := ⟨("texts_for", none), "texts_for", "texts_for", defArgs s_texts_for, defBody s_texts_for, defScope s_texts_for, [], []⟩
abbrev s_values_for : Stmt := top 32
def d_values_for : He.DefD := ⟨("values_for", none), "values_for", "values_for", defArgs s_values_for, defBody s_values_for, defScope s_values_for, [], []⟩
abbrev s_sample_of : Stmt := top 33
def d_sample_of : He.DefD := ⟨("sample_of", none), "sample_of", "sample_of", defArgs s_sample_of, defBody s_sample_of, defScope s_sample_of, [], []⟩
abbrev s_is_less : Stmt := top 34
def d_is_less : He.DefD := ⟨("is_less", none), "is_less", "is_less", defArgs s_is_less, defBody s_is_less, defScope s_is_less, [], []⟩
abbrev s__law_cell_at : Stmt := top 36
def d__law_cell_at : He.DefD := ⟨("_law_cell_at", none), "_law_cell_at", "_law_cell_at", defArgs s__law_cell_at, defBody s__law_cell_at, defScope s__law_cell_at, [], []⟩
abbrev s__law_mixed : Stmt := top 37
def d__law_mixed : He.DefD := ⟨("_law_mixed", none), "_law_mixed", "_law_mixed", defArgs s__law_mixed, defBody s__law_mixed, defScope s__law_mixed, [], []⟩
abbrev s__law_word : Stmt := top 38
def d__law_word : He.DefD := ⟨("_law_word", none), "_law_word", "_law_word", defArgs s__law_word, defBody s__law_word, defScope s__law_word, [], []⟩
abbrev s__law_pool : Stmt := top 39
def d__law_pool : He.DefD := ⟨("_law_pool", none), "_law_pool", "_law_pool", defArgs s__law_pool, defBody s__law_pool, defScope s__law_pool, [], []⟩
abbrev s__law_leaf : Stmt := top 40
def d__law_leaf : He.DefD := ⟨("_law_leaf", none), "_law_leaf", "_law_leaf", defArgs s__law_leaf, defBody s__law_leaf, defScope s__law_leaf, [], []⟩
abbrev s__law_value : Stmt := top 41
def d__law_value : He.DefD := ⟨("_law_value", none), "_law_value", "_law_value", defArgs s__law_value, defBody s__law_value, defScope s__law_value, [], []⟩
abbrev s__law_bare : Stmt := top 42
def d__law_bare : He.DefD := ⟨("_law_bare", none), "_law_bare", "_law_bare", defArgs s__law_bare, defBody s__law_bare, defScope s__law_bare, [], []⟩
abbrev s__law_likeness : Stmt := top 43
def d__law_likeness : He.DefD := ⟨("_law_likeness", none), "_law_likeness", "_law_likeness", defArgs s__law_likeness, defBody s__law_likeness, defScope s__law_likeness, [], []⟩
abbrev s_law : Stmt := top 44
def d_law : He.DefD := ⟨("law", none), "law", "law", defArgs s_law, defBody s_law, defScope s_law, [], []⟩
def fa0 : List He.Fa := [.glo "is_whole", .glo "is_word", .glo "is_leaf", .glo "is_value", .glo "need_value", .glo "kind_of", .glo "same_as", .glo "is_bare", .glo "inner", .glo "is_likeness", .glo "need_likeness", .glo "bare_fits", .glo "fits_value", .glo "fits", .glo "bare_parts", .glo "told_values", .glo "numbers_for", .glo "one_longer", .glo "texts_for", .glo "values_for", .glo "sample_of", .glo "is_less", .glo "_law_cell_at", .glo "_law_mixed", .glo "_law_word"]
def fa1 : List He.Fa := [.glo "_law_pool", .glo "_law_leaf", .glo "_law_value", .glo "_law_bare", .glo "_law_likeness", .glo "law", .glo "StandError", .glo "NoValue", .glo "NoLikeness", .free "ValueError", .free "all", .free "any", .free "bool", .free "dict", .free "int", .free "isinstance", .free "len", .free "list", .free "min", .free "range", .free "sorted", .free "str", .free "tuple", .free "zip", .str "LETTERS" "abcdefghijklmnopqrstuvwxyz"]
def fa2 : List He.Fa := [.int "LONGEST" 6, .int "GREAT" 999, .int "ROW" 2, .int "PARTS" 5, .glo "KINDS", .exc "StandError", .exm "StandError" "StandError" true, .exc "NoValue", .exm "NoValue" "StandError" true, .exc "NoLikeness", .exm "NoLikeness" "StandError" true]
def fa : List He.Fa := fa0 ++ fa1 ++ fa2
def fn0 : List He.DefD := [d_is_whole, d_is_word, d_is_leaf, d_is_value, d_need_value, d_kind_of, d_same_as, d_is_bare, d_inner, d_is_likeness, d_need_likeness, d_bare_fits, d_fits_value, d_fits, d_bare_parts, d_told_values, d_numbers_for, d_one_longer, d_texts_for, d_values_for, d_sample_of, d_is_less, d__law_cell_at, d__law_mixed, d__law_word]
def fn1 : List He.DefD := [d__law_pool, d__law_leaf, d__law_value, d__law_bare, d__law_likeness, d_law]
def fn : List He.DefD := fn0 ++ fn1
def names0 : List Str := ["StandError", "NoValue", "NoLikeness", "LETTERS", "LONGEST", "GREAT", "ROW", "is_whole", "is_word", "is_leaf", "is_value", "need_value"]
def names1 : List Str := ["kind_of", "same_as", "PARTS", "KINDS", "is_bare", "inner", "is_likeness", "need_likeness", "bare_fits", "fits_value", "fits", "bare_parts"]
def names2 : List Str := ["told_values", "numbers_for", "one_longer", "texts_for", "values_for", "sample_of", "is_less", "_law_cell_at", "_law_mixed", "_law_word", "_law_pool", "_law_leaf"]
def names3 : List Str := ["_law_value", "_law_bare", "_law_likeness"]
def names : List Str := names0 ++ names1 ++ names2 ++ names3
abbrev Rrow : PySem.W.OpenRow := PySem.W.OpenLaw.row PySem.Challenge.rw_standins_k18_whole_algebra
def ex (K : PySem.W.Frag) : Bool := true && ((K.all fun q => !(q.2.cls == Value.type "list")) && (He.tupB K "KINDS" [.str "none", .str "truth", .str "number", .str "text", .str "row"]))
theorem m1 {K : PySem.W.Frag} (h : ex K = true) : (K.all fun q => !(q.2.cls == Value.type "list")) = true := ((Bool.and_eq_true_iff.mp (Bool.and_eq_true_iff.mp h).2).1)
theorem m2 {K : PySem.W.Frag} (h : ex K = true) : He.tupB K "KINDS" [.str "none", .str "truth", .str "number", .str "text", .str "row"] = true := ((Bool.and_eq_true_iff.mp (Bool.and_eq_true_iff.mp h).2).2)
abbrev hk : PySem.W.Hook := He.hookX 4 fa fn [] [] ex
def ob (s : PySem.W.SharedT) : He.AlX := He.obsX 4 fa fn [] [] ex (HandSHeadRun.getT s)
theorem ob_eq (s : PySem.W.SharedT) : ob s = hk.obs s.abs := He.obsX_eq (HandSHeadRun.getT_eq s)
theorem run (w : World) : HandSHeadRun.RunEq Rrow (PySem.W.view Rrow.prog [44]) hk ob 6000 names w := by
  intro os
  kernel_rfl
structure Tp (K : PySem.W.Frag) (mg : Str → Option Value) : Prop where
  d_is_whole : ∃ f fd, FnP K "is_whole" s_is_whole f fd ∧ mg "is_whole" = some (.ref f)
  d_is_word : ∃ f fd, FnP K "is_word" s_is_word f fd ∧ mg "is_word" = some (.ref f)
  d_is_leaf : ∃ f fd, FnP K "is_leaf" s_is_leaf f fd ∧ mg "is_leaf" = some (.ref f)
  d_is_value : ∃ f fd, FnP K "is_value" s_is_value f fd ∧ mg "is_value" = some (.ref f)
  d_need_value : ∃ f fd, FnP K "need_value" s_need_value f fd ∧ mg "need_value" = some (.ref f)
  d_kind_of : ∃ f fd, FnP K "kind_of" s_kind_of f fd ∧ mg "kind_of" = some (.ref f)
  d_same_as : ∃ f fd, FnP K "same_as" s_same_as f fd ∧ mg "same_as" = some (.ref f)
  d_is_bare : ∃ f fd, FnP K "is_bare" s_is_bare f fd ∧ mg "is_bare" = some (.ref f)
  d_inner : ∃ f fd, FnP K "inner" s_inner f fd ∧ mg "inner" = some (.ref f)
  d_is_likeness : ∃ f fd, FnP K "is_likeness" s_is_likeness f fd ∧ mg "is_likeness" = some (.ref f)
  d_need_likeness : ∃ f fd, FnP K "need_likeness" s_need_likeness f fd ∧ mg "need_likeness" = some (.ref f)
  d_bare_fits : ∃ f fd, FnP K "bare_fits" s_bare_fits f fd ∧ mg "bare_fits" = some (.ref f)
  d_fits_value : ∃ f fd, FnP K "fits_value" s_fits_value f fd ∧ mg "fits_value" = some (.ref f)
  d_fits : ∃ f fd, FnP K "fits" s_fits f fd ∧ mg "fits" = some (.ref f)
  d_bare_parts : ∃ f fd, FnP K "bare_parts" s_bare_parts f fd ∧ mg "bare_parts" = some (.ref f)
  d_told_values : ∃ f fd, FnP K "told_values" s_told_values f fd ∧ mg "told_values" = some (.ref f)
  d_numbers_for : ∃ f fd, FnP K "numbers_for" s_numbers_for f fd ∧ mg "numbers_for" = some (.ref f)
  d_one_longer : ∃ f fd, FnP K "one_longer" s_one_longer f fd ∧ mg "one_longer" = some (.ref f)
  d_texts_for : ∃ f fd, FnP K "texts_for" s_texts_for f fd ∧ mg "texts_for" = some (.ref f)
  d_values_for : ∃ f fd, FnP K "values_for" s_values_for f fd ∧ mg "values_for" = some (.ref f)
  d_sample_of : ∃ f fd, FnP K "sample_of" s_sample_of f fd ∧ mg "sample_of" = some (.ref f)
  d_is_less : ∃ f fd, FnP K "is_less" s_is_less f fd ∧ mg "is_less" = some (.ref f)
  d__law_cell_at : ∃ f fd, FnP K "_law_cell_at" s__law_cell_at f fd ∧ mg "_law_cell_at" = some (.ref f)
  d__law_mixed : ∃ f fd, FnP K "_law_mixed" s__law_mixed f fd ∧ mg "_law_mixed" = some (.ref f)
  d__law_word : ∃ f fd, FnP K "_law_word" s__law_word f fd ∧ mg "_law_word" = some (.ref f)
  d__law_pool : ∃ f fd, FnP K "_law_pool" s__law_pool f fd ∧ mg "_law_pool" = some (.ref f)
  d__law_leaf : ∃ f fd, FnP K "_law_leaf" s__law_leaf f fd ∧ mg "_law_leaf" = some (.ref f)
  d__law_value : ∃ f fd, FnP K "_law_value" s__law_value f fd ∧ mg "_law_value" = some (.ref f)
  d__law_bare : ∃ f fd, FnP K "_law_bare" s__law_bare f fd ∧ mg "_law_bare" = some (.ref f)
  d__law_likeness : ∃ f fd, FnP K "_law_likeness" s__law_likeness f fd ∧ mg "_law_likeness" = some (.ref f)
  d_law : ∃ f fd, FnP K "law" s_law f fd ∧ mg "law" = some (.ref f)
  g_StandError : mg "StandError" = some (.ref (He.ga K "StandError"))
  g_NoValue : mg "NoValue" = some (.ref (He.ga K "NoValue"))
  g_NoLikeness : mg "NoLikeness" = some (.ref (He.ga K "NoLikeness"))
  m_ValueError : mg "ValueError" = none
  m_all : mg "all" = none
  m_any : mg "any" = none
  m_bool : mg "bool" = none
  m_dict : mg "dict" = none
  m_int : mg "int" = none
  m_isinstance : mg "isinstance" = none
  m_len : mg "len" = none
  m_list : mg "list" = none
  m_min : mg "min" = none
  m_range : mg "range" = none
  m_sorted : mg "sorted" = none
  m_str : mg "str" = none
  m_tuple : mg "tuple" = none
  m_zip : mg "zip" = none
  nl : (K.all fun q => !(q.2.cls == Value.type "list")) = true
  c_LETTERS : ∃ t, mg "LETTERS" = some (.str "abcdefghijklmnopqrstuvwxyz" t)
  c_LONGEST : ∃ t, mg "LONGEST" = some (.int 6 t)
  c_GREAT : ∃ t, mg "GREAT" = some (.int 999 t)
  c_ROW : ∃ t, mg "ROW" = some (.int 2 t)
  c_PARTS : ∃ t, mg "PARTS" = some (.int 5 t)
  c_KINDS : mg "KINDS" = some (.ref (He.ga K "KINDS")) ∧ ∀ H, SqT K H (He.ga K "KINDS") [.str "none", .str "truth", .str "number", .str "text", .str "row"]
  x_StandError : PySem.W.excIn K (He.ga K "StandError") He.veBase "ValueError.__new__" = true ∧ PySem.W.keepIn K (.ref (He.ga K "StandError")) = true ∧ PySem.W.subIn K (.ref (He.ga K "StandError")) (.type "BaseException") = some true ∧ PySem.W.typeIn K (.ref (He.ga K "StandError")) = some (.type "type")
  e_StandError : PySem.W.exmOne K (.ref (He.ga K "StandError")) (.ref (He.ga K "StandError")) = some true
  x_NoValue : PySem.W.excIn K (He.ga K "NoValue") He.veBase "ValueError.__new__" = true ∧ PySem.W.keepIn K (.ref (He.ga K "NoValue")) = true ∧ PySem.W.subIn K (.ref (He.ga K "NoValue")) (.type "BaseException") = some true ∧ PySem.W.typeIn K (.ref (He.ga K "NoValue")) = some (.type "type")
  e_NoValue : PySem.W.exmOne K (.ref (He.ga K "NoValue")) (.ref (He.ga K "StandError")) = some true
  x_NoLikeness : PySem.W.excIn K (He.ga K "NoLikeness") He.veBase "ValueError.__new__" = true ∧ PySem.W.keepIn K (.ref (He.ga K "NoLikeness")) = true ∧ PySem.W.subIn K (.ref (He.ga K "NoLikeness")) (.type "BaseException") = some true ∧ PySem.W.typeIn K (.ref (He.ga K "NoLikeness")) = some (.type "type")
  e_NoLikeness : PySem.W.exmOne K (.ref (He.ga K "NoLikeness")) (.ref (He.ga K "StandError")) = some true
theorem tp_of {K : PySem.W.Frag} {mg : Str → Option Value} {h h0 : Heap} {w : World} (X : K.In h) (G : h.Ns mainGlobals mg) (c : He.SaysX fa fn [] [] ex w h0 K) : Tp K mg :=
  { d_is_whole := by
      obtain ⟨fd, F⟩ := c.t.d.def_ 0 (d := d_is_whole) rfl
      exact ⟨_, fd, F, He.glo_ok X G (c.t.d.fact 0 (f := .glo "is_whole") rfl)⟩,
    d_is_word := by
      obtain ⟨fd, F⟩ := c.t.d.def_ 1 (d := d_is_word) rfl
      exact ⟨_, fd, F, He.glo_ok X G (c.t.d.fact 1 (f := .glo "is_word") rfl)⟩,
    d_is_leaf := by
      obtain ⟨fd, F⟩ := c.t.d.def_ 2 (d := d_is_leaf) rfl
      exact ⟨_, fd, F, He.glo_ok X G (c.t.d.fact 2 (f := .glo "is_leaf") rfl)⟩,
    d_is_value := by
      obtain ⟨fd, F⟩ := c.t.d.def_ 3 (d := d_is_value) rfl
      exact ⟨_, fd, F, He.glo_ok X G (c.t.d.fact 3 (f := .glo "is_value") rfl)⟩,
    d_need_value := by
      obtain ⟨fd, F⟩ := c.t.d.def_ 4 (d := d_need_value) rfl
      exact ⟨_, fd, F, He.glo_ok X G (c.t.d.fact 4 (f := .glo "need_value") rfl)⟩,
    d_kind_of := by
      obtain ⟨fd, F⟩ := c.t.d.def_ 5 (d := d_kind_of) rfl
      exact ⟨_, fd, F, He.glo_ok X G (c.t.d.fact 5 (f := .glo "kind_of") rfl)⟩,
    d_same_as := by
      obtain ⟨fd, F⟩ := c.t.d.def_ 6 (d := d_same_as) rfl
      exact ⟨_, fd, F, He.glo_ok X G (c.t.d.fact 6 (f := .glo "same_as") rfl)⟩,
    d_is_bare := by
      obtain ⟨fd, F⟩ := c.t.d.def_ 7 (d := d_is_bare) rfl
      exact ⟨_, fd, F, He.glo_ok X G (c.t.d.fact 7 (f := .glo "is_bare") rfl)⟩,
    d_inner := by
      obtain ⟨fd, F⟩ := c.t.d.def_ 8 (d := d_inner) rfl
      exact ⟨_, fd, F, He.glo_ok X G (c.t.d.fact 8 (f := .glo "inner") rfl)⟩,
    d_is_likeness := by
      obtain ⟨fd, F⟩ := c.t.d.def_ 9 (d := d_is_likeness) rfl
      exact ⟨_, fd, F, He.glo_ok X G (c.t.d.fact 9 (f := .glo "is_likeness") rfl)⟩,
    d_need_likeness := by
      obtain ⟨fd, F⟩ := c.t.d.def_ 10 (d := d_need_likeness) rfl
      exact ⟨_, fd, F, He.glo_ok X G (c.t.d.fact 10 (f := .glo "need_likeness") rfl)⟩,
    d_bare_fits := by
      obtain ⟨fd, F⟩ := c.t.d.def_ 11 (d := d_bare_fits) rfl
      exact ⟨_, fd, F, He.glo_ok X G (c.t.d.fact 11 (f := .glo "bare_fits") rfl)⟩,
    d_fits_value := by
      obtain ⟨fd, F⟩ := c.t.d.def_ 12 (d := d_fits_value) rfl
      exact ⟨_, fd, F, He.glo_ok X G (c.t.d.fact 12 (f := .glo "fits_value") rfl)⟩,
    d_fits := by
      obtain ⟨fd, F⟩ := c.t.d.def_ 13 (d := d_fits) rfl
      exact ⟨_, fd, F, He.glo_ok X G (c.t.d.fact 13 (f := .glo "fits") rfl)⟩,
    d_bare_parts := by
      obtain ⟨fd, F⟩ := c.t.d.def_ 14 (d := d_bare_parts) rfl
      exact ⟨_, fd, F, He.glo_ok X G (c.t.d.fact 14 (f := .glo "bare_parts") rfl)⟩,
    d_told_values := by
      obtain ⟨fd, F⟩ := c.t.d.def_ 15 (d := d_told_values) rfl
      exact ⟨_, fd, F, He.glo_ok X G (c.t.d.fact 15 (f := .glo "told_values") rfl)⟩,
    d_numbers_for := by
      obtain ⟨fd, F⟩ := c.t.d.def_ 16 (d := d_numbers_for) rfl
      exact ⟨_, fd, F, He.glo_ok X G (c.t.d.fact 16 (f := .glo "numbers_for") rfl)⟩,
    d_one_longer := by
      obtain ⟨fd, F⟩ := c.t.d.def_ 17 (d := d_one_longer) rfl
      exact ⟨_, fd, F, He.glo_ok X G (c.t.d.fact 17 (f := .glo "one_longer") rfl)⟩,
    d_texts_for := by
      obtain ⟨fd, F⟩ := c.t.d.def_ 18 (d := d_texts_for) rfl
      exact ⟨_, fd, F, He.glo_ok X G (c.t.d.fact 18 (f := .glo "texts_for") rfl)⟩,
    d_values_for := by
      obtain ⟨fd, F⟩ := c.t.d.def_ 19 (d := d_values_for) rfl
      exact ⟨_, fd, F, He.glo_ok X G (c.t.d.fact 19 (f := .glo "values_for") rfl)⟩,
    d_sample_of := by
      obtain ⟨fd, F⟩ := c.t.d.def_ 20 (d := d_sample_of) rfl
      exact ⟨_, fd, F, He.glo_ok X G (c.t.d.fact 20 (f := .glo "sample_of") rfl)⟩,
    d_is_less := by
      obtain ⟨fd, F⟩ := c.t.d.def_ 21 (d := d_is_less) rfl
      exact ⟨_, fd, F, He.glo_ok X G (c.t.d.fact 21 (f := .glo "is_less") rfl)⟩,
    d__law_cell_at := by
      obtain ⟨fd, F⟩ := c.t.d.def_ 22 (d := d__law_cell_at) rfl
      exact ⟨_, fd, F, He.glo_ok X G (c.t.d.fact 22 (f := .glo "_law_cell_at") rfl)⟩,
    d__law_mixed := by
      obtain ⟨fd, F⟩ := c.t.d.def_ 23 (d := d__law_mixed) rfl
      exact ⟨_, fd, F, He.glo_ok X G (c.t.d.fact 23 (f := .glo "_law_mixed") rfl)⟩,
    d__law_word := by
      obtain ⟨fd, F⟩ := c.t.d.def_ 24 (d := d__law_word) rfl
      exact ⟨_, fd, F, He.glo_ok X G (c.t.d.fact 24 (f := .glo "_law_word") rfl)⟩,
    d__law_pool := by
      obtain ⟨fd, F⟩ := c.t.d.def_ 25 (d := d__law_pool) rfl
      exact ⟨_, fd, F, He.glo_ok X G (c.t.d.fact 25 (f := .glo "_law_pool") rfl)⟩,
    d__law_leaf := by
      obtain ⟨fd, F⟩ := c.t.d.def_ 26 (d := d__law_leaf) rfl
      exact ⟨_, fd, F, He.glo_ok X G (c.t.d.fact 26 (f := .glo "_law_leaf") rfl)⟩,
    d__law_value := by
      obtain ⟨fd, F⟩ := c.t.d.def_ 27 (d := d__law_value) rfl
      exact ⟨_, fd, F, He.glo_ok X G (c.t.d.fact 27 (f := .glo "_law_value") rfl)⟩,
    d__law_bare := by
      obtain ⟨fd, F⟩ := c.t.d.def_ 28 (d := d__law_bare) rfl
      exact ⟨_, fd, F, He.glo_ok X G (c.t.d.fact 28 (f := .glo "_law_bare") rfl)⟩,
    d__law_likeness := by
      obtain ⟨fd, F⟩ := c.t.d.def_ 29 (d := d__law_likeness) rfl
      exact ⟨_, fd, F, He.glo_ok X G (c.t.d.fact 29 (f := .glo "_law_likeness") rfl)⟩,
    d_law := by
      obtain ⟨fd, F⟩ := c.t.d.def_ 30 (d := d_law) rfl
      exact ⟨_, fd, F, He.glo_ok X G (c.t.d.fact 30 (f := .glo "law") rfl)⟩,
    g_StandError := He.glo_ok X G (c.t.d.fact 31 (f := .glo "StandError") rfl),
    g_NoValue := He.glo_ok X G (c.t.d.fact 32 (f := .glo "NoValue") rfl),
    g_NoLikeness := He.glo_ok X G (c.t.d.fact 33 (f := .glo "NoLikeness") rfl),
    m_ValueError := He.free_ok X G (c.t.d.fact 34 (f := .free "ValueError") rfl),
    m_all := He.free_ok X G (c.t.d.fact 35 (f := .free "all") rfl),
    m_any := He.free_ok X G (c.t.d.fact 36 (f := .free "any") rfl),
    m_bool := He.free_ok X G (c.t.d.fact 37 (f := .free "bool") rfl),
    m_dict := He.free_ok X G (c.t.d.fact 38 (f := .free "dict") rfl),
    m_int := He.free_ok X G (c.t.d.fact 39 (f := .free "int") rfl),
    m_isinstance := He.free_ok X G (c.t.d.fact 40 (f := .free "isinstance") rfl),
    m_len := He.free_ok X G (c.t.d.fact 41 (f := .free "len") rfl),
    m_list := He.free_ok X G (c.t.d.fact 42 (f := .free "list") rfl),
    m_min := He.free_ok X G (c.t.d.fact 43 (f := .free "min") rfl),
    m_range := He.free_ok X G (c.t.d.fact 44 (f := .free "range") rfl),
    m_sorted := He.free_ok X G (c.t.d.fact 45 (f := .free "sorted") rfl),
    m_str := He.free_ok X G (c.t.d.fact 46 (f := .free "str") rfl),
    m_tuple := He.free_ok X G (c.t.d.fact 47 (f := .free "tuple") rfl),
    m_zip := He.free_ok X G (c.t.d.fact 48 (f := .free "zip") rfl),
    nl := m1 c.more,
    c_LETTERS := He.str_ok X G (c.t.d.fact 49 (f := .str "LETTERS" "abcdefghijklmnopqrstuvwxyz") rfl),
    c_LONGEST := He.int_ok X G (c.t.d.fact 50 (f := .int "LONGEST" 6) rfl),
    c_GREAT := He.int_ok X G (c.t.d.fact 51 (f := .int "GREAT" 999) rfl),
    c_ROW := He.int_ok X G (c.t.d.fact 52 (f := .int "ROW" 2) rfl),
    c_PARTS := He.int_ok X G (c.t.d.fact 53 (f := .int "PARTS" 5) rfl),
    c_KINDS := ⟨He.glo_ok X G (c.t.d.fact 54 (f := .glo "KINDS") rfl), fun H => He.tupB_ok (m2 c.more) H⟩,
    x_StandError := He.exc_ok (c.t.d.fact 55 (f := .exc "StandError") rfl),
    e_StandError := He.exm_ok (c.t.d.fact 56 (f := .exm "StandError" "StandError" true) rfl),
    x_NoValue := He.exc_ok (c.t.d.fact 57 (f := .exc "NoValue") rfl),
    e_NoValue := He.exm_ok (c.t.d.fact 58 (f := .exm "NoValue" "StandError" true) rfl),
    x_NoLikeness := He.exc_ok (c.t.d.fact 59 (f := .exc "NoLikeness") rfl),
    e_NoLikeness := He.exm_ok (c.t.d.fact 60 (f := .exm "NoLikeness" "StandError" true) rfl) }
end Hd
open PySem PySem.W PySem.Calls PyProof.Rows
/-- the law's end: the def law is worth true at every script -/
theorem Hd.end_of {F : List PyData → Pu.R PyData} {k : Nat} (hk : L2.Room k callerA) (hF : ∀ ns : List Int, ns.length ≤ 63 → F [.list (ns.map PyData.int)] = .ok (.bool true))
    (ok : ∀ {w : World} {K : PySem.W.Frag} {mg : PySem.Str → Option Value} {f : Addr} {fd : FuncData} (base : Heap), Hd.Tp K mg → Pu.FnP K "law" Hd.s_law f fd → L2.FnOk (PySem.Challenge.rw_standins_k18_whole_algebra).prog w K mg base (L2N.CX (PySem.Challenge.rw_standins_k18_whole_algebra).prog w) k f fd ["script"] (Pu.spD K mg 1 F)) : PySem.Challenge.rw_standins_k18_whole_algebra.Holds := by
  w_on; o_law
  refine HandSHeadRun.head_any (r := OpenLaw.row PySem.Challenge.rw_standins_k18_whole_algebra) (q := view (OpenLaw.row PySem.Challenge.rw_standins_k18_whole_algebra).prog [44]) (H := Hd.hk) (ob := Hd.ob) (M := 6000) (loose := Hd.names) (d := HandSHeadRun.topDef (OpenLaw.row PySem.Challenge.rw_standins_k18_whole_algebra).prog 44) (kwd := []) Hd.ob_eq
    (by kernel_rfl) (fun s => by kernel_rfl) Hd.run (by kernel_rfl) (by kernel_rfl) (by kernel_rfl) (by rfl) (by first | assumption | decide +kernel) (by decide +kernel) ⟨rfl, rfl, rfl, rfl, rfl, by decide +kernel⟩ ?hw ?hc
  case hw => w_witness2
  case hc =>
    refine L2.walk_ofE (l := PySem.Challenge.rw_standins_k18_whole_algebra) (n := 63) (k := k) (x := "script") (CX := fun _ _ _ _ _ _ => False) rfl (by decide) (by kernel_rfl) hk ?F (fun _ _ _ _ z => z)
    intro w mg fa h Y G hmg0
    obtain ⟨K, KX, c⟩ := Y
    have hmg : mg ("law" : PySem.Str) = some (.ref fa) := by
      have e : (HandSHeadRun.topDef (OpenLaw.row PySem.Challenge.rw_standins_k18_whole_algebra).prog 44).name = ("law" : PySem.Str) := by kernel_rfl
      rw [← e]
      exact hmg0
    have T := Hd.tp_of KX G c
    obtain ⟨f, fd, FP, gm⟩ := T.d_law
    rw [hmg] at gm
    cases gm
    exact Pu.end_law hF T.nl FP (fun _ _ _ _ _ _ us hl => match us, hl with | [_], _ => rfl) (fun base => ok base T FP) KX

namespace Hd
open PySem PySem.Spec PyProof.Rows L2 Pu
section
variable {P : Program} {w : World} {K : PySem.W.Frag} {mg : Str → Option Value} {base : Heap} [MemoSpec]
theorem sc_is_whole : FnScope ["thing", "low", "most"] ["thing", "low", "most"] (defScope s_is_whole) := ⟨rfl, rfl, rfl, by decide +kernel, rfl, by decide +kernel, by decide +kernel⟩
theorem ok_is_whole {k : Nat} (T : Tp K mg) : FnD P w K mg base (k + 1) "is_whole" 3 (runD 3 fb_is_whole) := by
  obtain ⟨f, fd, FP, gm⟩ := T.d_is_whole
  refine fn_pure FP sc_is_whole gm (FP.bindsN fun _ _ _ _ _ _ us hl => match us, hl with | [_, _, _], _ => rfl) fun cdv A outer s H E B => ?_
  have hr := B.hr
  exact (psds_one (psd_ret (pd_and (pd_isi rfl T.m_isinstance rfl T.m_int (by decide +kernel) (pd_var (pv 0))) (pd_and (pd_not (pd_isi rfl T.m_isinstance rfl T.m_bool (by decide +kernel) (pd_var (pv 0)))) (pd_one (pd_chain op_le bo_le op_le bo_le (pd_var (pv 1)) (pd_var (pv 0)) (pd_var (pv 2))))))))

theorem sc_is_word : FnScope ["thing", "sign"] ["thing"] (defScope s_is_word) := ⟨rfl, rfl, rfl, by decide +kernel, rfl, by decide +kernel, by decide +kernel⟩
theorem ok_is_word {k : Nat} (T : Tp K mg) : FnD P w K mg base (k + 1) "is_word" 1 (runD 2 fb_is_word) := by
  obtain ⟨f, fd, FP, gm⟩ := T.d_is_word
  refine fn_pure FP sc_is_word gm (FP.bindsN fun _ _ _ _ _ _ us hl => match us, hl with | [_], _ => rfl) fun cdv A outer s H E B => ?_
  have hr := B.hr
  exact (psds_one (psd_ret (pd_and (pd_isi rfl T.m_isinstance rfl T.m_str (by decide +kernel) (pd_var (pv 0))) (pd_and (pd_chain op_le bo_le op_le bo_le pd_int (pd_callB call_len co_len rfl T.m_len boot_len (pa_consD (pd_var (pv 0)) pa_nilD)) (pd_gint rfl T.c_LONGEST)) (pd_one (pd_callB (cr_all rfl) co_all rfl T.m_all (by decide +kernel) (pa_consD (pd_of_pf (pf_lc rfl sc_is_word.nd (pi_c (pi_D (pd_var (pv 0)))) (blkOk_by (own := [("sign", 1)]) (N := ["thing", "sign"]) (sc := defScope s_is_word) (by decide +kernel)) (fun _ _ _ _ _ => (pg_nameD (i := 1) sc_is_word.nd rfl (by first | exact Or.inl rfl | exact Or.inr rfl))) (by decide) (fun _ _ _ _ _ => pts_nilD) (fun _ _ _ _ _ => (pd_cmp (op_inA (hu65 hr)) bo_in (pd_var (pv 1)) (pd_gstr rfl T.c_LETTERS))))) pa_nilD)))))))

theorem sc_is_leaf : FnScope ["thing"] ["thing"] (defScope s_is_leaf) := ⟨rfl, rfl, rfl, by decide +kernel, rfl, by decide +kernel, by decide +kernel⟩
theorem ok_is_leaf {k : Nat} {F_is_whole F_is_word : List PyData → R PyData} (T : Tp K mg) (h_is_whole : FnD P w K mg base k "is_whole" 3 F_is_whole) (h_is_word : FnD P w K mg base k "is_word" 1 F_is_word) : FnD P w K mg base (k + 1) "is_leaf" 1 (runD 1 (fb_is_leaf F_is_whole F_is_word)) := by
  obtain ⟨f, fd, FP, gm⟩ := T.d_is_leaf
  refine fn_pure FP sc_is_leaf gm (FP.bindsN fun _ _ _ _ _ _ us hl => match us, hl with | [_], _ => rfl) fun cdv A outer s H E B => ?_
  have hr := B.hr
  exact (psds_one (psd_ret (pd_or (pd_cmp op_isN bo_isN (pd_var (pv 0)) pd_non) (pd_or (pd_isi rfl T.m_isinstance rfl T.m_bool (by decide +kernel) (pd_var (pv 0))) (pd_or (pd_call h_is_whole hr B.tk rfl (pa_consD (pd_var (pv 0)) (pa_consD (pd_un un_neg uo_neg (pd_gint rfl T.c_GREAT)) (pa_consD (pd_gint rfl T.c_GREAT) pa_nilD)))) (pd_one (pd_call h_is_word hr B.tk rfl (pa_consD (pd_var (pv 0)) pa_nilD))))))))

theorem sc_is_value : FnScope ["thing", "one"] ["thing"] (defScope s_is_value) := ⟨rfl, rfl, rfl, by decide +kernel, rfl, by decide +kernel, by decide +kernel⟩
theorem ok_is_value {k : Nat} {F_is_leaf : List PyData → R PyData} (T : Tp K mg) (h_is_leaf : FnD P w K mg base k "is_leaf" 1 F_is_leaf) : FnD P w K mg base (k + 1) "is_value" 1 (runD 2 (fb_is_value F_is_leaf)) := by
  obtain ⟨f, fd, FP, gm⟩ := T.d_is_value
  refine fn_pure FP sc_is_value gm (FP.bindsN fun _ _ _ _ _ _ us hl => match us, hl with | [_], _ => rfl) fun cdv A outer s H E B => ?_
  have hr := B.hr
  exact (psds_cons (psd_if (pb_val (pd_isi rfl T.m_isinstance rfl T.m_tuple (by decide +kernel) (pd_var (pv 0)))) (psds_one (psd_ret (pd_and (pd_cmp op_le bo_le (pd_callB call_len co_len rfl T.m_len boot_len (pa_consD (pd_var (pv 0)) pa_nilD)) (pd_gint rfl T.c_ROW)) (pd_one (pd_callB (cr_all rfl) co_all rfl T.m_all (by decide +kernel) (pa_consD (pd_of_pf (pf_lc rfl sc_is_value.nd (pi_c (pi_D (pd_var (pv 0)))) (blkOk_by (own := [("one", 1)]) (N := ["thing", "one"]) (sc := defScope s_is_value) (by decide +kernel)) (fun _ _ _ _ _ => (pg_nameD (i := 1) sc_is_value.nd rfl (by first | exact Or.inl rfl | exact Or.inr rfl))) (by decide) (fun _ _ _ _ _ => pts_nilD) (fun _ _ _ _ _ => (pd_call h_is_leaf hr tk0 rfl (pa_consD (pd_var (pv 1)) pa_nilD))))) pa_nilD)))))) psds_nil)
    (psds_one (psd_ret (pd_call h_is_leaf hr B.tk rfl (pa_consD (pd_var (pv 0)) pa_nilD)))))

theorem sc_need_value : FnScope ["value"] ["value"] (defScope s_need_value) := ⟨rfl, rfl, rfl, by decide +kernel, rfl, by decide +kernel, by decide +kernel⟩
theorem ok_need_value {k : Nat} {F_is_value : List PyData → R PyData} (T : Tp K mg) (h_is_value : FnD P w K mg base k "is_value" 1 F_is_value) : FnD P w K mg base (k + 1) "need_value" 1 (runD 1 (fb_need_value F_is_value)) := by
  obtain ⟨f, fd, FP, gm⟩ := T.d_need_value
  refine fn_pure FP sc_need_value gm (FP.bindsN fun _ _ _ _ _ _ us hl => match us, hl with | [_], _ => rfl) fun cdv A outer s H E B => ?_
  have hr := B.hr
  exact (psds_one (psd_if (pb_not (pb_val (pd_call h_is_value hr B.tk rfl (pa_consD (pd_var (pv 0)) pa_nilD)))) (psds_one (psd_raise rfl B.tk T.x_NoValue.1 T.g_NoValue T.x_NoValue.2.1 T.x_NoValue.2.2.1 T.x_NoValue.2.2.2 rfl)) psds_nil))

theorem sc_kind_of : FnScope ["value"] ["value"] (defScope s_kind_of) := ⟨rfl, rfl, rfl, by decide +kernel, rfl, by decide +kernel, by decide +kernel⟩
theorem ok_kind_of {k : Nat} (T : Tp K mg) : FnD P w K mg base (k + 1) "kind_of" 1 (runD 1 fb_kind_of) := by
  obtain ⟨f, fd, FP, gm⟩ := T.d_kind_of
  refine fn_pure FP sc_kind_of gm (FP.bindsN fun _ _ _ _ _ _ us hl => match us, hl with | [_], _ => rfl) fun cdv A outer s H E B => ?_
  have hr := B.hr
  exact (psds_cons (psd_if (pb_cmp op_isN bo_isN (pd_var (pv 0)) pd_non) (psds_one (psd_ret pd_str)) psds_nil)
    (psds_cons (psd_if (pb_val (pd_isi rfl T.m_isinstance rfl T.m_bool (by decide +kernel) (pd_var (pv 0)))) (psds_one (psd_ret pd_str)) psds_nil)
    (psds_cons (psd_if (pb_val (pd_isi rfl T.m_isinstance rfl T.m_int (by decide +kernel) (pd_var (pv 0)))) (psds_one (psd_ret pd_str)) psds_nil)
    (psds_cons (psd_if (pb_val (pd_isi rfl T.m_isinstance rfl T.m_str (by decide +kernel) (pd_var (pv 0)))) (psds_one (psd_ret pd_str)) psds_nil)
    (psds_one (psd_ret pd_str))))))

theorem sc_same_as : FnScope ["one", "other", "a", "b"] ["one", "other"] (defScope s_same_as) := ⟨rfl, rfl, rfl, by decide +kernel, rfl, by decide +kernel, by decide +kernel⟩
theorem ok_same_as {k : Nat} {F_kind_of F_same_as : List PyData → R PyData} (T : Tp K mg) (h_kind_of : FnD P w K mg base k "kind_of" 1 F_kind_of) (h_same_as : FnD P w K mg base k "same_as" 2 F_same_as) : FnD P w K mg base (k + 1) "same_as" 2 (runD 4 (fb_same_as F_kind_of F_same_as)) := by
  obtain ⟨f, fd, FP, gm⟩ := T.d_same_as
  refine fn_pure FP sc_same_as gm (FP.bindsN fun _ _ _ _ _ _ us hl => match us, hl with | [_, _], _ => rfl) fun cdv A outer s H E B => ?_
  have hr := B.hr
  exact (psds_cons (psd_if (pb_cmp (op_neD hr.units) bo_ne (pd_call h_kind_of hr B.tk rfl (pa_consD (pd_var (pv 0)) pa_nilD)) (pd_call h_kind_of hr B.tk rfl (pa_consD (pd_var (pv 1)) pa_nilD))) (psds_one (psd_ret pd_bl)) psds_nil)
    (psds_cons (psd_if (pb_cmp (op_eqD hr.units) bo_eq (pd_call h_kind_of hr B.tk rfl (pa_consD (pd_var (pv 0)) pa_nilD)) pd_str) (psds_one (psd_ret (pd_and (pd_cmp (op_eqD hr.units) bo_eq (pd_callB call_len co_len rfl T.m_len boot_len (pa_consD (pd_var (pv 0)) pa_nilD)) (pd_callB call_len co_len rfl T.m_len boot_len (pa_consD (pd_var (pv 1)) pa_nilD))) (pd_one (pd_callB (cr_all rfl) co_all rfl T.m_all (by decide +kernel) (pa_consD (pd_of_pf (pf_lc rfl sc_same_as.nd (pi_c (pi_zipD rfl T.m_zip (pa_consD (pd_var (pv 0)) (pa_consD (pd_var (pv 1)) pa_nilD)))) (blkOk_by (own := [("a", 2), ("b", 3)]) (N := ["one", "other", "a", "b"]) (sc := defScope s_same_as) (by decide +kernel)) (fun _ _ _ _ _ => (pg_tupD rfl (pgs_consD (pg_nameD (i := 2) sc_same_as.nd rfl (by first | exact Or.inl rfl | exact Or.inr rfl)) (pgs_consD (pg_nameD (i := 3) sc_same_as.nd rfl (by first | exact Or.inl rfl | exact Or.inr rfl)) pgs_nilD)))) (by decide) (fun _ _ _ _ _ => pts_nilD) (fun _ _ _ _ _ => (pd_call h_same_as hr tk0 rfl (pa_consD (pd_var (pv 2)) (pa_consD (pd_var (pv 3)) pa_nilD)))))) pa_nilD)))))) psds_nil)
    (psds_one (psd_ret (pd_cmp (op_eqD hr.units) bo_eq (pd_var (pv 0)) (pd_var (pv 1)))))))

theorem sc_is_bare : FnScope ["thing"] ["thing"] (defScope s_is_bare) := ⟨rfl, rfl, rfl, by decide +kernel, rfl, by decide +kernel, by decide +kernel⟩
theorem ok_is_bare {k : Nat} {F_is_value F_is_whole F_is_word : List PyData → R PyData} (T : Tp K mg) (h_is_value : FnD P w K mg base k "is_value" 1 F_is_value) (h_is_whole : FnD P w K mg base k "is_whole" 3 F_is_whole) (h_is_word : FnD P w K mg base k "is_word" 1 F_is_word) : FnD P w K mg base (k + 1) "is_bare" 1 (runD 1 (fb_is_bare F_is_value F_is_whole F_is_word)) := by
  obtain ⟨f, fd, FP, gm⟩ := T.d_is_bare
  refine fn_pure FP sc_is_bare gm (FP.bindsN fun _ _ _ _ _ _ us hl => match us, hl with | [_], _ => rfl) fun cdv A outer s H E B => ?_
  have hr := B.hr
  exact (psds_cons (psd_if (pb_cmp (op_eqD hr.units) bo_eq (pd_ix (pd_var (pv 0)) pd_int) pd_str) (psds_one (psd_ret (pd_cmp (op_eqD hr.units) bo_eq (pd_callB call_len co_len rfl T.m_len boot_len (pa_consD (pd_var (pv 0)) pa_nilD)) pd_int))) psds_nil)
    (psds_cons (psd_if (pb_cmp (op_neD hr.units) bo_ne (pd_callB call_len co_len rfl T.m_len boot_len (pa_consD (pd_var (pv 0)) pa_nilD)) pd_int) (psds_one (psd_ret pd_bl)) psds_nil)
    (psds_cons (psd_if (pb_cmp (op_eqD hr.units) bo_eq (pd_ix (pd_var (pv 0)) pd_int) pd_str) (psds_one (psd_ret (pd_call h_is_value hr B.tk rfl (pa_consD (pd_ix (pd_var (pv 0)) pd_int) pa_nilD)))) psds_nil)
    (psds_cons (psd_if (pb_cmp (op_eqD hr.units) bo_eq (pd_ix (pd_var (pv 0)) pd_int) pd_str) (psds_one (psd_ret (pd_and (pd_isi rfl T.m_isinstance rfl T.m_str (by decide +kernel) (pd_ix (pd_var (pv 0)) pd_int)) (pd_one (pd_cmp (op_inA (hu65 hr)) bo_in (pd_ix (pd_var (pv 0)) pd_int) (pd_gstrs (zs := ["none", "truth", "number", "text", "row"]) rfl T.c_KINDS)))))) psds_nil)
    (psds_cons (psd_if (pb_cmp (op_eqD hr.units) bo_eq (pd_ix (pd_var (pv 0)) pd_int) pd_str) (psds_one (psd_ret (pd_call h_is_whole hr B.tk rfl (pa_consD (pd_ix (pd_var (pv 0)) pd_int) (pa_consD (pd_un un_neg uo_neg (pd_gint rfl T.c_GREAT)) (pa_consD (pd_gint rfl T.c_GREAT) pa_nilD)))))) psds_nil)
    (psds_one (psd_ret (pd_and (pd_cmp (op_eqD hr.units) bo_eq (pd_ix (pd_var (pv 0)) pd_int) pd_str) (pd_one (pd_call h_is_word hr B.tk rfl (pa_consD (pd_ix (pd_var (pv 0)) pd_int) pa_nilD)))))))))))

theorem sc_inner : FnScope ["thing"] ["thing"] (defScope s_inner) := ⟨rfl, rfl, rfl, by decide +kernel, rfl, by decide +kernel, by decide +kernel⟩
theorem ok_inner {k : Nat} (T : Tp K mg) : FnD P w K mg base (k + 1) "inner" 1 (runD 1 fb_inner) := by
  obtain ⟨f, fd, FP, gm⟩ := T.d_inner
  refine fn_pure FP sc_inner gm (FP.bindsN fun _ _ _ _ _ _ us hl => match us, hl with | [_], _ => rfl) fun cdv A outer s H E B => ?_
  have hr := B.hr
  exact (psds_cons (psd_if (pb_w (pb_andW (pb_cmp (op_inA (hu65 hr)) bo_in (pd_ix (pd_var (pv 0)) pd_int) (pd_tup (pa_consD pd_str (pa_consD pd_str pa_nilD)))) (pb_and1 (pb_cmp (op_eqD hr.units) bo_eq (pd_callB call_len co_len rfl T.m_len boot_len (pa_consD (pd_var (pv 0)) pa_nilD)) pd_int)))) (psds_one (psd_ret (pd_of_pf (pf_lst (pa_consD (pd_ix (pd_var (pv 0)) pd_int) pa_nilD))))) psds_nil)
    (psds_cons (psd_if (pb_w (pb_andW (pb_cmp (op_inA (hu65 hr)) bo_in (pd_ix (pd_var (pv 0)) pd_int) (pd_tup (pa_consD pd_str (pa_consD pd_str pa_nilD)))) (pb_and1 (pb_cmp (op_eqD hr.units) bo_eq (pd_callB call_len co_len rfl T.m_len boot_len (pa_consD (pd_var (pv 0)) pa_nilD)) pd_int)))) (psds_one (psd_ret (pd_of_pf (pf_lst (pa_consD (pd_ix (pd_var (pv 0)) pd_int) (pa_consD (pd_ix (pd_var (pv 0)) pd_int) pa_nilD)))))) psds_nil)
    (psds_cons (psd_if (pb_w (pb_andW (pb_cmp (op_eqD hr.units) bo_eq (pd_ix (pd_var (pv 0)) pd_int) pd_str) (pb_andW (pb_cmp (op_eqD hr.units) bo_eq (pd_callB call_len co_len rfl T.m_len boot_len (pa_consD (pd_var (pv 0)) pa_nilD)) pd_int) (pb_andW (pb_val (pd_isi rfl T.m_isinstance rfl T.m_tuple (by decide +kernel) (pd_ix (pd_var (pv 0)) pd_int))) (pb_and1 (pb_cmp op_le bo_le (pd_callB call_len co_len rfl T.m_len boot_len (pa_consD (pd_ix (pd_var (pv 0)) pd_int) pa_nilD)) (pd_gint rfl T.c_ROW))))))) (psds_one (psd_ret (pd_of_pf (pf_listD rfl T.m_list (pd_ix (pd_var (pv 0)) pd_int))))) psds_nil)
    (psds_one (psd_ret pd_non)))))

theorem sc_is_likeness : FnScope ["thing", "row", "many", "one", "parts"] ["thing"] (defScope s_is_likeness) := ⟨rfl, rfl, rfl, by decide +kernel, rfl, by decide +kernel, by decide +kernel⟩
theorem ok_is_likeness {k : Nat} {F_is_bare F_inner : List PyData → R PyData} (T : Tp K mg) (h_is_bare : FnD P w K mg base k "is_bare" 1 F_is_bare) (h_inner : FnD P w K mg base k "inner" 1 F_inner) : FnD P w K mg base (k + 1) "is_likeness" 1 (runD 5 (fb_is_likeness F_is_bare F_inner)) := by
  obtain ⟨f, fd, FP, gm⟩ := T.d_is_likeness
  refine fn_pure FP sc_is_likeness gm (FP.bindsN fun _ _ _ _ _ _ us hl => match us, hl with | [_], _ => rfl) fun cdv A outer s H E B => ?_
  have hr := B.hr
  exact (psds_cons (psd_setL (i := 1) sc_is_likeness.nd rfl (by first | exact Or.inl rfl | exact Or.inr rfl) (pf_lst (pa_consD (pd_var (pv 0)) pa_nilD)))
    (psds_cons (psd_set (i := 2) sc_is_likeness.nd rfl (by first | exact Or.inl rfl | exact Or.inr rfl) pd_int)
    (psds_cons (psd_while 1000 B.hp (pb_cmpL (op_neD hr.units) ro_ne (pl_own (pv 1)) (pd_of_pf (pf_lst pa_nilD))) (psds_cons (psd_pop (i := 1) (j := 3) (pv 1) sc_is_likeness.nd rfl (by first | exact Or.inl rfl | exact Or.inr rfl))
    (psds_cons (psd_set (i := 2) sc_is_likeness.nd rfl (by first | exact Or.inl rfl | exact Or.inr rfl) (pd_op op_addA bo_add (pd_var (pv 2)) pd_int))
    (psds_cons (psd_if (pb_w (pb_orW (pb_cmp op_gt bo_gt (pd_var (pv 2)) (pd_gint rfl T.c_PARTS)) (pb_orW (pb_not (pb_val (pd_isi rfl T.m_isinstance rfl T.m_tuple (by decide +kernel) (pd_var (pv 3))))) (pb_orW (pb_cmp (op_eqD hr.units) bo_eq (pd_callB call_len co_len rfl T.m_len boot_len (pa_consD (pd_var (pv 3)) pa_nilD)) pd_int) (pb_or1 (pb_not (pb_val (pd_isi rfl T.m_isinstance rfl T.m_str (by decide +kernel) (pd_ix (pd_var (pv 3)) pd_int))))))))) (psds_one (psd_ret pd_bl)) psds_nil)
    (psds_one (psd_if (pb_not (pb_val (pd_call h_is_bare hr B.tk rfl (pa_consD (pd_var (pv 3)) pa_nilD)))) (psds_cons (psd_set (i := 4) sc_is_likeness.nd rfl (by first | exact Or.inl rfl | exact Or.inr rfl) (pd_call h_inner hr B.tk rfl (pa_consD (pd_var (pv 3)) pa_nilD)))
    (psds_cons (psd_if (pb_cmp op_isN bo_isN (pd_var (pv 4)) pd_non) (psds_one (psd_ret pd_bl)) psds_nil)
    (psds_one (psd_ext (i := 1) (pv 1) (pl_of_pd (pd_var (pv 4))))))) psds_nil))))))
    (psds_one (psd_ret pd_bl)))))

theorem sc_need_likeness : FnScope ["likeness"] ["likeness"] (defScope s_need_likeness) := ⟨rfl, rfl, rfl, by decide +kernel, rfl, by decide +kernel, by decide +kernel⟩
theorem ok_need_likeness {k : Nat} {F_is_likeness : List PyData → R PyData} (T : Tp K mg) (h_is_likeness : FnD P w K mg base k "is_likeness" 1 F_is_likeness) : FnD P w K mg base (k + 1) "need_likeness" 1 (runD 1 (fb_need_likeness F_is_likeness)) := by
  obtain ⟨f, fd, FP, gm⟩ := T.d_need_likeness
  refine fn_pure FP sc_need_likeness gm (FP.bindsN fun _ _ _ _ _ _ us hl => match us, hl with | [_], _ => rfl) fun cdv A outer s H E B => ?_
  have hr := B.hr
  exact (psds_one (psd_if (pb_not (pb_val (pd_call h_is_likeness hr B.tk rfl (pa_consD (pd_var (pv 0)) pa_nilD)))) (psds_one (psd_raise rfl B.tk T.x_NoLikeness.1 T.g_NoLikeness T.x_NoLikeness.2.1 T.x_NoLikeness.2.2.1 T.x_NoLikeness.2.2.2 rfl)) psds_nil))

theorem sc_bare_fits : FnScope ["likeness", "value"] ["likeness", "value"] (defScope s_bare_fits) := ⟨rfl, rfl, rfl, by decide +kernel, rfl, by decide +kernel, by decide +kernel⟩
theorem ok_bare_fits {k : Nat} {F_same_as F_kind_of : List PyData → R PyData} (T : Tp K mg) (h_same_as : FnD P w K mg base k "same_as" 2 F_same_as) (h_kind_of : FnD P w K mg base k "kind_of" 1 F_kind_of) : FnD P w K mg base (k + 1) "bare_fits" 2 (runD 2 (fb_bare_fits F_same_as F_kind_of)) := by
  obtain ⟨f, fd, FP, gm⟩ := T.d_bare_fits
  refine fn_pure FP sc_bare_fits gm (FP.bindsN fun _ _ _ _ _ _ us hl => match us, hl with | [_, _], _ => rfl) fun cdv A outer s H E B => ?_
  have hr := B.hr
  exact (psds_cons (psd_if (pb_cmp (op_eqD hr.units) bo_eq (pd_ix (pd_var (pv 0)) pd_int) pd_str) (psds_one (psd_ret (pd_call h_same_as hr B.tk rfl (pa_consD (pd_ix (pd_var (pv 0)) pd_int) (pa_consD (pd_var (pv 1)) pa_nilD))))) psds_nil)
    (psds_cons (psd_if (pb_cmp (op_eqD hr.units) bo_eq (pd_ix (pd_var (pv 0)) pd_int) pd_str) (psds_one (psd_ret (pd_cmp (op_eqD hr.units) bo_eq (pd_call h_kind_of hr B.tk rfl (pa_consD (pd_var (pv 1)) pa_nilD)) (pd_ix (pd_var (pv 0)) pd_int)))) psds_nil)
    (psds_cons (psd_if (pb_cmp (op_eqD hr.units) bo_eq (pd_ix (pd_var (pv 0)) pd_int) pd_str) (psds_one (psd_ret (pd_and (pd_cmp (op_eqD hr.units) bo_eq (pd_call h_kind_of hr B.tk rfl (pa_consD (pd_var (pv 1)) pa_nilD)) pd_str) (pd_one (pd_cmp op_gt bo_gt (pd_var (pv 1)) (pd_ix (pd_var (pv 0)) pd_int)))))) psds_nil)
    (psds_cons (psd_if (pb_cmp (op_eqD hr.units) bo_eq (pd_ix (pd_var (pv 0)) pd_int) pd_str) (psds_one (psd_ret (pd_and (pd_cmp (op_eqD hr.units) bo_eq (pd_call h_kind_of hr B.tk rfl (pa_consD (pd_var (pv 1)) pa_nilD)) pd_str) (pd_one (pd_meth PySem.F.plainAttrs_str PySem.F.slot_str_startswith PySem.F.type_str_startswith mt_startswith mo_starts (pd_var (pv 1)) (pa_consD (pd_ix (pd_var (pv 0)) pd_int) pa_nilD)))))) psds_nil)
    (psds_one (psd_ret pd_bl))))))

theorem sc_fits_value : FnScope ["likeness", "value", "word", "one", "part"] ["likeness", "value"] (defScope s_fits_value) := ⟨rfl, rfl, rfl, by decide +kernel, rfl, by decide +kernel, by decide +kernel⟩
theorem ok_fits_value {k : Nat} {F_fits_value F_kind_of F_bare_fits : List PyData → R PyData} (T : Tp K mg) (h_fits_value : FnD P w K mg base k "fits_value" 2 F_fits_value) (h_kind_of : FnD P w K mg base k "kind_of" 1 F_kind_of) (h_bare_fits : FnD P w K mg base k "bare_fits" 2 F_bare_fits) : FnD P w K mg base (k + 1) "fits_value" 2 (runD 5 (fb_fits_value F_fits_value F_kind_of F_bare_fits)) := by
  obtain ⟨f, fd, FP, gm⟩ := T.d_fits_value
  refine fn_pure FP sc_fits_value gm (FP.bindsN fun _ _ _ _ _ _ us hl => match us, hl with | [_, _], _ => rfl) fun cdv A outer s H E B => ?_
  have hr := B.hr
  exact (psds_cons (psd_set (i := 2) sc_fits_value.nd rfl (by first | exact Or.inl rfl | exact Or.inr rfl) (pd_ix (pd_var (pv 0)) pd_int))
    (psds_cons (psd_if (pb_cmp (op_eqD hr.units) bo_eq (pd_var (pv 2)) pd_str) (psds_one (psd_ret (pd_not (pd_call h_fits_value hr B.tk rfl (pa_consD (pd_ix (pd_var (pv 0)) pd_int) (pa_consD (pd_var (pv 1)) pa_nilD)))))) psds_nil)
    (psds_cons (psd_if (pb_cmp (op_eqD hr.units) bo_eq (pd_var (pv 2)) pd_str) (psds_one (psd_ret (pd_and (pd_call h_fits_value hr B.tk rfl (pa_consD (pd_ix (pd_var (pv 0)) pd_int) (pa_consD (pd_var (pv 1)) pa_nilD))) (pd_one (pd_call h_fits_value hr B.tk rfl (pa_consD (pd_ix (pd_var (pv 0)) pd_int) (pa_consD (pd_var (pv 1)) pa_nilD))))))) psds_nil)
    (psds_cons (psd_if (pb_cmp (op_eqD hr.units) bo_eq (pd_var (pv 2)) pd_str) (psds_one (psd_ret (pd_or (pd_call h_fits_value hr B.tk rfl (pa_consD (pd_ix (pd_var (pv 0)) pd_int) (pa_consD (pd_var (pv 1)) pa_nilD))) (pd_one (pd_call h_fits_value hr B.tk rfl (pa_consD (pd_ix (pd_var (pv 0)) pd_int) (pa_consD (pd_var (pv 1)) pa_nilD))))))) psds_nil)
    (psds_cons (psd_if (pb_cmp (op_eqD hr.units) bo_eq (pd_var (pv 2)) pd_str) (psds_one (psd_ret (pd_and (pd_cmp (op_eqD hr.units) bo_eq (pd_call h_kind_of hr B.tk rfl (pa_consD (pd_var (pv 1)) pa_nilD)) pd_str) (pd_one (pd_callB (cr_any rfl) co_any rfl T.m_any (by decide +kernel) (pa_consD (pd_of_pf (pf_lc rfl sc_fits_value.nd (pi_c (pi_D (pd_var (pv 1)))) (blkOk_by (own := [("one", 3)]) (N := ["likeness", "value", "word", "one", "part"]) (sc := defScope s_fits_value) (by decide +kernel)) (fun _ _ _ _ _ => (pg_nameD (i := 3) sc_fits_value.nd rfl (by first | exact Or.inl rfl | exact Or.inr rfl))) (by decide) (fun _ _ _ _ _ => pts_nilD) (fun _ _ _ _ _ => (pd_call h_fits_value hr tk0 rfl (pa_consD (pd_ix (pd_var (pv 0)) pd_int) (pa_consD (pd_var (pv 3)) pa_nilD)))))) pa_nilD)))))) psds_nil)
    (psds_cons (psd_if (pb_cmp (op_eqD hr.units) bo_eq (pd_var (pv 2)) pd_str) (psds_cons (psd_if (pb_w (pb_orW (pb_cmp (op_neD hr.units) bo_ne (pd_call h_kind_of hr B.tk rfl (pa_consD (pd_var (pv 1)) pa_nilD)) pd_str) (pb_or1 (pb_cmp (op_neD hr.units) bo_ne (pd_callB call_len co_len rfl T.m_len boot_len (pa_consD (pd_var (pv 1)) pa_nilD)) (pd_callB call_len co_len rfl T.m_len boot_len (pa_consD (pd_ix (pd_var (pv 0)) pd_int) pa_nilD)))))) (psds_one (psd_ret pd_bl)) psds_nil)
    (psds_one (psd_ret (pd_callB (cr_all rfl) co_all rfl T.m_all (by decide +kernel) (pa_consD (pd_of_pf (pf_lc rfl sc_fits_value.nd (pi_c (pi_zipD rfl T.m_zip (pa_consD (pd_ix (pd_var (pv 0)) pd_int) (pa_consD (pd_var (pv 1)) pa_nilD)))) (blkOk_by (own := [("part", 4), ("one", 3)]) (N := ["likeness", "value", "word", "one", "part"]) (sc := defScope s_fits_value) (by decide +kernel)) (fun _ _ _ _ _ => (pg_tupD rfl (pgs_consD (pg_nameD (i := 4) sc_fits_value.nd rfl (by first | exact Or.inl rfl | exact Or.inr rfl)) (pgs_consD (pg_nameD (i := 3) sc_fits_value.nd rfl (by first | exact Or.inl rfl | exact Or.inr rfl)) pgs_nilD)))) (by decide) (fun _ _ _ _ _ => pts_nilD) (fun _ _ _ _ _ => (pd_call h_fits_value hr tk0 rfl (pa_consD (pd_var (pv 4)) (pa_consD (pd_var (pv 3)) pa_nilD)))))) pa_nilD))))) psds_nil)
    (psds_one (psd_ret (pd_call h_bare_fits hr B.tk rfl (pa_consD (pd_var (pv 0)) (pa_consD (pd_var (pv 1)) pa_nilD)))))))))))

theorem sc_fits : FnScope ["likeness", "value"] ["likeness", "value"] (defScope s_fits) := ⟨rfl, rfl, rfl, by decide +kernel, rfl, by decide +kernel, by decide +kernel⟩
theorem ok_fits {k : Nat} {F_need_likeness F_need_value F_fits_value : List PyData → R PyData} (T : Tp K mg) (h_need_likeness : FnD P w K mg base k "need_likeness" 1 F_need_likeness) (h_need_value : FnD P w K mg base k "need_value" 1 F_need_value) (h_fits_value : FnD P w K mg base k "fits_value" 2 F_fits_value) : FnD P w K mg base (k + 1) "fits" 2 (runD 2 (fb_fits F_need_likeness F_need_value F_fits_value)) := by
  obtain ⟨f, fd, FP, gm⟩ := T.d_fits
  refine fn_pure FP sc_fits gm (FP.bindsN fun _ _ _ _ _ _ us hl => match us, hl with | [_, _], _ => rfl) fun cdv A outer s H E B => ?_
  have hr := B.hr
  exact (psds_cons (psd_expr (pd_call h_need_likeness hr B.tk rfl (pa_consD (pd_var (pv 0)) pa_nilD)))
    (psds_cons (psd_expr (pd_call h_need_value hr B.tk rfl (pa_consD (pd_var (pv 1)) pa_nilD)))
    (psds_one (psd_ret (pd_call h_fits_value hr B.tk rfl (pa_consD (pd_var (pv 0)) (pa_consD (pd_var (pv 1)) pa_nilD)))))))

theorem sc_bare_parts : FnScope ["likeness", "found", "part"] ["likeness"] (defScope s_bare_parts) := ⟨rfl, rfl, rfl, by decide +kernel, rfl, by decide +kernel, by decide +kernel⟩
theorem ok_bare_parts {k : Nat} {F_is_bare F_inner F_bare_parts : List PyData → R PyData} (T : Tp K mg) (h_is_bare : FnD P w K mg base k "is_bare" 1 F_is_bare) (h_inner : FnD P w K mg base k "inner" 1 F_inner) (h_bare_parts : FnD P w K mg base k "bare_parts" 1 F_bare_parts) : FnD P w K mg base (k + 1) "bare_parts" 1 (runD 3 (fb_bare_parts F_is_bare F_inner F_bare_parts)) := by
  obtain ⟨f, fd, FP, gm⟩ := T.d_bare_parts
  refine fn_pure FP sc_bare_parts gm (FP.bindsN fun _ _ _ _ _ _ us hl => match us, hl with | [_], _ => rfl) fun cdv A outer s H E B => ?_
  have hr := B.hr
  exact (psds_cons (psd_if (pb_val (pd_call h_is_bare hr B.tk rfl (pa_consD (pd_var (pv 0)) pa_nilD))) (psds_one (psd_ret (pd_of_pf (pf_lst (pa_consD (pd_var (pv 0)) pa_nilD))))) psds_nil)
    (psds_cons (psd_setL (i := 1) sc_bare_parts.nd rfl (by first | exact Or.inl rfl | exact Or.inr rfl) (pf_lst pa_nilD))
    (psds_cons (psd_for B.hp rfl (pi_D (pd_call h_inner hr B.tk rfl (pa_consD (pd_var (pv 0)) pa_nilD))) (pg_nameD (i := 2) sc_bare_parts.nd rfl (by first | exact Or.inl rfl | exact Or.inr rfl)) (psds_one (psd_ext (i := 1) (pv 1) (pl_of_pd (pd_call h_bare_parts hr B.tk rfl (pa_consD (pd_var (pv 2)) pa_nilD))))))
    (psds_one (psd_frz 1 (psd_ret (pd_var (pv 1))))))))

theorem sc_told_values : FnScope ["parts", "found", "part"] ["parts"] (defScope s_told_values) := ⟨rfl, rfl, rfl, by decide +kernel, rfl, by decide +kernel, by decide +kernel⟩
theorem ok_told_values {k : Nat} (T : Tp K mg) : FnD P w K mg base (k + 1) "told_values" 1 (runD 3 fb_told_values) := by
  obtain ⟨f, fd, FP, gm⟩ := T.d_told_values
  refine fn_pure FP sc_told_values gm (FP.bindsN fun _ _ _ _ _ _ us hl => match us, hl with | [_], _ => rfl) fun cdv A outer s H E B => ?_
  have hr := B.hr
  exact (psds_cons (psd_setL (i := 1) sc_told_values.nd rfl (by first | exact Or.inl rfl | exact Or.inr rfl) (pf_lst pa_nilD))
    (psds_cons (psd_for B.hp rfl (pi_D (pd_var (pv 0))) (pg_nameD (i := 2) sc_told_values.nd rfl (by first | exact Or.inl rfl | exact Or.inr rfl)) (psds_one (psd_if (pb_cmp (op_eqD hr.units) bo_eq (pd_ix (pd_var (pv 2)) pd_int) pd_str) (psds_cons (psd_app (i := 1) (pv 1) (pd_ix (pd_var (pv 2)) pd_int))
    (psds_one (psd_if (pb_val (pd_isi rfl T.m_isinstance rfl T.m_tuple (by decide +kernel) (pd_ix (pd_var (pv 2)) pd_int))) (psds_one (psd_ext (i := 1) (pv 1) (pl_of_pf (pf_listD rfl T.m_list (pd_ix (pd_var (pv 2)) pd_int))))) psds_nil))) psds_nil)))
    (psds_one (psd_frz 1 (psd_ret (pd_var (pv 1)))))))

theorem sc_numbers_for : FnScope ["parts", "told", "known", "found", "start", "number", "value", "part"] ["parts", "told"] (defScope s_numbers_for) := ⟨rfl, rfl, rfl, by decide +kernel, rfl, by decide +kernel, by decide +kernel⟩
theorem ok_numbers_for {k : Nat} (T : Tp K mg) : FnD P w K mg base (k + 1) "numbers_for" 2 (runD 8 fb_numbers_for) := by
  obtain ⟨f, fd, FP, gm⟩ := T.d_numbers_for
  refine fn_pure FP sc_numbers_for gm (FP.bindsN fun _ _ _ _ _ _ us hl => match us, hl with | [_, _], _ => rfl) fun cdv A outer s H E B => ?_
  have hr := B.hr
  exact (psds_cons (psd_setLc (i := 2) rfl sc_numbers_for.nd rfl rfl (sw_true rfl rfl rfl (by decide +kernel)) (pi_c (pi_D (pd_var (pv 1)))) (blkOk_by (own := [("value", 6)]) (N := ["parts", "told", "known", "found", "start", "number", "value", "part"]) (sc := defScope s_numbers_for) (by decide +kernel)) (fun _ _ _ _ _ => (pg_nameD (i := 6) sc_numbers_for.nd rfl (by first | exact Or.inl rfl | exact Or.inr rfl))) (by decide) (fun _ _ _ _ _ => (pts_oneD (pb_w (pb_andW (pb_val (pd_isi rfl T.m_isinstance rfl T.m_int (by decide +kernel) (pd_var (pv 6)))) (pb_and1 (pb_not (pb_val (pd_isi rfl T.m_isinstance rfl T.m_bool (by decide +kernel) (pd_var (pv 6)))))))))) (fun _ _ _ _ _ => (pd_var (pv 6))))
    (psds_cons (psd_setDP (i := 3) rfl rfl T.m_dict sc_numbers_for.nd rfl (by first | exact Or.inl rfl | exact Or.inr rfl) (pl_of_pf (pf_lc rfl sc_numbers_for.nd (pi_c (pi_D (pd_var (pv 2)))) (blkOk_by (own := [("value", 6)]) (N := ["parts", "told", "known", "found", "start", "number", "value", "part"]) (sc := defScope s_numbers_for) (by decide +kernel)) (fun _ _ _ _ _ => (pg_nameD (i := 6) sc_numbers_for.nd rfl (by first | exact Or.inl rfl | exact Or.inr rfl))) (by decide) (fun _ _ _ _ _ => pts_nilD) (fun _ _ _ _ _ => (pd_tup (pa_consD (pd_var (pv 6)) (pa_consD pd_bl pa_nilD)))))))
    (psds_cons (psd_for B.hp rfl (pi_D (pd_of_pf (pf_cat (pl_of_pf (pf_lst (pa_consD (pd_un un_neg uo_neg (pd_gint rfl T.c_GREAT)) pa_nilD))) (pl_of_pf (pf_lc rfl sc_numbers_for.nd (pi_c (pi_D (pd_var (pv 0)))) (blkOk_by (own := [("part", 7)]) (N := ["parts", "told", "known", "found", "start", "number", "value", "part"]) (sc := defScope s_numbers_for) (by decide +kernel)) (fun _ _ _ _ _ => (pg_nameD (i := 7) sc_numbers_for.nd rfl (by first | exact Or.inl rfl | exact Or.inr rfl))) (by decide) (fun _ _ _ _ _ => (pts_oneD (pb_cmp (op_eqD hr.units) bo_eq (pd_ix (pd_var (pv 7)) pd_int) pd_str))) (fun _ _ _ _ _ => (pd_op op_addA bo_add (pd_ix (pd_var (pv 7)) pd_int) pd_int))))))) (pg_nameD (i := 4) sc_numbers_for.nd rfl (by first | exact Or.inl rfl | exact Or.inr rfl)) (psds_cons (psd_set (i := 5) sc_numbers_for.nd rfl (by first | exact Or.inl rfl | exact Or.inr rfl) (pd_var (pv 4)))
    (psds_cons (psd_while 1000 B.hp (pb_cmp (op_inA (hu65 hr)) bo_in (pd_var (pv 5)) (pd_var (pv 2))) (psds_one (psd_set (i := 5) sc_numbers_for.nd rfl (by first | exact Or.inl rfl | exact Or.inr rfl) (pd_op op_addA bo_add (pd_var (pv 5)) pd_int))))
    (psds_one (psd_if (pb_cmp op_le bo_le (pd_var (pv 5)) (pd_gint rfl T.c_GREAT)) (psds_one (psd_putK (i := 3) (hu1 hr) (pv 3) (pd_var (pv 5)) pd_bl)) psds_nil)))))
    (psds_one (psd_frz 3 (psd_ret (pd_of_pf (pf_sorted (hu65 hr) rfl T.m_sorted (pl_of_pf (pf_keysK rfl rfl T.m_list (pd_var (pv 3))))))))))))

theorem sc_one_longer : FnScope ["word", "known", "sign", "one"] ["word", "known"] (defScope s_one_longer) := ⟨rfl, rfl, rfl, by decide +kernel, rfl, by decide +kernel, by decide +kernel⟩
theorem ok_one_longer {k : Nat} (T : Tp K mg) : FnD P w K mg base (k + 1) "one_longer" 2 (runD 4 fb_one_longer) := by
  obtain ⟨f, fd, FP, gm⟩ := T.d_one_longer
  refine fn_pure FP sc_one_longer gm (FP.bindsN fun _ _ _ _ _ _ us hl => match us, hl with | [_, _], _ => rfl) fun cdv A outer s H E B => ?_
  have hr := B.hr
  exact (psds_one (psd_for B.hp rfl (pi_D (pd_gstr rfl T.c_LETTERS)) (pg_nameD (i := 2) sc_one_longer.nd rfl (by first | exact Or.inl rfl | exact Or.inr rfl)) (psds_one (psd_if (pb_not (pb_val (pd_callB (cr_any rfl) co_any rfl T.m_any (by decide +kernel) (pa_consD (pd_of_pf (pf_lc rfl sc_one_longer.nd (pi_c (pi_D (pd_var (pv 1)))) (blkOk_by (own := [("one", 3)]) (N := ["word", "known", "sign", "one"]) (sc := defScope s_one_longer) (by decide +kernel)) (fun _ _ _ _ _ => (pg_nameD (i := 3) sc_one_longer.nd rfl (by first | exact Or.inl rfl | exact Or.inr rfl))) (by decide) (fun _ _ _ _ _ => pts_nilD) (fun _ _ _ _ _ => (pd_meth PySem.F.plainAttrs_str PySem.F.slot_str_startswith PySem.F.type_str_startswith mt_startswith mo_starts (pd_var (pv 3)) (pa_consD (pd_op op_addA bo_add (pd_var (pv 0)) (pd_var (pv 2))) pa_nilD))))) pa_nilD)))) (psds_one (psd_ret (pd_op op_addA bo_add (pd_var (pv 0)) (pd_var (pv 2))))) psds_nil))))

theorem sc_texts_for : FnScope ["parts", "told", "known", "found", "word", "value", "part"] ["parts", "told"] (defScope s_texts_for) := ⟨rfl, rfl, rfl, by decide +kernel, rfl, by decide +kernel, by decide +kernel⟩
theorem ok_texts_for {k : Nat} {F_one_longer : List PyData → R PyData} (T : Tp K mg) (h_one_longer : FnD P w K mg base k "one_longer" 2 F_one_longer) : FnD P w K mg base (k + 1) "texts_for" 2 (runD 7 (fb_texts_for F_one_longer)) := by
  obtain ⟨f, fd, FP, gm⟩ := T.d_texts_for
  refine fn_pure FP sc_texts_for gm (FP.bindsN fun _ _ _ _ _ _ us hl => match us, hl with | [_, _], _ => rfl) fun cdv A outer s H E B => ?_
  have hr := B.hr
  exact (psds_cons (psd_setLcL (i := 2) rfl sc_texts_for.nd rfl rfl (sw_true rfl rfl rfl (by decide +kernel)) (pi_c (pi_D (pd_var (pv 1)))) (blkOk_by (own := [("value", 5)]) (N := ["parts", "told", "known", "found", "word", "value", "part"]) (sc := defScope s_texts_for) (by decide +kernel)) (fun _ _ _ _ _ => (pg_nameD (i := 5) sc_texts_for.nd rfl (by first | exact Or.inl rfl | exact Or.inr rfl))) (by decide) (fun _ _ _ _ _ => (pts_oneD (pb_val (pd_isi rfl T.m_isinstance rfl T.m_str (by decide +kernel) (pd_var (pv 5)))))) (fun _ _ _ _ _ => (pd_var (pv 5))))
    (psds_cons (psd_ext (i := 2) (pv 2) (pl_of_pf (pf_lc rfl sc_texts_for.nd (pi_c (pi_D (pd_var (pv 0)))) (blkOk_by (own := [("part", 6)]) (N := ["parts", "told", "known", "found", "word", "value", "part"]) (sc := defScope s_texts_for) (by decide +kernel)) (fun _ _ _ _ _ => (pg_nameD (i := 6) sc_texts_for.nd rfl (by first | exact Or.inl rfl | exact Or.inr rfl))) (by decide) (fun _ _ _ _ _ => (pts_oneD (pb_cmp (op_eqD hr.units) bo_eq (pd_ix (pd_var (pv 6)) pd_int) pd_str))) (fun _ _ _ _ _ => (pd_ix (pd_var (pv 6)) pd_int)))))
    (psds_cons (psd_frz 2 (psd_setDP (i := 3) rfl rfl T.m_dict sc_texts_for.nd rfl (by first | exact Or.inl rfl | exact Or.inr rfl) (pl_of_pf (pf_lc rfl sc_texts_for.nd (pi_c (pi_D (pd_var (pv 2)))) (blkOk_by (own := [("word", 4)]) (N := ["parts", "told", "known", "found", "word", "value", "part"]) (sc := defScope s_texts_for) (by decide +kernel)) (fun _ _ _ _ _ => (pg_nameD (i := 4) sc_texts_for.nd rfl (by first | exact Or.inl rfl | exact Or.inr rfl))) (by decide) (fun _ _ _ _ _ => pts_nilD) (fun _ _ _ _ _ => (pd_tup (pa_consD (pd_var (pv 4)) (pa_consD pd_bl pa_nilD))))))))
    (psds_cons (psd_frz 2 (psd_for B.hp rfl (pi_D (pd_of_pf (pf_cat (pl_of_pf (pf_lst (pa_consD pd_str pa_nilD))) (pl_of_pd (pd_var (pv 2)))))) (pg_nameD (i := 4) sc_texts_for.nd rfl (by first | exact Or.inl rfl | exact Or.inr rfl)) (psds_one (psd_frz 2 (psd_if (pb_cmp op_lt bo_lt (pd_callB call_len co_len rfl T.m_len boot_len (pa_consD (pd_var (pv 4)) pa_nilD)) (pd_gint rfl T.c_LONGEST)) (psds_one (psd_frz 2 (psd_putK (i := 3) (hu1 hr) (pv 3) (pd_call h_one_longer hr B.tk rfl (pa_consD (pd_var (pv 4)) (pa_consD (pd_var (pv 2)) pa_nilD))) pd_bl))) psds_nil)))))
    (psds_one (psd_frz 3 (psd_ret (pd_of_pf (pf_sorted (hu65 hr) rfl T.m_sorted (pl_of_pf (pf_keysK rfl rfl T.m_list (pd_var (pv 3)))))))))))))

theorem sc_values_for : FnScope ["parts", "told", "leaves", "found", "one", "other"] ["parts"] (defScope s_values_for) := ⟨rfl, rfl, rfl, by decide +kernel, rfl, by decide +kernel, by decide +kernel⟩
theorem ok_values_for {k : Nat} {F_told_values F_numbers_for F_texts_for : List PyData → R PyData} (T : Tp K mg) (h_told_values : FnD P w K mg base k "told_values" 1 F_told_values) (h_numbers_for : FnD P w K mg base k "numbers_for" 2 F_numbers_for) (h_texts_for : FnD P w K mg base k "texts_for" 2 F_texts_for) : FnD P w K mg base (k + 1) "values_for" 1 (runD 6 (fb_values_for F_told_values F_numbers_for F_texts_for)) := by
  obtain ⟨f, fd, FP, gm⟩ := T.d_values_for
  refine fn_pure FP sc_values_for gm (FP.bindsN fun _ _ _ _ _ _ us hl => match us, hl with | [_], _ => rfl) fun cdv A outer s H E B => ?_
  have hr := B.hr
  exact (psds_cons (psd_set (i := 1) sc_values_for.nd rfl (by first | exact Or.inl rfl | exact Or.inr rfl) (pd_call h_told_values hr B.tk rfl (pa_consD (pd_var (pv 0)) pa_nilD)))
    (psds_cons (psd_set (i := 2) sc_values_for.nd rfl (by first | exact Or.inl rfl | exact Or.inr rfl) (pd_of_pf (pf_cat (pl_of_pf (pf_cat (pl_of_pf (pf_lst (pa_consD pd_non (pa_consD pd_bl (pa_consD pd_bl pa_nilD))))) (pl_of_pd (pd_call h_numbers_for hr B.tk rfl (pa_consD (pd_var (pv 0)) (pa_consD (pd_var (pv 1)) pa_nilD)))))) (pl_of_pd (pd_call h_texts_for hr B.tk rfl (pa_consD (pd_var (pv 0)) (pa_consD (pd_var (pv 1)) pa_nilD)))))))
    (psds_cons (psd_setL (i := 3) sc_values_for.nd rfl (by first | exact Or.inl rfl | exact Or.inr rfl) (pf_cat (pl_of_pf (pf_cat (pl_of_pf (pf_listD rfl T.m_list (pd_var (pv 2)))) (pl_of_pf (pf_lst (pa_consD (pd_tup pa_nilD) pa_nilD))))) (pl_of_pf (pf_lc rfl sc_values_for.nd (pi_c (pi_D (pd_var (pv 2)))) (blkOk_by (own := [("one", 4)]) (N := ["parts", "told", "leaves", "found", "one", "other"]) (sc := defScope s_values_for) (by decide +kernel)) (fun _ _ _ _ _ => (pg_nameD (i := 4) sc_values_for.nd rfl (by first | exact Or.inl rfl | exact Or.inr rfl))) (by decide) (fun _ _ _ _ _ => pts_nilD) (fun _ _ _ _ _ => (pd_tup (pa_consD (pd_var (pv 4)) pa_nilD)))))))
    (psds_cons (psd_for B.hp rfl (pi_D (pd_var (pv 2))) (pg_nameD (i := 4) sc_values_for.nd rfl (by first | exact Or.inl rfl | exact Or.inr rfl)) (psds_one (psd_ext (i := 3) (pv 3) (pl_of_pf (pf_lc rfl sc_values_for.nd (pi_c (pi_D (pd_var (pv 2)))) (blkOk_by (own := [("other", 5)]) (N := ["parts", "told", "leaves", "found", "one", "other"]) (sc := defScope s_values_for) (by decide +kernel)) (fun _ _ _ _ _ => (pg_nameD (i := 5) sc_values_for.nd rfl (by first | exact Or.inl rfl | exact Or.inr rfl))) (by decide) (fun _ _ _ _ _ => pts_nilD) (fun _ _ _ _ _ => (pd_tup (pa_consD (pd_var (pv 4)) (pa_consD (pd_var (pv 5)) pa_nilD)))))))))
    (psds_one (psd_frz 3 (psd_ret (pd_var (pv 3)))))))))

theorem sc_sample_of : FnScope ["likeness", "value"] ["likeness"] (defScope s_sample_of) := ⟨rfl, rfl, rfl, by decide +kernel, rfl, by decide +kernel, by decide +kernel⟩
theorem ok_sample_of {k : Nat} {F_bare_parts F_values_for F_fits_value : List PyData → R PyData} (T : Tp K mg) (h_bare_parts : FnD P w K mg base k "bare_parts" 1 F_bare_parts) (h_values_for : FnD P w K mg base k "values_for" 1 F_values_for) (h_fits_value : FnD P w K mg base k "fits_value" 2 F_fits_value) : FnD P w K mg base (k + 1) "sample_of" 1 (runD 2 (fb_sample_of F_bare_parts F_values_for F_fits_value)) := by
  obtain ⟨f, fd, FP, gm⟩ := T.d_sample_of
  refine fn_pure FP sc_sample_of gm (FP.bindsN fun _ _ _ _ _ _ us hl => match us, hl with | [_], _ => rfl) fun cdv A outer s H E B => ?_
  have hr := B.hr
  exact (psds_cons (psd_for B.hp rfl (pi_D (pd_call h_values_for hr B.tk rfl (pa_consD (pd_call h_bare_parts hr B.tk rfl (pa_consD (pd_var (pv 0)) pa_nilD)) pa_nilD))) (pg_nameD (i := 1) sc_sample_of.nd rfl (by first | exact Or.inl rfl | exact Or.inr rfl)) (psds_one (psd_if (pb_val (pd_call h_fits_value hr B.tk rfl (pa_consD (pd_var (pv 0)) (pa_consD (pd_var (pv 1)) pa_nilD)))) (psds_one (psd_ret (pd_tup (pa_consD (pd_var (pv 1)) pa_nilD)))) psds_nil)))
    (psds_one (psd_ret pd_non)))

theorem sc_is_less : FnScope ["one", "other"] ["one", "other"] (defScope s_is_less) := ⟨rfl, rfl, rfl, by decide +kernel, rfl, by decide +kernel, by decide +kernel⟩
theorem ok_is_less {k : Nat} {F_need_likeness F_sample_of : List PyData → R PyData} (T : Tp K mg) (h_need_likeness : FnD P w K mg base k "need_likeness" 1 F_need_likeness) (h_sample_of : FnD P w K mg base k "sample_of" 1 F_sample_of) : FnD P w K mg base (k + 1) "is_less" 2 (runD 2 (fb_is_less F_need_likeness F_sample_of)) := by
  obtain ⟨f, fd, FP, gm⟩ := T.d_is_less
  refine fn_pure FP sc_is_less gm (FP.bindsN fun _ _ _ _ _ _ us hl => match us, hl with | [_, _], _ => rfl) fun cdv A outer s H E B => ?_
  have hr := B.hr
  exact (psds_cons (psd_expr (pd_call h_need_likeness hr B.tk rfl (pa_consD (pd_var (pv 0)) pa_nilD)))
    (psds_cons (psd_expr (pd_call h_need_likeness hr B.tk rfl (pa_consD (pd_var (pv 1)) pa_nilD)))
    (psds_one (psd_ret (pd_cmp op_isN bo_isN (pd_call h_sample_of hr B.tk rfl (pa_consD (pd_tup (pa_consD pd_str (pa_consD (pd_var (pv 0)) (pa_consD (pd_tup (pa_consD pd_str (pa_consD (pd_var (pv 1)) pa_nilD))) pa_nilD)))) pa_nilD)) pd_non)))))

theorem sc_law_cell_at : FnScope ["script", "k"] ["script", "k"] (defScope s__law_cell_at) := ⟨rfl, rfl, rfl, by decide +kernel, rfl, by decide +kernel, by decide +kernel⟩
theorem ok_law_cell_at {k : Nat} (T : Tp K mg) : FnD P w K mg base (k + 1) "_law_cell_at" 2 (runD 2 fb_law_cell_at) := by
  obtain ⟨f, fd, FP, gm⟩ := T.d__law_cell_at
  refine fn_pure FP sc_law_cell_at gm (FP.bindsN fun _ _ _ _ _ _ us hl => match us, hl with | [_, _], _ => rfl) fun cdv A outer s H E B => ?_
  have hr := B.hr
  exact (psds_cons (psd_if (pb_cmp op_lt bo_lt (pd_var (pv 1)) (pd_callB call_len co_len rfl T.m_len boot_len (pa_consD (pd_var (pv 0)) pa_nilD))) (psds_one (psd_ret (pd_ix (pd_var (pv 0)) (pd_var (pv 1))))) psds_nil)
    (psds_cons (psd_if (pb_cmp (op_eqD hr.units) bo_eq (pd_var (pv 0)) (pd_of_pf (pf_lst pa_nilD))) (psds_one (psd_ret pd_int)) psds_nil)
    (psds_one (psd_ret (pd_op op_addA bo_add (pd_op op_mul bo_mul (pd_ix (pd_var (pv 0)) (pd_op op_mod bo_mod (pd_var (pv 1)) (pd_callB call_len co_len rfl T.m_len boot_len (pa_consD (pd_var (pv 0)) pa_nilD)))) pd_int) (pd_var (pv 1)))))))

theorem sc_law_mixed : FnScope ["script", "k", "many", "drawn"] ["script", "k", "many"] (defScope s__law_mixed) := ⟨rfl, rfl, rfl, by decide +kernel, rfl, by decide +kernel, by decide +kernel⟩
theorem ok_law_mixed {k : Nat} {F_law_cell_at : List PyData → R PyData} (T : Tp K mg) (h_law_cell_at : FnD P w K mg base k "_law_cell_at" 2 F_law_cell_at) : FnD P w K mg base (k + 1) "_law_mixed" 3 (runD 4 (fb_law_mixed F_law_cell_at)) := by
  obtain ⟨f, fd, FP, gm⟩ := T.d__law_mixed
  refine fn_pure FP sc_law_mixed gm (FP.bindsN fun _ _ _ _ _ _ us hl => match us, hl with | [_, _, _], _ => rfl) fun cdv A outer s H E B => ?_
  have hr := B.hr
  exact (psds_cons (psd_set (i := 3) sc_law_mixed.nd rfl (by first | exact Or.inl rfl | exact Or.inr rfl) (pd_op op_mod bo_mod (pd_op op_mul bo_mul (pd_op op_addA bo_add (pd_op op_addA bo_add (pd_call h_law_cell_at hr B.tk rfl (pa_consD (pd_var (pv 0)) (pa_consD (pd_var (pv 1)) pa_nilD))) (pd_op op_mul bo_mul pd_int (pd_var (pv 1)))) pd_int) pd_int) pd_int))
    (psds_one (psd_ret (pd_op op_mod bo_mod (pd_op op_mod bo_mod (pd_op op_addA bo_add (pd_op op_addA bo_add (pd_op op_mul bo_mul (pd_var (pv 3)) (pd_var (pv 3))) (pd_op op_mul bo_mul pd_int (pd_var (pv 3)))) (pd_var (pv 1))) pd_int) (pd_var (pv 2))))))

theorem sc_law_word : FnScope ["script", "at", "made", "k"] ["script", "at"] (defScope s__law_word) := ⟨rfl, rfl, rfl, by decide +kernel, rfl, by decide +kernel, by decide +kernel⟩
theorem ok_law_word {k : Nat} {F_law_mixed : List PyData → R PyData} (T : Tp K mg) (h_law_mixed : FnD P w K mg base k "_law_mixed" 3 F_law_mixed) : FnD P w K mg base (k + 1) "_law_word" 2 (runD 4 (fb_law_word F_law_mixed)) := by
  obtain ⟨f, fd, FP, gm⟩ := T.d__law_word
  refine fn_pure FP sc_law_word gm (FP.bindsN fun _ _ _ _ _ _ us hl => match us, hl with | [_, _], _ => rfl) fun cdv A outer s H E B => ?_
  have hr := B.hr
  exact (psds_cons (psd_set (i := 2) sc_law_word.nd rfl (by first | exact Or.inl rfl | exact Or.inr rfl) pd_str)
    (psds_cons (psd_for B.hp rfl (pi_range1D rfl T.m_range (pa_consD (pd_ix (pd_of_pf (pf_lst (pa_consD pd_int (pa_consD pd_int (pa_consD pd_int (pa_consD pd_int (pa_consD pd_int (pa_consD pd_int pa_nilD)))))))) (pd_call h_law_mixed hr B.tk rfl (pa_consD (pd_var (pv 0)) (pa_consD (pd_var (pv 1)) (pa_consD pd_int pa_nilD))))) pa_nilD)) (pg_nameD (i := 3) sc_law_word.nd rfl (by first | exact Or.inl rfl | exact Or.inr rfl)) (psds_one (psd_set (i := 2) sc_law_word.nd rfl (by first | exact Or.inl rfl | exact Or.inr rfl) (pd_op op_addA bo_add (pd_var (pv 2)) (pd_ix pd_str (pd_call h_law_mixed hr B.tk rfl (pa_consD (pd_var (pv 0)) (pa_consD (pd_op op_addA bo_add (pd_op op_addA bo_add (pd_var (pv 1)) pd_int) (pd_var (pv 3))) (pa_consD pd_int pa_nilD)))))))))
    (psds_one (psd_ret (pd_var (pv 2))))))

theorem sc_law_pool : FnScope ["script", "at", "number", "numbers", "word", "words"] ["script", "at"] (defScope s__law_pool) := ⟨rfl, rfl, rfl, by decide +kernel, rfl, by decide +kernel, by decide +kernel⟩
theorem ok_law_pool {k : Nat} {F_law_mixed F_law_word : List PyData → R PyData} (T : Tp K mg) (h_law_mixed : FnD P w K mg base k "_law_mixed" 3 F_law_mixed) (h_law_word : FnD P w K mg base k "_law_word" 2 F_law_word) : FnD P w K mg base (k + 1) "_law_pool" 2 (runD 6 (fb_law_pool F_law_mixed F_law_word)) := by
  obtain ⟨f, fd, FP, gm⟩ := T.d__law_pool
  refine fn_pure FP sc_law_pool gm (FP.bindsN fun _ _ _ _ _ _ us hl => match us, hl with | [_, _], _ => rfl) fun cdv A outer s H E B => ?_
  have hr := B.hr
  exact (psds_cons (psd_set (i := 2) sc_law_pool.nd rfl (by first | exact Or.inl rfl | exact Or.inr rfl) (pd_op op_sub bo_sub (pd_call h_law_mixed hr B.tk rfl (pa_consD (pd_var (pv 0)) (pa_consD (pd_var (pv 1)) (pa_consD pd_int pa_nilD)))) pd_int))
    (psds_cons (psd_set (i := 3) sc_law_pool.nd rfl (by first | exact Or.inl rfl | exact Or.inr rfl) (pd_of_pf (pf_lst (pa_consD (pd_var (pv 2)) (pa_consD (pd_callB (call_min2 rfl) co_min2 rfl T.m_min (by decide +kernel) (pa_consD pd_int (pa_consD (pd_op op_addA bo_add (pd_var (pv 2)) pd_int) pa_nilD))) (pa_consD (pd_ix (pd_of_pf (pf_lst (pa_consD pd_int (pa_consD pd_int (pa_consD (pd_un un_neg uo_neg pd_int) (pa_consD pd_int pa_nilD)))))) (pd_call h_law_mixed hr B.tk rfl (pa_consD (pd_var (pv 0)) (pa_consD (pd_op op_addA bo_add (pd_var (pv 1)) pd_int) (pa_consD pd_int pa_nilD))))) pa_nilD))))))
    (psds_cons (psd_set (i := 4) sc_law_pool.nd rfl (by first | exact Or.inl rfl | exact Or.inr rfl) (pd_call h_law_word hr B.tk rfl (pa_consD (pd_var (pv 0)) (pa_consD (pd_op op_addA bo_add (pd_var (pv 1)) pd_int) pa_nilD))))
    (psds_cons (psd_set (i := 5) sc_law_pool.nd rfl (by first | exact Or.inl rfl | exact Or.inr rfl) (pd_of_pf (pf_lst (pa_consD (pd_var (pv 4)) (pa_consD (pd_slice (pd_op op_addA bo_add (pd_var (pv 4)) (pd_call h_law_word hr B.tk rfl (pa_consD (pd_var (pv 0)) (pa_consD (pd_op op_addA bo_add (pd_var (pv 1)) pd_int) pa_nilD)))) po_noneD (po_someD pd_int)) (pa_consD (pd_call h_law_word hr B.tk rfl (pa_consD (pd_var (pv 0)) (pa_consD (pd_op op_addA bo_add (pd_var (pv 1)) pd_int) pa_nilD))) pa_nilD))))))
    (psds_one (psd_ret (pd_tup (pa_consD (pd_var (pv 3)) (pa_consD (pd_var (pv 5)) pa_nilD)))))))))

theorem sc_law_leaf : FnScope ["script", "at", "pool", "kind"] ["script", "at", "pool"] (defScope s__law_leaf) := ⟨rfl, rfl, rfl, by decide +kernel, rfl, by decide +kernel, by decide +kernel⟩
theorem ok_law_leaf {k : Nat} {F_law_mixed : List PyData → R PyData} (T : Tp K mg) (h_law_mixed : FnD P w K mg base k "_law_mixed" 3 F_law_mixed) : FnD P w K mg base (k + 1) "_law_leaf" 3 (runD 4 (fb_law_leaf F_law_mixed)) := by
  obtain ⟨f, fd, FP, gm⟩ := T.d__law_leaf
  refine fn_pure FP sc_law_leaf gm (FP.bindsN fun _ _ _ _ _ _ us hl => match us, hl with | [_, _, _], _ => rfl) fun cdv A outer s H E B => ?_
  have hr := B.hr
  exact (psds_cons (psd_set (i := 3) sc_law_leaf.nd rfl (by first | exact Or.inl rfl | exact Or.inr rfl) (pd_call h_law_mixed hr B.tk rfl (pa_consD (pd_var (pv 0)) (pa_consD (pd_var (pv 1)) (pa_consD pd_int pa_nilD)))))
    (psds_cons (psd_if (pb_cmp op_lt bo_lt (pd_var (pv 3)) pd_int) (psds_one (psd_ret (pd_ix (pd_of_pf (pf_lst (pa_consD pd_non (pa_consD pd_bl (pa_consD pd_bl pa_nilD))))) (pd_var (pv 3))))) psds_nil)
    (psds_cons (psd_if (pb_cmp op_lt bo_lt (pd_var (pv 3)) pd_int) (psds_one (psd_ret (pd_ix (pd_ix (pd_var (pv 2)) pd_int) (pd_op op_sub bo_sub (pd_var (pv 3)) pd_int)))) psds_nil)
    (psds_one (psd_ret (pd_ix (pd_ix (pd_var (pv 2)) pd_int) (pd_call h_law_mixed hr B.tk rfl (pa_consD (pd_var (pv 0)) (pa_consD (pd_op op_addA bo_add (pd_var (pv 1)) pd_int) (pa_consD pd_int pa_nilD))))))))))

theorem sc_law_value : FnScope ["script", "at", "pool", "many", "k"] ["script", "at", "pool"] (defScope s__law_value) := ⟨rfl, rfl, rfl, by decide +kernel, rfl, by decide +kernel, by decide +kernel⟩
theorem ok_law_value {k : Nat} {F_law_mixed F_law_leaf : List PyData → R PyData} (T : Tp K mg) (h_law_mixed : FnD P w K mg base k "_law_mixed" 3 F_law_mixed) (h_law_leaf : FnD P w K mg base k "_law_leaf" 3 F_law_leaf) : FnD P w K mg base (k + 1) "_law_value" 3 (runD 5 (fb_law_value F_law_mixed F_law_leaf)) := by
  obtain ⟨f, fd, FP, gm⟩ := T.d__law_value
  refine fn_pure FP sc_law_value gm (FP.bindsN fun _ _ _ _ _ _ us hl => match us, hl with | [_, _, _], _ => rfl) fun cdv A outer s H E B => ?_
  have hr := B.hr
  exact (psds_cons (psd_set (i := 3) sc_law_value.nd rfl (by first | exact Or.inl rfl | exact Or.inr rfl) (pd_ix (pd_of_pf (pf_lst (pa_consD pd_int (pa_consD pd_int (pa_consD pd_int (pa_consD pd_int (pa_consD pd_int (pa_consD pd_int pa_nilD)))))))) (pd_call h_law_mixed hr B.tk rfl (pa_consD (pd_var (pv 0)) (pa_consD (pd_var (pv 1)) (pa_consD pd_int pa_nilD))))))
    (psds_cons (psd_if (pb_cmp (op_eqD hr.units) bo_eq (pd_var (pv 3)) pd_int) (psds_one (psd_ret (pd_call h_law_leaf hr B.tk rfl (pa_consD (pd_var (pv 0)) (pa_consD (pd_op op_addA bo_add (pd_var (pv 1)) pd_int) (pa_consD (pd_var (pv 2)) pa_nilD)))))) psds_nil)
    (psds_one (psd_ret (pd_callTy call_tuple_of co_tuple rfl T.m_tuple (by decide +kernel) (pa_consD (pd_of_pf (pf_lc rfl sc_law_value.nd (pi_c (pi_range1D rfl T.m_range (pa_consD (pd_var (pv 3)) pa_nilD))) (blkOk_by (own := [("k", 4)]) (N := ["script", "at", "pool", "many", "k"]) (sc := defScope s__law_value) (by decide +kernel)) (fun _ _ _ _ _ => (pg_nameD (i := 4) sc_law_value.nd rfl (by first | exact Or.inl rfl | exact Or.inr rfl))) (by decide) (fun _ _ _ _ _ => pts_nilD) (fun _ _ _ _ _ => (pd_call h_law_leaf hr tk0 rfl (pa_consD (pd_var (pv 0)) (pa_consD (pd_op op_addA bo_add (pd_op op_addA bo_add (pd_var (pv 1)) pd_int) (pd_op op_mul bo_mul pd_int (pd_var (pv 4)))) (pa_consD (pd_var (pv 2)) pa_nilD))))))) pa_nilD))))))

theorem sc_law_bare : FnScope ["script", "at", "pool", "kind"] ["script", "at", "pool"] (defScope s__law_bare) := ⟨rfl, rfl, rfl, by decide +kernel, rfl, by decide +kernel, by decide +kernel⟩
theorem ok_law_bare {k : Nat} {F_law_mixed F_law_value : List PyData → R PyData} (T : Tp K mg) (h_law_mixed : FnD P w K mg base k "_law_mixed" 3 F_law_mixed) (h_law_value : FnD P w K mg base k "_law_value" 3 F_law_value) : FnD P w K mg base (k + 1) "_law_bare" 3 (runD 4 (fb_law_bare F_law_mixed F_law_value)) := by
  obtain ⟨f, fd, FP, gm⟩ := T.d__law_bare
  refine fn_pure FP sc_law_bare gm (FP.bindsN fun _ _ _ _ _ _ us hl => match us, hl with | [_, _, _], _ => rfl) fun cdv A outer s H E B => ?_
  have hr := B.hr
  exact (psds_cons (psd_set (i := 3) sc_law_bare.nd rfl (by first | exact Or.inl rfl | exact Or.inr rfl) (pd_call h_law_mixed hr B.tk rfl (pa_consD (pd_var (pv 0)) (pa_consD (pd_var (pv 1)) (pa_consD pd_int pa_nilD)))))
    (psds_cons (psd_if (pb_cmp op_lt bo_lt (pd_var (pv 3)) pd_int) (psds_one (psd_ret (pd_tup (pa_consD pd_str (pa_consD (pd_call h_law_value hr B.tk rfl (pa_consD (pd_var (pv 0)) (pa_consD (pd_op op_addA bo_add (pd_var (pv 1)) pd_int) (pa_consD (pd_var (pv 2)) pa_nilD)))) pa_nilD))))) psds_nil)
    (psds_cons (psd_if (pb_cmp op_lt bo_lt (pd_var (pv 3)) pd_int) (psds_one (psd_ret (pd_tup (pa_consD pd_str (pa_consD (pd_ix (pd_ix (pd_var (pv 2)) pd_int) (pd_call h_law_mixed hr B.tk rfl (pa_consD (pd_var (pv 0)) (pa_consD (pd_op op_addA bo_add (pd_var (pv 1)) pd_int) (pa_consD pd_int pa_nilD))))) pa_nilD))))) psds_nil)
    (psds_cons (psd_if (pb_cmp op_lt bo_lt (pd_var (pv 3)) pd_int) (psds_one (psd_ret (pd_tup (pa_consD pd_str (pa_consD (pd_ix (pd_ix (pd_var (pv 2)) pd_int) (pd_call h_law_mixed hr B.tk rfl (pa_consD (pd_var (pv 0)) (pa_consD (pd_op op_addA bo_add (pd_var (pv 1)) pd_int) (pa_consD pd_int pa_nilD))))) pa_nilD))))) psds_nil)
    (psds_cons (psd_if (pb_cmp (op_eqD hr.units) bo_eq (pd_var (pv 3)) pd_int) (psds_one (psd_ret (pd_tup (pa_consD pd_str (pa_consD (pd_ix (pd_of_pf (pf_lst (pa_consD pd_str (pa_consD pd_str (pa_consD pd_str (pa_consD pd_str (pa_consD pd_str pa_nilD))))))) (pd_call h_law_mixed hr B.tk rfl (pa_consD (pd_var (pv 0)) (pa_consD (pd_op op_addA bo_add (pd_var (pv 1)) pd_int) (pa_consD pd_int pa_nilD))))) pa_nilD))))) psds_nil)
    (psds_one (psd_ret (pd_tup (pa_consD pd_str pa_nilD)))))))))

theorem sc_law_likeness : FnScope ["script", "at", "pool", "room", "kind", "parts", "k"] ["script", "at", "pool", "room"] (defScope s__law_likeness) := ⟨rfl, rfl, rfl, by decide +kernel, rfl, by decide +kernel, by decide +kernel⟩
theorem ok_law_likeness {k : Nat} {F_law_mixed F_law_bare F_law_likeness : List PyData → R PyData} (T : Tp K mg) (h_law_mixed : FnD P w K mg base k "_law_mixed" 3 F_law_mixed) (h_law_bare : FnD P w K mg base k "_law_bare" 3 F_law_bare) (h_law_likeness : FnD P w K mg base k "_law_likeness" 4 F_law_likeness) : FnD P w K mg base (k + 1) "_law_likeness" 4 (runD 7 (fb_law_likeness F_law_mixed F_law_bare F_law_likeness)) := by
  obtain ⟨f, fd, FP, gm⟩ := T.d__law_likeness
  refine fn_pure FP sc_law_likeness gm (FP.bindsN fun _ _ _ _ _ _ us hl => match us, hl with | [_, _, _, _], _ => rfl) fun cdv A outer s H E B => ?_
  have hr := B.hr
  exact (psds_cons (psd_set (i := 4) sc_law_likeness.nd rfl (by first | exact Or.inl rfl | exact Or.inr rfl) (pd_call h_law_mixed hr B.tk rfl (pa_consD (pd_var (pv 0)) (pa_consD (pd_var (pv 1)) (pa_consD pd_int pa_nilD)))))
    (psds_cons (psd_if (pb_w (pb_orW (pb_cmp op_lt bo_lt (pd_var (pv 4)) pd_int) (pb_or1 (pb_cmp op_lt bo_lt (pd_var (pv 3)) pd_int)))) (psds_one (psd_ret (pd_call h_law_bare hr B.tk rfl (pa_consD (pd_var (pv 0)) (pa_consD (pd_op op_addA bo_add (pd_var (pv 1)) pd_int) (pa_consD (pd_var (pv 2)) pa_nilD)))))) psds_nil)
    (psds_cons (psd_if (pb_cmp op_lt bo_lt (pd_var (pv 4)) pd_int) (psds_one (psd_ret (pd_tup (pa_consD pd_str (pa_consD (pd_call h_law_likeness hr B.tk rfl (pa_consD (pd_var (pv 0)) (pa_consD (pd_op op_addA bo_add (pd_var (pv 1)) pd_int) (pa_consD (pd_var (pv 2)) (pa_consD (pd_op op_sub bo_sub (pd_var (pv 3)) pd_int) pa_nilD))))) pa_nilD))))) psds_nil)
    (psds_cons (psd_if (pb_cmp (op_eqD hr.units) bo_eq (pd_var (pv 4)) pd_int) (psds_one (psd_ret (pd_tup (pa_consD pd_str (pa_consD (pd_call h_law_likeness hr B.tk rfl (pa_consD (pd_var (pv 0)) (pa_consD (pd_op op_addA bo_add (pd_var (pv 1)) pd_int) (pa_consD (pd_var (pv 2)) (pa_consD (pd_op op_sub bo_sub (pd_var (pv 3)) pd_int) pa_nilD))))) pa_nilD))))) psds_nil)
    (psds_cons (psd_if (pb_cmp op_lt bo_lt (pd_var (pv 3)) pd_int) (psds_one (psd_ret (pd_tup (pa_consD pd_str (pa_consD (pd_tup pa_nilD) pa_nilD))))) psds_nil)
    (psds_cons (psd_setLc (i := 5) rfl sc_law_likeness.nd rfl rfl (sw_true rfl rfl rfl (by decide +kernel)) (pi_c (pi_range1D rfl T.m_range (pa_consD pd_int pa_nilD))) (blkOk_by (own := [("k", 6)]) (N := ["script", "at", "pool", "room", "kind", "parts", "k"]) (sc := defScope s__law_likeness) (by decide +kernel)) (fun _ _ _ _ _ => (pg_nameD (i := 6) sc_law_likeness.nd rfl (by first | exact Or.inl rfl | exact Or.inr rfl))) (by decide) (fun _ _ _ _ _ => pts_nilD) (fun _ _ _ _ _ => (pd_call h_law_likeness hr tk0 rfl (pa_consD (pd_var (pv 0)) (pa_consD (pd_op op_addA bo_add (pd_op op_addA bo_add (pd_var (pv 1)) pd_int) (pd_op op_mul bo_mul pd_int (pd_var (pv 6)))) (pa_consD (pd_var (pv 2)) (pa_consD (pd_op op_fdiv bo_fdiv (pd_op op_sub bo_sub (pd_var (pv 3)) pd_int) pd_int) pa_nilD)))))))
    (psds_cons (psd_if (pb_cmp op_lt bo_lt (pd_var (pv 4)) pd_int) (psds_one (psd_ret (pd_tup (pa_consD pd_str (pa_consD (pd_callTy call_tuple_of co_tuple rfl T.m_tuple (by decide +kernel) (pa_consD (pd_of_pf (pf_slice (pl_of_pd (pd_var (pv 5))) po_noneD (po_someD (pd_op op_addA bo_add pd_int (pd_op op_mod bo_mod (pd_var (pv 4)) pd_int))))) pa_nilD)) pa_nilD))))) psds_nil)
    (psds_one (psd_ret (pd_tup (pa_consD (pd_ix (pd_of_pf (pf_lst (pa_consD pd_str (pa_consD pd_str (pa_consD pd_str pa_nilD))))) (pd_op op_sub bo_sub (pd_var (pv 4)) pd_int)) (pa_consD (pd_ix (pd_var (pv 5)) pd_int) (pa_consD (pd_ix (pd_var (pv 5)) pd_int) pa_nilD)))))))))))))

theorem sc_law : FnScope ["script", "pool", "one", "other", "small", "k", "value", "good", "turned", "part"] ["script"] (defScope s_law) := ⟨rfl, rfl, rfl, by decide +kernel, rfl, by decide +kernel, by decide +kernel⟩
theorem okx_law {k : Nat} {F_law_pool F_law_likeness F_law_bare F_law_value F_fits F_is_less : List PyData → R PyData} {f : Addr} {fd : FuncData} (T : Tp K mg) (h_law_pool : FnD P w K mg base k "_law_pool" 2 F_law_pool) (h_law_likeness : FnD P w K mg base k "_law_likeness" 4 F_law_likeness) (h_law_bare : FnD P w K mg base k "_law_bare" 3 F_law_bare) (h_law_value : FnD P w K mg base k "_law_value" 3 F_law_value) (h_fits : FnD P w K mg base k "fits" 2 F_fits) (h_is_less : FnD P w K mg base k "is_less" 2 F_is_less) (FP : FnP K "law" s_law f fd) : FnOk P w K mg base (L2N.CX P w) (k + 1) f fd ["script"] (spD K mg 1 (runD 10 (fb_law F_law_pool F_law_likeness F_law_bare F_law_value F_fits F_is_less))) := by
  refine fn_pureX FP sc_law fun cdv A outer s H E B => ?_
  have hr := B.hr
  exact (psds_cons (psd_set (i := 1) sc_law.nd rfl (by first | exact Or.inl rfl | exact Or.inr rfl) (pd_call h_law_pool hr B.tk rfl (pa_consD (pd_var (pv 0)) (pa_consD pd_int pa_nilD))))
    (psds_cons (psd_set (i := 2) sc_law.nd rfl (by first | exact Or.inl rfl | exact Or.inr rfl) (pd_call h_law_likeness hr B.tk rfl (pa_consD (pd_var (pv 0)) (pa_consD pd_int (pa_consD (pd_var (pv 1)) (pa_consD pd_int pa_nilD))))))
    (psds_cons (psd_set (i := 3) sc_law.nd rfl (by first | exact Or.inl rfl | exact Or.inr rfl) (pd_call h_law_likeness hr B.tk rfl (pa_consD (pd_var (pv 0)) (pa_consD pd_int (pa_consD (pd_var (pv 1)) (pa_consD pd_int pa_nilD))))))
    (psds_cons (psd_set (i := 4) sc_law.nd rfl (by first | exact Or.inl rfl | exact Or.inr rfl) (pd_of_pf (pf_lst (pa_consD (pd_call h_law_bare hr B.tk rfl (pa_consD (pd_var (pv 0)) (pa_consD pd_int (pa_consD (pd_var (pv 1)) pa_nilD)))) (pa_consD (pd_call h_law_bare hr B.tk rfl (pa_consD (pd_var (pv 0)) (pa_consD pd_int (pa_consD (pd_var (pv 1)) pa_nilD)))) pa_nilD)))))
    (psds_cons (psd_for B.hp rfl (pi_range1D rfl T.m_range (pa_consD pd_int pa_nilD)) (pg_nameD (i := 5) sc_law.nd rfl (by first | exact Or.inl rfl | exact Or.inr rfl)) (psds_cons (psd_set (i := 6) sc_law.nd rfl (by first | exact Or.inl rfl | exact Or.inr rfl) (pd_call h_law_value hr B.tk rfl (pa_consD (pd_var (pv 0)) (pa_consD (pd_op op_addA bo_add pd_int (pd_op op_mul bo_mul pd_int (pd_var (pv 5)))) (pa_consD (pd_var (pv 1)) pa_nilD)))))
    (psds_cons (psd_set (i := 7) sc_law.nd rfl (by first | exact Or.inl rfl | exact Or.inr rfl) (pd_call h_fits hr B.tk rfl (pa_consD (pd_var (pv 2)) (pa_consD (pd_var (pv 6)) pa_nilD))))
    (psds_cons (psd_if (pb_cmp (op_neD hr.units) bo_ne (pd_call h_fits hr B.tk rfl (pa_consD (pd_tup (pa_consD pd_str (pa_consD (pd_tup (pa_consD pd_str (pa_consD (pd_var (pv 2)) pa_nilD))) pa_nilD))) (pa_consD (pd_var (pv 6)) pa_nilD))) (pd_var (pv 7))) (psds_one (psd_ret pd_bl)) psds_nil)
    (psds_cons (psd_if (pb_cmp (op_neD hr.units) bo_ne (pd_call h_fits hr B.tk rfl (pa_consD (pd_tup (pa_consD pd_str (pa_consD (pd_var (pv 2)) (pa_consD (pd_var (pv 3)) pa_nilD)))) (pa_consD (pd_var (pv 6)) pa_nilD))) (pd_call h_fits hr B.tk rfl (pa_consD (pd_tup (pa_consD pd_str (pa_consD (pd_var (pv 3)) (pa_consD (pd_var (pv 2)) pa_nilD)))) (pa_consD (pd_var (pv 6)) pa_nilD)))) (psds_one (psd_ret pd_bl)) psds_nil)
    (psds_cons (psd_if (pb_cmp (op_neD hr.units) bo_ne (pd_call h_fits hr B.tk rfl (pa_consD (pd_tup (pa_consD pd_str (pa_consD (pd_var (pv 2)) (pa_consD (pd_var (pv 3)) pa_nilD)))) (pa_consD (pd_var (pv 6)) pa_nilD))) (pd_or (pd_var (pv 7)) (pd_one (pd_call h_fits hr B.tk rfl (pa_consD (pd_var (pv 3)) (pa_consD (pd_var (pv 6)) pa_nilD)))))) (psds_one (psd_ret pd_bl)) psds_nil)
    (psds_cons (psd_set (i := 8) sc_law.nd rfl (by first | exact Or.inl rfl | exact Or.inr rfl) (pd_tup (pa_consD pd_str (pa_consD (pd_tup (pa_consD pd_str (pa_consD (pd_ix (pd_var (pv 4)) pd_int) pa_nilD))) (pa_consD (pd_tup (pa_consD pd_str (pa_consD (pd_ix (pd_var (pv 4)) pd_int) pa_nilD))) pa_nilD)))))
    (psds_cons (psd_if (pb_cmp (op_neD hr.units) bo_ne (pd_call h_fits hr B.tk rfl (pa_consD (pd_tup (pa_consD pd_str (pa_consD (pd_tup (pa_consD pd_str (pa_consD (pd_ix (pd_var (pv 4)) pd_int) (pa_consD (pd_ix (pd_var (pv 4)) pd_int) pa_nilD)))) pa_nilD))) (pa_consD (pd_var (pv 6)) pa_nilD))) (pd_call h_fits hr B.tk rfl (pa_consD (pd_var (pv 8)) (pa_consD (pd_var (pv 6)) pa_nilD)))) (psds_one (psd_ret pd_bl)) psds_nil)
    (psds_cons (psd_if (pb_cmp (op_neD hr.units) bo_ne (pd_call h_is_less hr B.tk rfl (pa_consD (pd_tup (pa_consD pd_str (pa_consD (pd_var (pv 6)) pa_nilD))) (pa_consD (pd_var (pv 2)) pa_nilD))) (pd_var (pv 7))) (psds_one (psd_ret pd_bl)) psds_nil)
    (psds_one (psd_if (pb_val (pd_isi rfl T.m_isinstance rfl T.m_tuple (by decide +kernel) (pd_var (pv 6)))) (psds_one (psd_if (pb_cmp (op_neD hr.units) bo_ne (pd_call h_fits hr B.tk rfl (pa_consD (pd_tup (pa_consD pd_str (pa_consD (pd_var (pv 2)) pa_nilD))) (pa_consD (pd_var (pv 6)) pa_nilD))) (pd_callB (cr_any rfl) co_any rfl T.m_any (by decide +kernel) (pa_consD (pd_of_pf (pf_lc rfl sc_law.nd (pi_c (pi_D (pd_var (pv 6)))) (blkOk_by (own := [("part", 9)]) (N := ["script", "pool", "one", "other", "small", "k", "value", "good", "turned", "part"]) (sc := defScope s_law) (by decide +kernel)) (fun _ _ _ _ _ => (pg_nameD (i := 9) sc_law.nd rfl (by first | exact Or.inl rfl | exact Or.inr rfl))) (by decide) (fun _ _ _ _ _ => pts_nilD) (fun _ _ _ _ _ => (pd_call h_fits hr tk0 rfl (pa_consD (pd_var (pv 2)) (pa_consD (pd_var (pv 9)) pa_nilD)))))) pa_nilD))) (psds_one (psd_ret pd_bl)) psds_nil)) (psds_one (psd_if (pb_w (pb_orW (pb_cmp (op_neD hr.units) bo_ne (pd_call h_fits hr B.tk rfl (pa_consD (pd_tup (pa_consD pd_str (pa_consD (pd_tup (pa_consD (pd_var (pv 2)) pa_nilD)) pa_nilD))) (pa_consD (pd_tup (pa_consD (pd_var (pv 6)) pa_nilD)) pa_nilD))) (pd_var (pv 7))) (pb_or1 (pb_val (pd_call h_fits hr B.tk rfl (pa_consD (pd_tup (pa_consD pd_str (pa_consD (pd_var (pv 2)) pa_nilD))) (pa_consD (pd_var (pv 6)) pa_nilD))))))) (psds_one (psd_ret pd_bl)) psds_nil)))))))))))))
    (psds_one (psd_ret pd_bl)))))))

end
end Hd

namespace Hd
open PySem PySem.Spec PyProof.Rows L2 Pu

theorem law_ok {P : Program} {w : World} {K : PySem.W.Frag} {mg : Str → Option Value} {f : Addr} {fd : FuncData} (base : Heap) (T : Tp K mg) (FP : FnP K "law" s_law f fd) : FnOk P w K mg base (L2N.CX P w) 19 f fd ["script"] (spD K mg 1 F_law) := by
    have h_is_whole := ok_is_whole (P := P) (w := w) (base := base) (k := 0) T
    have h_is_word := ok_is_word (P := P) (w := w) (base := base) (k := 0) T
    have h_is_leaf := ok_is_leaf (P := P) (w := w) (base := base) (k := 1) T (h_is_whole.mono (by decide)) (h_is_word.mono (by decide))
    have h_is_value := ok_is_value (P := P) (w := w) (base := base) (k := 2) T (h_is_leaf.mono (by decide))
    have h_need_value := ok_need_value (P := P) (w := w) (base := base) (k := 3) T (h_is_value.mono (by decide))
    have h_kind_of := ok_kind_of (P := P) (w := w) (base := base) (k := 0) T
    have h_same_as0 : FnD P w K mg base 0 "same_as" 2 (F_same_as 0) := by obtain ⟨f, fd, FP, gm⟩ := T.d_same_as; exact fn_none FP gm (FP.bindsN (ps := ["one", "other"]) fun _ _ _ _ _ _ us hl => match us, hl with | [_, _], _ => rfl)
    have h_same_as1 : FnD P w K mg base 2 "same_as" 2 (F_same_as 1) := ok_same_as (P := P) (w := w) (base := base) (k := 1) T (h_kind_of.mono (by decide)) (h_same_as0.mono (by decide))
    have h_same_as2 : FnD P w K mg base 3 "same_as" 2 (F_same_as 2) := ok_same_as (P := P) (w := w) (base := base) (k := 2) T (h_kind_of.mono (by decide)) (h_same_as1.mono (by decide))
    have h_same_as := h_same_as2
    have h_is_bare := ok_is_bare (P := P) (w := w) (base := base) (k := 3) T (h_is_value.mono (by decide)) (h_is_whole.mono (by decide)) (h_is_word.mono (by decide))
    have h_inner := ok_inner (P := P) (w := w) (base := base) (k := 0) T
    have h_is_likeness := ok_is_likeness (P := P) (w := w) (base := base) (k := 4) T (h_is_bare.mono (by decide)) (h_inner.mono (by decide))
    have h_need_likeness := ok_need_likeness (P := P) (w := w) (base := base) (k := 5) T (h_is_likeness.mono (by decide))
    have h_bare_fits := ok_bare_fits (P := P) (w := w) (base := base) (k := 3) T (h_same_as.mono (by decide)) (h_kind_of.mono (by decide))
    have h_fits_value0 : FnD P w K mg base 0 "fits_value" 2 (F_fits_value 0) := by obtain ⟨f, fd, FP, gm⟩ := T.d_fits_value; exact fn_none FP gm (FP.bindsN (ps := ["likeness", "value"]) fun _ _ _ _ _ _ us hl => match us, hl with | [_, _], _ => rfl)
    have h_fits_value1 : FnD P w K mg base 5 "fits_value" 2 (F_fits_value 1) := ok_fits_value (P := P) (w := w) (base := base) (k := 4) T (h_fits_value0.mono (by decide)) (h_kind_of.mono (by decide)) (h_bare_fits.mono (by decide))
    have h_fits_value2 : FnD P w K mg base 6 "fits_value" 2 (F_fits_value 2) := ok_fits_value (P := P) (w := w) (base := base) (k := 5) T (h_fits_value1.mono (by decide)) (h_kind_of.mono (by decide)) (h_bare_fits.mono (by decide))
    have h_fits_value3 : FnD P w K mg base 7 "fits_value" 2 (F_fits_value 3) := ok_fits_value (P := P) (w := w) (base := base) (k := 6) T (h_fits_value2.mono (by decide)) (h_kind_of.mono (by decide)) (h_bare_fits.mono (by decide))
    have h_fits_value4 : FnD P w K mg base 8 "fits_value" 2 (F_fits_value 4) := ok_fits_value (P := P) (w := w) (base := base) (k := 7) T (h_fits_value3.mono (by decide)) (h_kind_of.mono (by decide)) (h_bare_fits.mono (by decide))
    have h_fits_value5 : FnD P w K mg base 9 "fits_value" 2 (F_fits_value 5) := ok_fits_value (P := P) (w := w) (base := base) (k := 8) T (h_fits_value4.mono (by decide)) (h_kind_of.mono (by decide)) (h_bare_fits.mono (by decide))
    have h_fits_value := h_fits_value5
    have h_fits_value6 : FnD P w K mg base 10 "fits_value" 2 (F_fits_value 6) := ok_fits_value (P := P) (w := w) (base := base) (k := 9) T (h_fits_value5.mono (by decide)) (h_kind_of.mono (by decide)) (h_bare_fits.mono (by decide))
    have h_fits_value7 : FnD P w K mg base 11 "fits_value" 2 (F_fits_value 7) := ok_fits_value (P := P) (w := w) (base := base) (k := 10) T (h_fits_value6.mono (by decide)) (h_kind_of.mono (by decide)) (h_bare_fits.mono (by decide))
    have h_fits_value8 : FnD P w K mg base 12 "fits_value" 2 (F_fits_value 8) := ok_fits_value (P := P) (w := w) (base := base) (k := 11) T (h_fits_value7.mono (by decide)) (h_kind_of.mono (by decide)) (h_bare_fits.mono (by decide))
    have h_fits_value9 : FnD P w K mg base 13 "fits_value" 2 (F_fits_value 9) := ok_fits_value (P := P) (w := w) (base := base) (k := 12) T (h_fits_value8.mono (by decide)) (h_kind_of.mono (by decide)) (h_bare_fits.mono (by decide))
    have h_fits_value10 : FnD P w K mg base 14 "fits_value" 2 (F_fits_value 10) := ok_fits_value (P := P) (w := w) (base := base) (k := 13) T (h_fits_value9.mono (by decide)) (h_kind_of.mono (by decide)) (h_bare_fits.mono (by decide))
    have h_fits_value11 : FnD P w K mg base 15 "fits_value" 2 (F_fits_value 11) := ok_fits_value (P := P) (w := w) (base := base) (k := 14) T (h_fits_value10.mono (by decide)) (h_kind_of.mono (by decide)) (h_bare_fits.mono (by decide))
    have h_fits_value12 : FnD P w K mg base 16 "fits_value" 2 (F_fits_value 12) := ok_fits_value (P := P) (w := w) (base := base) (k := 15) T (h_fits_value11.mono (by decide)) (h_kind_of.mono (by decide)) (h_bare_fits.mono (by decide))
    have h_fits_valueX := h_fits_value12
    have h_fits := ok_fits (P := P) (w := w) (base := base) (k := 9) T (h_need_likeness.mono (by decide)) (h_need_value.mono (by decide)) (h_fits_value.mono (by decide))
    have h_bare_parts0 : FnD P w K mg base 0 "bare_parts" 1 (F_bare_parts 0) := by obtain ⟨f, fd, FP, gm⟩ := T.d_bare_parts; exact fn_none FP gm (FP.bindsN (ps := ["likeness"]) fun _ _ _ _ _ _ us hl => match us, hl with | [_], _ => rfl)
    have h_bare_parts1 : FnD P w K mg base 5 "bare_parts" 1 (F_bare_parts 1) := ok_bare_parts (P := P) (w := w) (base := base) (k := 4) T (h_is_bare.mono (by decide)) (h_inner.mono (by decide)) (h_bare_parts0.mono (by decide))
    have h_bare_parts2 : FnD P w K mg base 6 "bare_parts" 1 (F_bare_parts 2) := ok_bare_parts (P := P) (w := w) (base := base) (k := 5) T (h_is_bare.mono (by decide)) (h_inner.mono (by decide)) (h_bare_parts1.mono (by decide))
    have h_bare_parts3 : FnD P w K mg base 7 "bare_parts" 1 (F_bare_parts 3) := ok_bare_parts (P := P) (w := w) (base := base) (k := 6) T (h_is_bare.mono (by decide)) (h_inner.mono (by decide)) (h_bare_parts2.mono (by decide))
    have h_bare_parts4 : FnD P w K mg base 8 "bare_parts" 1 (F_bare_parts 4) := ok_bare_parts (P := P) (w := w) (base := base) (k := 7) T (h_is_bare.mono (by decide)) (h_inner.mono (by decide)) (h_bare_parts3.mono (by decide))
    have h_bare_parts5 : FnD P w K mg base 9 "bare_parts" 1 (F_bare_parts 5) := ok_bare_parts (P := P) (w := w) (base := base) (k := 8) T (h_is_bare.mono (by decide)) (h_inner.mono (by decide)) (h_bare_parts4.mono (by decide))
    have h_bare_parts6 : FnD P w K mg base 10 "bare_parts" 1 (F_bare_parts 6) := ok_bare_parts (P := P) (w := w) (base := base) (k := 9) T (h_is_bare.mono (by decide)) (h_inner.mono (by decide)) (h_bare_parts5.mono (by decide))
    have h_bare_parts7 : FnD P w K mg base 11 "bare_parts" 1 (F_bare_parts 7) := ok_bare_parts (P := P) (w := w) (base := base) (k := 10) T (h_is_bare.mono (by decide)) (h_inner.mono (by decide)) (h_bare_parts6.mono (by decide))
    have h_bare_parts8 : FnD P w K mg base 12 "bare_parts" 1 (F_bare_parts 8) := ok_bare_parts (P := P) (w := w) (base := base) (k := 11) T (h_is_bare.mono (by decide)) (h_inner.mono (by decide)) (h_bare_parts7.mono (by decide))
    have h_bare_parts9 : FnD P w K mg base 13 "bare_parts" 1 (F_bare_parts 9) := ok_bare_parts (P := P) (w := w) (base := base) (k := 12) T (h_is_bare.mono (by decide)) (h_inner.mono (by decide)) (h_bare_parts8.mono (by decide))
    have h_bare_parts10 : FnD P w K mg base 14 "bare_parts" 1 (F_bare_parts 10) := ok_bare_parts (P := P) (w := w) (base := base) (k := 13) T (h_is_bare.mono (by decide)) (h_inner.mono (by decide)) (h_bare_parts9.mono (by decide))
    have h_bare_parts11 : FnD P w K mg base 15 "bare_parts" 1 (F_bare_parts 11) := ok_bare_parts (P := P) (w := w) (base := base) (k := 14) T (h_is_bare.mono (by decide)) (h_inner.mono (by decide)) (h_bare_parts10.mono (by decide))
    have h_bare_parts12 : FnD P w K mg base 16 "bare_parts" 1 (F_bare_parts 12) := ok_bare_parts (P := P) (w := w) (base := base) (k := 15) T (h_is_bare.mono (by decide)) (h_inner.mono (by decide)) (h_bare_parts11.mono (by decide))
    have h_bare_parts := h_bare_parts12
    have h_told_values := ok_told_values (P := P) (w := w) (base := base) (k := 0) T
    have h_numbers_for := ok_numbers_for (P := P) (w := w) (base := base) (k := 0) T
    have h_one_longer := ok_one_longer (P := P) (w := w) (base := base) (k := 0) T
    have h_texts_for := ok_texts_for (P := P) (w := w) (base := base) (k := 1) T (h_one_longer.mono (by decide))
    have h_values_for := ok_values_for (P := P) (w := w) (base := base) (k := 2) T (h_told_values.mono (by decide)) (h_numbers_for.mono (by decide)) (h_texts_for.mono (by decide))
    have h_sample_of := ok_sample_of (P := P) (w := w) (base := base) (k := 16) T (h_bare_parts.mono (by decide)) (h_values_for.mono (by decide)) (h_fits_valueX.mono (by decide))
    have h_is_less := ok_is_less (P := P) (w := w) (base := base) (k := 17) T (h_need_likeness.mono (by decide)) (h_sample_of.mono (by decide))
    have h_law_cell_at := ok_law_cell_at (P := P) (w := w) (base := base) (k := 0) T
    have h_law_mixed := ok_law_mixed (P := P) (w := w) (base := base) (k := 1) T (h_law_cell_at.mono (by decide))
    have h_law_word := ok_law_word (P := P) (w := w) (base := base) (k := 2) T (h_law_mixed.mono (by decide))
    have h_law_pool := ok_law_pool (P := P) (w := w) (base := base) (k := 3) T (h_law_mixed.mono (by decide)) (h_law_word.mono (by decide))
    have h_law_leaf := ok_law_leaf (P := P) (w := w) (base := base) (k := 2) T (h_law_mixed.mono (by decide))
    have h_law_value := ok_law_value (P := P) (w := w) (base := base) (k := 3) T (h_law_mixed.mono (by decide)) (h_law_leaf.mono (by decide))
    have h_law_bare := ok_law_bare (P := P) (w := w) (base := base) (k := 4) T (h_law_mixed.mono (by decide)) (h_law_value.mono (by decide))
    have h_law_likeness0 : FnD P w K mg base 0 "_law_likeness" 4 (F_law_likeness 0) := by obtain ⟨f, fd, FP, gm⟩ := T.d__law_likeness; exact fn_none FP gm (FP.bindsN (ps := ["script", "at", "pool", "room"]) fun _ _ _ _ _ _ us hl => match us, hl with | [_, _, _, _], _ => rfl)
    have h_law_likeness1 : FnD P w K mg base 6 "_law_likeness" 4 (F_law_likeness 1) := ok_law_likeness (P := P) (w := w) (base := base) (k := 5) T (h_law_mixed.mono (by decide)) (h_law_bare.mono (by decide)) (h_law_likeness0.mono (by decide))
    have h_law_likeness2 : FnD P w K mg base 7 "_law_likeness" 4 (F_law_likeness 2) := ok_law_likeness (P := P) (w := w) (base := base) (k := 6) T (h_law_mixed.mono (by decide)) (h_law_bare.mono (by decide)) (h_law_likeness1.mono (by decide))
    have h_law_likeness3 : FnD P w K mg base 8 "_law_likeness" 4 (F_law_likeness 3) := ok_law_likeness (P := P) (w := w) (base := base) (k := 7) T (h_law_mixed.mono (by decide)) (h_law_bare.mono (by decide)) (h_law_likeness2.mono (by decide))
    have h_law_likeness4 : FnD P w K mg base 9 "_law_likeness" 4 (F_law_likeness 4) := ok_law_likeness (P := P) (w := w) (base := base) (k := 8) T (h_law_mixed.mono (by decide)) (h_law_bare.mono (by decide)) (h_law_likeness3.mono (by decide))
    have h_law_likeness5 : FnD P w K mg base 10 "_law_likeness" 4 (F_law_likeness 5) := ok_law_likeness (P := P) (w := w) (base := base) (k := 9) T (h_law_mixed.mono (by decide)) (h_law_bare.mono (by decide)) (h_law_likeness4.mono (by decide))
    have h_law_likeness := h_law_likeness5
    exact okx_law (P := P) (w := w) (base := base) (k := 18) T (h_law_pool.mono (by decide)) (h_law_likeness.mono (by decide)) (h_law_bare.mono (by decide)) (h_law_value.mono (by decide)) (h_fits.mono (by decide)) (h_is_less.mono (by decide)) FP
end Hd
theorem PySem.Challenge.cw_standins_k18_whole_algebra_holds : PySem.Challenge.rw_standins_k18_whole_algebra.Holds := by
  exact Hd.end_of (k := 19) ⟨rfl, by decide +kernel, by decide +kernel⟩ (fun ns _ => Pu.law_true ns) (fun base T FP => Hd.law_ok base T FP)

