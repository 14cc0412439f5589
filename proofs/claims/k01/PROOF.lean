import PyProof.Rows.All
import Wide.All
import OpenK.AllK
import Wide.FinOn
import KE.SortData
import KE.DataMinMax
import HandS.Base
import HandS.Call
import HandS.List
import KE.DataCmp
import HandS.Deep
import HandS.TupAny
import HandS.TupMul
import HandS.Text
import HandS.Style
import HandS.Dict
import HandS.Ends
import KE.KDictSum
import HandS.WordsDict
import PyProof.ReprRoads
import PyProof.CallFns
import PyProof.TupleOfSeq
import HandS.More
import HandS.Set
import HandS.SetFor
import HandS.SetKeys
import HandS.Iter
import KE.GoesMore
import PyProof.Draws
import PyProof.EnumStmt
import HandS.Comp
import HandS.DictComp
import HandS.IsInst
import HandS.Strs
import PyProof.FactsAll.tuple_0
import PyProof.FactsAll.tuple_2
import PyProof.FactsAll.tuple_3
import KE.KRevSl
import HandS.Conv
import HandS.Defaults
import HandS.HeadEnd
import HandS.HeadHook2
import HandS.HeadHook4
import HandS.EndBits
import HandS.WordsExc
import HandS.Head0
import HandS.Head1
import HandS.Head2
import PySem.Challenge.RW_handround_k01_kinds_of_values
set_option Elab.async false
set_option linter.all false
set_option maxRecDepth 100000
section
/-! Dv1 -/
/-! Dv1: pure data with references, an abstract heap, a small language and its evaluator. -/
namespace Dv
open PySem PySem.W

/-! ### values -/
inductive D where
  | non | bl (b : Bool) | int (i : Int) | str (s : Str) | tup (xs : List D) | ref (a : Nat) | fn (k : Nat) | ro (xs : List D)
abbrev Ke := Sum Int Str
inductive Ob where
  | list (xs : List D)
  | dict (kvs : List (Ke × D))
  | set (xs : List D)
/-- heap; k: every object below k may be named from anywhere -/
structure S where
  h : List Ob
  k : Nat
inductive Ex where
  | own (c : Nat) (fs : List (Str × D))
inductive R (α : Type) where
  | ok (a : α) (s : S) | exc (e : Ex) (s : S) | bad
def R.bind {α β : Type} (r : R α) (f : α → S → R β) : R β := match r with
  | .ok a s => f a s
  | .exc e s => .exc e s
  | .bad => .bad
@[simp] theorem R.bind_ok {α β : Type} (a : α) (s : S) (f : α → S → R β) : R.bind (.ok a s) f = f a s := rfl
@[simp] theorem R.bind_exc {α β : Type} (e : Ex) (s : S) (f : α → S → R β) : R.bind (.exc e s) f = .exc e s := rfl
@[simp] theorem R.bind_bad {α β : Type} (f : α → S → R β) : R.bind .bad f = .bad := rfl
def R.of {α : Type} (o : Option α) (s : S) : R α := match o with
  | some a => .ok a s
  | none => .bad
@[simp] theorem R.of_some {α : Type} (a : α) (s : S) : R.of (some a) s = .ok a s := rfl
@[simp] theorem R.of_none {α : Type} (s : S) : R.of (none : Option α) s = .bad := rfl

mutual
/-- one above the greatest reference in d -/
def D.top : D → Nat
  | .tup xs => D.tops xs
  | .ref a => a + 1
  | .ro xs => D.tops xs
  | _ => 0
def D.tops : List D → Nat
  | [] => 0
  | x :: r => max x.top (D.tops r)
end
def topKv : List (Ke × D) → Nat
  | [] => 0
  | p :: r => max p.2.top (topKv r)
def Ob.top : Ob → Nat
  | .list xs => D.tops xs
  | .dict kvs => topKv kvs
  | .set xs => D.tops xs
/-! ### data -/
mutual
def D.py (g : Nat → Option PyData) : D → Option PyData
  | .non => some .none
  | .bl b => some (.bool b)
  | .int i => some (.int i)
  | .str s => some (.str s)
  | .tup xs => (D.pys g xs).map .tuple
  | .ref a => g a
  | .fn _ => none
  | .ro _ => none
def D.pys (g : Nat → Option PyData) : List D → Option (List PyData)
  | [] => some []
  | x :: r => match D.py g x, D.pys g r with
    | some a, some b => some (a :: b)
    | _, _ => none
end
def Ob.py (g : Nat → Option PyData) : Ob → Option PyData
  | .list xs => (D.pys g xs).map .list
  | _ => none
def hpy (h : List Ob) : Nat → Nat → Option PyData
  | 0, _ => none
  | n + 1, a => match h[a]? with
    | some o => o.py (hpy h n)
    | none => none
/-- d as data: lists at most five deep -/
def S.py (s : S) (d : D) : Option PyData := d.py (hpy s.h 5)
def S.pys (s : S) (ds : List D) : Option (List PyData) := D.pys (hpy s.h 5) ds
/-! ### the heap -/
def S.new (s : S) (o : Ob) : R D := .ok (.ref s.h.length) { s with h := s.h ++ [o] }
/-- what is stored into the object at a: references to younger ones are marked -/
def S.mark (s : S) (a n : Nat) : Nat := if n ≤ a + 1 then s.k else max s.k n
def S.put (s : S) (a : Nat) (o : Ob) (n : Nat) : S := { h := s.h.set a o, k := s.mark a n }
/-- behind a call that was entered with n objects, mark k -/
def gc (n k : Nat) (d : D) (s : S) : S := if d.top ≤ n ∧ (s.k ≤ n ∨ s.k = k) then { s with h := s.h.take n } else s

/-! ### operations on values -/
inductive BO where
  | add | sub | mul | mod | fdiv | pow
inductive CO where
  | eq | ne | lt | le | gt | ge | in_ | nin | is_ | isn
def truthy (d : D) (s : S) : Option Bool := match d with
  | .non => some false
  | .bl b => some b
  | .int i => some (i != 0)
  | .str x => some (x.length != 0)
  | .tup xs => some (!xs.isEmpty)
  | .ref a => match s.h[a]? with
    | some (.list xs) => some (!xs.isEmpty)
    | _ => none
  | .fn _ => none
  | .ro _ => none
def two64 : Int := 18446744073709551616
def addD (x y : D) (s : S) : R D := match x, y with
  | .int i, .int j => .ok (.int (i + j)) s
  | .str a, .str b => if a.length + b.length ≤ sizeLine then .ok (.str (a ++ b)) s else .bad
  | .tup a, .tup b => if a.length + b.length ≤ sizeLine then .ok (.tup (a ++ b)) s else .bad
  | .ref a, .ref b => match s.h[a]?, s.h[b]? with
    | some (.list xs), some (.list ys) => if xs.length + ys.length ≤ sizeLine then s.new (.list (xs ++ ys)) else .bad
    | _, _ => .bad
  | _, _ => .bad
def subD (x y : D) (s : S) : R D := match x, y with
  | .int i, .int j => .ok (.int (i - j)) s
  | _, _ => .bad
def mulD (x y : D) (s : S) : R D := match x, y with
  | .int i, .int j => if (-two64 < i ∧ i < two64) ∨ (-two64 < j ∧ j < two64) then .ok (.int (i * j)) s else .bad
  | .tup xs, .int k => if xs ≠ [] ∧ 2 ≤ k ∧ k ≤ 1000 ∧ xs.length ≤ 1000 then .ok (.tup (List.replicate k.toNat xs).flatten) s else .bad
  | .ref a, .int k => match s.h[a]? with
    | some (.list xs) => if 2 ≤ k ∧ k ≤ 1000 ∧ xs.length ≤ 1000 ∧ xs ≠ [] then s.new (.list (List.replicate k.toNat xs).flatten) else .bad
    | _ => .bad
  | _, _ => .bad
def modD (x y : D) (s : S) : R D := match x, y with
  | .int i, .int j => if 0 < j then .ok (.int (i % j)) s else .bad
  | _, _ => .bad
def fdivD (x y : D) (s : S) : R D := match x, y with
  | .int i, .int j => if 0 < j ∧ j < 1073741824 then .ok (.int (i / j)) s else .bad
  | _, _ => .bad
def powD (x y : D) (s : S) : R D := match x, y with
  | .int i, .int j => if 0 ≤ j ∧ j ≤ 1000 ∧ -two64 < i ∧ i < two64 then .ok (.int (i ^ j.toNat)) s else .bad
  | _, _ => .bad
def binop (o : BO) : D → D → S → R D := match o with
  | .add => addD
  | .sub => subD
  | .mul => mulD
  | .mod => modD
  | .fdiv => fdivD
  | .pow => powD
/-- == of data -/
def eqD (x y : D) (s : S) : Option Bool := match s.py x, s.py y with
  | some a, some b => if SeqAt.shaped a = true ∧ SeqAt.shaped b = true then some (PyData.eqv a b) else none
  | _, _ => none
def nn : PyData → Bool
  | .none => false
  | _ => true
/-- < of data -/
def ltD (x y : D) (s : S) : Option Bool := match s.py x, s.py y with
  | some a, some b => if alike a b = true ∧ nn a = true ∧ SeqAt.shaped a = true ∧ SeqAt.shaped b = true then some (dataLt a b) else none
  | _, _ => none
def key? : D → Option Ke
  | .int i => some (.inl i)
  | .str x => some (.inr x)
  | _ => none
def keyD : Ke → D
  | .inl i => .int i
  | .inr x => .str x
def kget (kvs : List (Ke × D)) (k : Ke) : Option D := (kvs.find? fun p => decide (p.1 = k)).map (·.2)
def kput (kvs : List (Ke × D)) (k : Ke) (d : D) : List (Ke × D) :=
  if (kvs.any fun p => decide (p.1 = k)) = true then kvs.map (fun p => if p.1 = k then (p.1, d) else p) else kvs ++ [(k, d)]
def strIn (x z : Str) : Bool := match x.cps.toList with
  | [c] => decide (c ∈ z.cps.toList)
  | _ => !(Builtin.Str.occurrences z x 0 z.length 1).isEmpty
def inAll (x : PyData) (ys : List PyData) : Option Bool :=
  if SeqAt.shaped x = true ∧ SeqAt.shaped (.list ys) = true then some (ys.any fun z => PyData.eqv z x) else none
def inD (x y : D) (s : S) : Option Bool := match y with
  | .str z => match x with
    | .str a => some (strIn a z)
    | _ => none
  | .tup ys => match s.py x, s.pys ys with
    | some a, some bs => inAll a bs
    | _, _ => none
  | .ref b => match s.h[b]? with
    | some (.list ys) => match s.py x, s.pys ys with
      | some a, some bs => inAll a bs
      | _, _ => none
    | some (.dict kvs) => (key? x).map fun k => (kget kvs k).isSome
    | _ => none
  | _ => none
def isD (x y : D) : Option Bool := match x, y with
  | .bl a, .bl b => some (decide (a = b))
  | .non, .non => some true
  | _, .non => some false
  | _, _ => none
def cmpop (o : CO) (x y : D) (s : S) : Option Bool := match o with
  | .eq => eqD x y s
  | .ne => (eqD x y s).map (!·)
  | .lt => ltD x y s
  | .le => (ltD y x s).map (!·)
  | .gt => ltD y x s
  | .ge => (ltD x y s).map (!·)
  | .in_ => inD x y s
  | .nin => (inD x y s).map (!·)
  | .is_ => isD x y
  | .isn => (isD x y).map (!·)
/-- a comparison's value -/
def cmpR (o : CO) (x y : D) (s : S) : R D := match cmpop o x y s with
  | some b => .ok (.bl b) s
  | none => .bad
/-- x[i] -/
def idx (x i : D) (s : S) : Option D := match x, i with
  | .tup xs, .int k => L2.atI xs k
  | .str z, .int k => (L2.atI z.cps.toList k).map fun c => .str ⟨#[c]⟩
  | .ref a, i => match s.h[a]? with
    | some (.list xs) => match i with
      | .int k => L2.atI xs k
      | _ => none
    | some (.dict kvs) => (key? i).bind (kget kvs)
    | _ => none
  | _, _ => none
def idxR (x i : D) (s : S) : R D := match idx x i s with
  | some d => .ok d s
  | none => .bad
def cut {α : Type} (xs : List α) (lo hi : Option Int) : List α := (xs.drop (HT.sIx xs.length 0 lo)).take (HT.sIx xs.length xs.length hi - HT.sIx xs.length 0 lo)
/-- x[lo:hi] -/
def sliceD (x : D) (l u : Option Int) (s : S) : R D := match x with
  | .tup xs => .ok (.tup (cut xs l u)) s
  | .str z => .ok (.str ⟨(cut z.cps.toList l u).toArray⟩) s
  | .ref a => match s.h[a]? with
    | some (.list xs) => s.new (.list (cut xs l u))
    | _ => .bad
  | .ro xs => s.new (.list (cut xs l u))
  | _ => .bad
/-! ### built-ins -/
inductive Ki where
  | int | bool | str | tuple | list
/-- a class within another -/
def Ki.sub : Ki → Ki → Bool
  | .int, .int => true
  | .bool, .bool => true
  | .bool, .int => true
  | .str, .str => true
  | .tuple, .tuple => true
  | .list, .list => true
  | _, _ => false
def kiOf (k : Ki) : Option Ki → Bool
  | some j => j.sub k
  | none => false
inductive Bi where
  | len | sum | any | all | tuple | list | sorted | repr | sset | inst (k : Ki) | rev | rev0 | lset | mm (mx : Bool) | mmd (mx : Bool) | mm2 (mx : Bool) | trange
/-- methods that change nothing -/
inductive Mr where
  | index
inductive Me where
  | append | extend | pop
def keySz : Ke → Bool
  | .inl _ => true
  | .inr x => decide (x.length ≤ 16777216)
/-- the items of a tuple, a list, a dict (its keys) -/
def items (d : D) (s : S) : Option (List D) := match d with
  | .tup xs => some xs
  | .ref a => match s.h[a]? with
    | some (.list xs) => some xs
    | some (.dict kvs) => if (kvs.all fun p => keySz p.1) = true then some (kvs.map fun p => keyD p.1) else none
    | _ => none
  | _ => none
def ints? : List D → Option (List Int)
  | [] => some []
  | .int i :: r => (ints? r).map (i :: ·)
  | _ :: _ => none
def bools? : List D → Option (List Bool)
  | [] => some []
  | .bl b :: r => (bools? r).map (b :: ·)
  | _ :: _ => none
def sortable (ps : List PyData) : Bool :=
  (ps.all fun a => ps.all fun b => alike a b) && ((ps.all fun a => match a with
    | .tuple (_ :: _) => true
    | _ => false) || ps.all fun a => match a with
    | .none => false
    | .tuple _ => false
    | _ => true) && ps.all SeqAt.shaped
/-- sorted by the data that they are -/
def sortDs (ds : List D) (s : S) : Option (List D) := match s.pys ds with
  | some ps => if sortable ps = true then some ((ds.zip ps).mergeSort (dataLe false (·.2)) |>.map (·.1)) else none
  | none => none
def dedup (s : S) : List D → Option (List D)
  | [] => some []
  | d :: r => match dedup s r with
    | some l => some (d :: l)
    | none => none
def lenF (es : List D) (s : S) : R D := match es with
  | [.tup xs] => .ok (.int xs.length) s
  | [.str x] => .ok (.int x.length) s
  | [.ref a] => match s.h[a]? with
    | some (.list xs) => .ok (.int xs.length) s
    | some (.dict kvs) => .ok (.int kvs.length) s
    | _ => .bad
  | _ => .bad
/-- of a list alone -/
def list1 (es : List D) (s : S) (f : List D → R D) : R D := match es with
  | [.ref a] => match s.h[a]? with
    | some (.list xs) => f xs
    | _ => .bad
  | _ => .bad
def sumF (es : List D) (s : S) : R D := list1 es s fun xs => match ints? xs with
  | some ns => .ok (.int ns.sum) s
  | none => .bad
def anyF (es : List D) (s : S) : R D := list1 es s fun xs => match bools? xs with
  | some bs => .ok (.bl (bs.any id)) s
  | none => .bad
def allF (es : List D) (s : S) : R D := list1 es s fun xs => match bools? xs with
  | some bs => .ok (.bl (bs.all id)) s
  | none => .bad
def tupleF (es : List D) (s : S) : R D := match es with
  | [.tup xs] => .ok (.tup xs) s
  | [.ref a] => match s.h[a]? with
    | some (.list xs) => .ok (.tup xs) s
    | _ => .bad
  | _ => .bad
def listF (es : List D) (s : S) : R D := match es with
  | [.tup xs] => s.new (.list xs)
  | [.ref a] => match s.h[a]? with
    | some (.list xs) => s.new (.list xs)
    | _ => .bad
  | _ => .bad
def sortedF (es : List D) (s : S) : R D := match es with
  | [d] => match items d s with
    | some xs => match sortDs xs s with
      | some ys => s.new (.list ys)
      | none => .bad
    | none => .bad
  | _ => .bad
/-! sorted(set(xs)) -/
def addK (ks : List Ke) (k : Ke) : List Ke := if (ks.any fun j => decide (j = k)) = true then ks else ks ++ [k]
/-- the keys met among the first i, once each -/
def met (ks : List Ke) (i : Nat) : List Ke := (ks.take i).foldl addK []
def keyLe : Ke → Ke → Bool
  | .inl a, .inl b => decide (a ≤ b)
  | .inr a, .inr b => decide (a.cps.toList ≤ b.cps.toList)
  | .inl _, .inr _ => true
  | .inr _, .inl _ => false
def keys? : List D → Option (List Ke)
  | [] => some []
  | d :: r => match key? d, keys? r with
    | some k, some l => some (k :: l)
    | _, _ => none
def isInl : Ke → Bool
  | .inl _ => true
  | .inr _ => false
def oneKind (ks : List Ke) : Bool := ks.all isInl || ks.all fun k => !isInl k
def keyP : Ke → PyData
  | .inl i => .int i
  | .inr x => .str x
def keyOk (k : Ke) : Bool := SeqAt.shaped (keyP k)
def ssetF (es : List D) (s : S) : R D := match es with
  | [.ref a] => match s.h[a]? with
    | some (.list xs) => match keys? xs with
      | some ks => if oneKind ks = true ∧ ks.all keyOk = true ∧ ks.length < 4000 then s.new (.list (((met ks ks.length).mergeSort keyLe).map keyD)) else .bad
      | none => .bad
    | _ => .bad
  | [.tup xs] => match keys? xs with
      | some ks => if oneKind ks = true ∧ ks.all keyOk = true ∧ ks.length < 4000 then s.new (.list (((met ks ks.length).mergeSort keyLe).map keyD)) else .bad
      | none => .bad
  | _ => .bad
def reprF (es : List D) (s : S) : R D := match es with
  | [d] => match s.py d with
    | some p => if p.showable = true ∧ p.shown.length ≤ sizeLine ∧ p.depth ≤ 64 then .ok (.str p.shown) s else .bad
    | none => .bad
  | _ => .bad
/-- the class of a value: none: another one -/
def kindD (d : D) (s : S) : Option (Option Ki) := match d with
  | .non => some none
  | .bl _ => some (some .bool)
  | .int _ => some (some .int)
  | .str _ => some (some .str)
  | .tup _ => some (some .tuple)
  | .ref a => match s.h[a]? with
    | some (.list _) => some (some .list)
    | some (.dict _) => some none
    | _ => none
  | _ => none
def instF (k : Ki) (es : List D) (s : S) : R D := match es with
  | [d] => match kindD d s with
    | some j => .ok (.bl (kiOf k j)) s
    | none => .bad
  | _ => .bad
/-- data as a value -/
def ofPy : PyData → Option D
  | .none => some .non
  | .bool b => some (.bl b)
  | .int i => some (.int i)
  | .str s => some (.str s)
  | .tuple xs => (ofPys xs).map .tup
  | _ => none
where ofPys : List PyData → Option (List D)
  | [] => some []
  | x :: r => match ofPy x, ofPys r with
    | some a, some b => some (a :: b)
    | _, _ => none
def seqD (x : D) (s : S) : Option (List D) := match x with
  | .tup xs => some xs
  | .ref a => match s.h[a]? with
    | some (.list xs) => some xs
    | _ => none
  | _ => none
def revF (es : List D) (s : S) : R D := match es with
  | [.tup xs] => .ok (.tup xs.reverse) s
  | [.ref a] => match s.h[a]? with
    | some (.list xs) => s.new (.list xs.reverse)
    | _ => .bad
  | _ => .bad
def rev0F (es : List D) (s : S) : R D := match es with
  | [.tup xs] => .ok (.tup (xs.drop 1).reverse) s
  | _ => .bad
/-- len(set(x)) -/
def lsetF (es : List D) (s : S) : R D := match es with
  | [d] => match seqD d s with
    | some xs => match keys? xs with
      | some ks => if ks.length < 4000 then .ok (.int (met ks ks.length).length) s else .bad
      | none => .bad
    | none => .bad
  | _ => .bad
def best (mx : Bool) : List PyData → Option D
  | [] => none
  | p :: ps => if sortable (p :: ps) = true then ofPy (if mx then maxD p ps else minD p ps) else none
/-- min(x), max(x) -/
def mmF (mx : Bool) (es : List D) (s : S) : R D := match es with
  | [d] => match seqD d s with
    | some xs => match s.pys xs with
      | some ps => R.of (best mx ps) s
      | none => .bad
    | none => .bad
  | _ => .bad
/-- max(x, default=d) -/
def mmdF (mx : Bool) (es : List D) (s : S) : R D := match es with
  | [d, .int k] => match seqD d s with
    | some xs => match s.pys xs with
      | some [] => .ok (.int k) s
      | some ps => R.of (best mx ps) s
      | none => .bad
    | none => .bad
  | _ => .bad
def mm2F (mx : Bool) (es : List D) (s : S) : R D := match es with
  | [.int i, .int j] => .ok (.int (if mx then (if j > i then j else i) else (if j < i then j else i))) s
  | _ => .bad
/-- tuple(range(a, b)) -/
def trangeF (es : List D) (s : S) : R D := match es with
  | [.int a, .int b] => if -(2 ^ 62) ≤ a ∧ a < 2 ^ 62 ∧ -(2 ^ 62) ≤ b ∧ b < 2 ^ 62 ∧ (b - a).toNat ≤ 2 ^ 24 then .ok (.tup ((List.range (b - a).toNat).map fun i => .int (a + (i : Nat)))) s else .bad
  | _ => .bad
def biF (b : Bi) : List D → S → R D := match b with
  | .len => lenF
  | .sum => sumF
  | .any => anyF
  | .all => allF
  | .tuple => tupleF
  | .list => listF
  | .sorted => sortedF
  | .repr => reprF
  | .sset => ssetF
  | .inst k => instF k
  | .rev => revF
  | .rev0 => rev0F
  | .lset => lsetF
  | .mm mx => mmF mx
  | .mmd mx => mmdF mx
  | .mm2 mx => mm2F mx
  | .trange => trangeF
/-- the first place of an equal one -/
def placeP (ps : List PyData) (p : PyData) : Option Nat := if SeqAt.shaped (.list ps) = true ∧ SeqAt.shaped p = true then ps.findIdx? fun z => PyData.eqv z p else none
def indexF (x : D) (ds : List D) (s : S) : R D := match ds with
  | [y] => match seqD x s with
    | some xs => match s.pys xs, s.py y with
      | some ps, some p => match placeP ps p with
        | some j => .ok (.int (j : Nat)) s
        | none => .bad
      | _, _ => .bad
    | none => .bad
  | _ => .bad
def mrOk (m : Mr) (x : D) (s : S) : Bool := match m with
  | .index => (seqD x s).isSome
def mrF (m : Mr) : D → List D → S → R D := match m with
  | .index => indexF
def onList (x : D) (s : S) (f : Nat → List D → R D) : R D := match x with
  | .ref a => match s.h[a]? with
    | some (.list xs) => f a xs
    | _ => .bad
  | _ => .bad
def isL (x : D) (s : S) : Bool := match x with
  | .ref a => match s.h[a]? with
    | some (.list _) => true
    | _ => false
  | _ => false
def appendF (x : D) (ds : List D) (s : S) : R D := onList x s fun a xs => match ds with
  | [d] => if xs.length < sizeLine then .ok .non (s.put a (.list (xs ++ [d])) d.top) else .bad
  | _ => .bad
def extendF (x : D) (ds : List D) (s : S) : R D := onList x s fun a xs => match ds with
  | [y] => onList y s fun _ ys => if xs.length + ys.length ≤ sizeLine then .ok .non (s.put a (.list (xs ++ ys)) (D.tops ys)) else .bad
  | _ => .bad
def popF (x : D) (ds : List D) (s : S) : R D := onList x s fun a xs => match ds with
  | [] => match xs[xs.length - 1]? with
    | some d => .ok d (s.put a (.list xs.dropLast) 0)
    | none => .bad
  | [.int i] => match seqIndex? i xs.length with
    | some k => match xs[k]? with
      | some d => if -(2 ^ 63) ≤ i ∧ i < 2 ^ 63 then .ok d (s.put a (.list (xs.eraseIdx k)) 0) else .bad
      | none => .bad
    | none => .bad
  | _ => .bad
def meF (m : Me) : D → List D → S → R D := match m with
  | .append => appendF
  | .extend => extendF
  | .pop => popF
/-- o[i] = d -/
def setItem (o i d : D) (s : S) : R Unit := match o with
  | .ref a => match s.h[a]? with
    | some (.list xs) => match i with
      | .int k => match L2.ixN xs.length k with
        | some j => .ok () (s.put a (.list (xs.set j d)) d.top)
        | none => .bad
      | _ => .bad
    | some (.dict kvs) => match key? i with
      | some k => if kvs.length < sizeLine then .ok () (s.put a (.dict (kput kvs k d)) d.top) else .bad
      | none => .bad
    | _ => .bad
  | _ => .bad
/-! ### the language -/
inductive Tg where
  | nm (i : Nat) | tp (is : List Nat)
inductive C where
  | loc (i : Nat) | cst (d : D)
  | tup (es : List C) | lst (es : List C) | dct (ks : List Ke) (es : List C)
  | bin (o : BO) (a b : C) | neg (a : C) | not (a : C) | and (es : List C) | or (es : List C) | ife (c a b : C)
  | cmp (o : CO) (a b : C) | chain (o1 o2 : CO) (a b c : C)
  | ix (a b : C) | slc (a lo hi : C) | bnd (a : C)
  | call (k : Nat) (es : List C) | bi (b : Bi) (es : List C) | me (m : Me) (o : C) (es : List C) | met (m : Mr) (o : C) (es : List C)
  | lc (e : C) (t : Tg) (it : C) (cs : List C)
  | dc (k v : C) (t : Tg) (it : C) (cs : List C)
  | rng (es : List C) | enum (e : C)
inductive T where
  | asg (t : Tg) (e : C) | sub (o i e : C) | ex (e : C) | ret (e : C)
  | ifs (c : C) (a b : List T) | for_ (t : Tg) (it : C) (b : List T) | whl (c : C) (b : List T)
  | pass | brk | cnt
inductive Fl where
  | nx | rt (d : D) | bk | ct
abbrev Sl := List (Option D)
def Tg.set (t : Tg) (d : D) (σ : Sl) : Option Sl := match t with
  | .nm i => some (σ.set i (some d))
  | .tp is => match d with
    | .tup xs => if xs.length = is.length then some ((is.zip xs).foldl (fun σ p => σ.set p.1 (some p.2)) σ) else none
    | _ => none
/-! ### what is walked -/
inductive It where
  | ds (xs : List D)        -- items that stand
  | li (a : Nat)            -- a list, as it is at each turn
  | en (a : It)             -- with the turn's number
/-- the item of turn i: none: a fault; some none: the end -/
def It.at : It → Nat → S → Option (Option D)
  | .ds xs, i, _ => some xs[i]?
  | .li a, i, s => match s.h[a]? with
    | some (.list xs) => some xs[i]?
    | _ => none
  | .en t, i, s => match t.at i s with
    | some (some d) => some (some (.tup [.int i, d]))
    | some none => some none
    | none => none
def itOf (d : D) (s : S) : Option It := match d with
  | .tup xs => some (.ds xs)
  | .ro xs => some (.ds xs)
  | .str z => some (.ds (z.cps.toList.map fun c => .str ⟨#[c]⟩))
  | .ref a => match s.h[a]? with
    | some (.list _) => some (.li a)
    | _ => none
  | _ => none
def rngF (ds : List D) (s : S) : R It := match ds with
  | [.int n] => if -(2 ^ 62) ≤ n ∧ n < 2 ^ 62 then .ok (.ds ((List.range n.toNat).map fun i => .int ((0 : Int) + (i : Nat)))) s else .bad
  | [.int a, .int b] => if -(2 ^ 62) ≤ a ∧ a < 2 ^ 62 ∧ -(2 ^ 62) ≤ b ∧ b < 2 ^ 62 then .ok (.ds ((List.range (b - a).toNat).map fun i => .int (a + (i : Nat)))) s else .bad
  | _ => .bad
def enumF (x : D) (s : S) : R It := match x with
  | .tup xs => .ok (.en (.ds xs)) s
  | .ref a => match s.h[a]? with
    | some (.list _) => .ok (.en (.li a)) s
    | _ => .bad
  | _ => .bad
/-- a comprehension's turns: b gives none: the item falls out -/
def lcL (it : It) (b : D → S → R (Option D)) : Nat → Nat → List D → S → R (List D)
  | 0, _, _, _ => .bad
  | n + 1, i, acc, s => match it.at i s with
    | some none => .ok acc s
    | some (some d) => (b d s).bind fun y s' => match y with
      | some y => if acc.length < sizeLine then lcL it b n (i + 1) (acc ++ [y]) s' else .bad
      | none => lcL it b n (i + 1) acc s'
    | none => .bad
def dcL (it : It) (b : D → S → R (Option (D × D))) : Nat → Nat → List (Ke × D) → S → R (List (Ke × D))
  | 0, _, _, _ => .bad
  | n + 1, i, acc, s => match it.at i s with
    | some none => .ok acc s
    | some (some d) => (b d s).bind fun y s' => match y with
      | some p => match key? p.1 with
        | some k => if acc.length < sizeLine then dcL it b n (i + 1) (kput acc k p.2) s' else .bad
        | none => .bad
      | none => dcL it b n (i + 1) acc s'
    | none => .bad
def forL (it : It) (b : D → Sl → S → R (Fl × Sl)) : Nat → Nat → Sl → S → R (Fl × Sl)
  | 0, _, _, _ => .bad
  | n + 1, i, σ, s => match it.at i s with
    | some none => .ok (.nx, σ) s
    | some (some d) => match b d σ s with
      | .ok (.nx, σ') s' => forL it b n (i + 1) σ' s'
      | .ok (.ct, σ') s' => forL it b n (i + 1) σ' s'
      | .ok (.bk, σ') s' => .ok (.nx, σ') s'
      | r => r
    | none => .bad
def whlL (c : Sl → S → R Bool) (b : Sl → S → R (Fl × Sl)) : Nat → Sl → S → R (Fl × Sl)
  | 0, _, _ => .bad
  | n + 1, σ, s => match c σ s with
    | .ok false s' => .ok (.nx, σ) s'
    | .ok true s' => match b σ s' with
      | .ok (.nx, σ') s'' => whlL c b n σ' s''
      | .ok (.ct, σ') s'' => whlL c b n σ' s''
      | .ok (.bk, σ') s'' => .ok (.nx, σ') s''
      | r => r
    | .exc e s' => .exc e s'
    | .bad => .bad
abbrev CallT := Nat → List D → S → R D
def testD (d : D) (s : S) : R Bool := R.of (truthy d s) s
/-- the way out of an and, an or -/
def boolD (d : D) (s : S) (f : Bool → R D) : R D := match truthy d s with
  | some b => f b
  | none => .bad
mutual
def evE (f : CallT) (w : Nat) : C → Sl → S → R D
  | .loc i, σ, s => match σ[i]? with
    | some (some d) => .ok d s
    | _ => .bad
  | .cst d, _, s => .ok d s
  | .tup es, σ, s => (evEs f w es σ s).bind fun ds s => .ok (.tup ds) s
  | .lst es, σ, s => (evEs f w es σ s).bind fun ds s => s.new (.list ds)
  | .dct ks es, σ, s => (evEs f w es σ s).bind fun ds s => if ks.length = ds.length ∧ ks.length ≤ 15 ∧ ks.Nodup then s.new (.dict (ks.zip ds)) else .bad
  | .bin o a b, σ, s => (evE f w a σ s).bind fun x s => (evE f w b σ s).bind fun y s => binop o x y s
  | .neg a, σ, s => (evE f w a σ s).bind fun x s => match x with
    | .int i => .ok (.int (-i)) s
    | _ => .bad
  | .not a, σ, s => (evE f w a σ s).bind fun x s => (testD x s).bind fun b s => .ok (.bl (!b)) s
  | .and es, σ, s => evAnd f w es σ s
  | .or es, σ, s => evOr f w es σ s
  | .ife c a b, σ, s => (evE f w c σ s).bind fun x s => (testD x s).bind fun t s => match t with
    | true => evE f w a σ s
    | false => evE f w b σ s
  | .cmp o a b, σ, s => (evE f w a σ s).bind fun x s => (evE f w b σ s).bind fun y s => cmpR o x y s
  | .chain o1 o2 a b c, σ, s => (evE f w a σ s).bind fun x s => (evE f w b σ s).bind fun y s => (R.of (cmpop o1 x y s) s).bind fun t s => match t with
    | true => (evE f w c σ s).bind fun z s => cmpR o2 y z s
    | false => .ok (.bl false) s
  | .ix a b, σ, s => (evE f w a σ s).bind fun x s => (evE f w b σ s).bind fun y s => idxR x y s
  | .slc a lo hi, σ, s => (evE f w a σ s).bind fun x s => (evB f w lo σ s).bind fun l s => (evB f w hi σ s).bind fun u s => sliceD x l u s
  | .bnd _, _, _ => .bad
  | .call k es, σ, s => (evEs f w es σ s).bind fun ds s => f k ds s
  | .bi b es, σ, s => (evEs f w es σ s).bind fun ds s => biF b ds s
  | .me m o es, σ, s => (evE f w o σ s).bind fun x s => match isL x s with
    | true => (evEs f w es σ s).bind fun ds s => meF m x ds s
    | false => .bad
  | .met m o es, σ, s => (evE f w o σ s).bind fun x s => match mrOk m x s with
    | true => (evEs f w es σ s).bind fun ds s => mrF m x ds s
    | false => .bad
  | .lc e t it cs, σ, s => (evI f w it σ s).bind fun j s => (lcL j (fun d s => match t.set d σ with
      | some σ' => (evTs f w cs σ' s).bind fun c s => match c with
        | true => (evE f w e σ' s).bind fun y s => .ok (some y) s
        | false => .ok none s
      | none => .bad) w 0 [] s).bind fun ds s => s.new (.list ds)
  | .dc k v t it cs, σ, s => (evI f w it σ s).bind fun j s => (dcL j (fun d s => match t.set d σ with
      | some σ' => (evTs f w cs σ' s).bind fun c s => match c with
        | true => (evE f w k σ' s).bind fun x s => (evE f w v σ' s).bind fun y s => .ok (some (x, y)) s
        | false => .ok none s
      | none => .bad) w 0 [] s).bind fun kvs s => s.new (.dict kvs)
  | .rng _, _, _ => .bad
  | .enum _, _, _ => .bad
def evEs (f : CallT) (w : Nat) : List C → Sl → S → R (List D)
  | [], _, s => .ok [] s
  | e :: r, σ, s => (evE f w e σ s).bind fun x s => (evEs f w r σ s).bind fun xs s => .ok (x :: xs) s
def evAnd (f : CallT) (w : Nat) : List C → Sl → S → R D
  | [], _, _ => .bad
  | [e], σ, s => evE f w e σ s
  | e :: r, σ, s => (evE f w e σ s).bind fun x s => boolD x s fun b => match b with
    | true => evAnd f w r σ s
    | false => .ok x s
def evOr (f : CallT) (w : Nat) : List C → Sl → S → R D
  | [], _, _ => .bad
  | [e], σ, s => evE f w e σ s
  | e :: r, σ, s => (evE f w e σ s).bind fun x s => boolD x s fun b => match b with
    | true => .ok x s
    | false => evOr f w r σ s
/-- tests, one behind another, all of them -/
def evTs (f : CallT) (w : Nat) : List C → Sl → S → R Bool
  | [], _, s => .ok true s
  | e :: r, σ, s => (evE f w e σ s).bind fun x s => (testD x s).bind fun b s => match b with
    | true => evTs f w r σ s
    | false => .ok false s
/-- a slice's bound -/
def evB (f : CallT) (w : Nat) : C → Sl → S → R (Option Int)
  | .bnd e, σ, s => (evE f w e σ s).bind fun x s => match x with
    | .int i => .ok (some i) s
    | _ => .bad
  | _, _, s => .ok none s
/-- what is walked -/
def evI (f : CallT) (w : Nat) : C → Sl → S → R It
  | .rng es, σ, s => (evEs f w es σ s).bind fun ds s => rngF ds s
  | .enum e, σ, s => (evE f w e σ s).bind fun x s => enumF x s
  | e, σ, s => (evE f w e σ s).bind fun x s => R.of (itOf x s) s
end
mutual
def exT (f : CallT) (w : Nat) : T → Sl → S → R (Fl × Sl)
  | .asg t e, σ, s => (evE f w e σ s).bind fun d s => match t.set d σ with
    | some σ' => .ok (.nx, σ') s
    | none => .bad
  | .sub o i e, σ, s => (evE f w e σ s).bind fun d s => (evE f w o σ s).bind fun x s => (evE f w i σ s).bind fun y s => (setItem x y d s).bind fun _ s => .ok (.nx, σ) s
  | .ex e, σ, s => (evE f w e σ s).bind fun _ s => .ok (.nx, σ) s
  | .ret e, σ, s => (evE f w e σ s).bind fun d s => .ok (.rt d, σ) s
  | .ifs c a b, σ, s => (evE f w c σ s).bind fun x s => (testD x s).bind fun t s => match t with
    | true => exTs f w a σ s
    | false => exTs f w b σ s
  | .for_ t it b, σ, s => (evI f w it σ s).bind fun j s => forL j (fun d σ s => match t.set d σ with
      | some σ' => exTs f w b σ' s
      | none => .bad) w 0 σ s
  | .whl c b, σ, s => whlL (fun σ s => (evE f w c σ s).bind fun x s => testD x s) (fun σ s => exTs f w b σ s) w σ s
  | .pass, σ, s => .ok (.nx, σ) s
  | .brk, σ, s => .ok (.bk, σ) s
  | .cnt, σ, s => .ok (.ct, σ) s
def exTs (f : CallT) (w : Nat) : List T → Sl → S → R (Fl × Sl)
  | [], σ, s => .ok (.nx, σ) s
  | t :: r, σ, s => (exT f w t σ s).bind fun p s => match p with
    | (.nx, σ') => exTs f w r σ' s
    | p => .ok p s
end
/-! ### functions -/
structure Fn where
  np : Nat
  nl : Nat
  body : List T
def start (n : Nat) (ds : List D) : Sl := ds.map some ++ List.replicate (n - ds.length) none
def runB (f : CallT) (w : Nat) (g : Fn) (ds : List D) (s : S) : R D :=
  if ds.length = g.np then match exTs f w g.body (start g.nl ds) s with
    | .ok (.rt d, _) s' => .ok d (gc s.h.length s.k d s')
    | .ok (.nx, _) s' => .ok .non (gc s.h.length s.k .non s')
    | .exc e s' => .exc e s'
    | _ => .bad
  else .bad
def callF (Γ : List Fn) (w : Nat) : Nat → CallT
  | 0, _, _, _ => .bad
  | n + 1, k, ds, s => match Γ[k]? with
    | some g => runB (callF Γ w n) w g ds s
    | none => .bad
end Dv
end

section
/-! Dv2 -/
/-! Dv2: what the data stand for in the hand layer's heap. -/
namespace Dv
open PySem PySem.Spec PyProof.Rows L2

def Stay : HO → Prop
  | .tup _ => True
  | .frz _ _ => True
  | _ => False
def RoAt (K : PySem.W.Frag) (H : Hp) (a : Addr) (xs : List V) : Prop :=
  (∃ o, H a = some (.frz o (.lst xs))) ∨
    ∃ (o : Obj) (its : Array Value) (n : Nat), K.lookup a = some o ∧ o.cls = .type "list" ∧ o.dict = none ∧ o.data = .seq its n ∧ its.size ≤ sizeLine ∧ Vals xs its.toList
theorem RoAt.sq {K : PySem.W.Frag} {H : Hp} {a : Addr} {xs : List V} (h : RoAt K H a xs) : SqL K H a xs := by
  rcases h with ⟨o, h⟩ | h
  · exact .inl (.inr ⟨o, h⟩)
  · exact .inr h
def TupAt (K : PySem.W.Frag) (H : Hp) (a : Addr) (xs : List V) : Prop :=
  (∃ o, H a = some (.frz o (.tup xs)) ∧ o.dict = none) ∨
    ∃ (o : Obj) (its : Array Value) (n : Nat), K.lookup a = some o ∧ o.cls = .type "tuple" ∧ o.dict = none ∧ o.data = .seq its n ∧ its.size ≤ sizeLine ∧ Vals xs its.toList
theorem TupAt.sq {K : PySem.W.Frag} {H : Hp} {a : Addr} {xs : List V} (h : TupAt K H a xs) : SqT K H a xs := by
  rcases h with ⟨o, h, _⟩ | ⟨o, its, n, h1, h2, _, h3⟩
  · exact .inl (.inr ⟨o, h⟩)
  · exact .inr ⟨o, its, n, h1, h2, h3⟩
mutual
def RepD (K : PySem.W.Frag) (H : Hp) (α : Nat → Addr) : D → V → Prop
  | .non, v => v = .non
  | .bl b, v => v = .bl b
  | .int i, v => v = .int i
  | .str x, v => v = .str x ∧ x.length ≤ sizeLine
  | .tup xs, v => ∃ a vs, v = .ref a ∧ TupAt K H a vs ∧ RepDs K H α xs vs
  | .ref i, v => v = .ref (α i)
  | .fn _, _ => False
  | .ro xs, v => ∃ a vs, v = .ref a ∧ RoAt K H a vs ∧ RepDs K H α xs vs
def RepDs (K : PySem.W.Frag) (H : Hp) (α : Nat → Addr) : List D → List V → Prop
  | [], vs => vs = []
  | x :: r, vs => ∃ v w, vs = v :: w ∧ RepD K H α x v ∧ RepDs K H α r w
end
section
variable {K : PySem.W.Frag} {H H' : Hp} {α α' : Nat → Addr} {n : Nat}
mutual
theorem RepD.mono (kp : ∀ a u, Stay u → H a = some u → H' a = some u) (ag : ∀ i, i < n → α' i = α i) : ∀ (d : D) (v : V), d.top ≤ n → RepD K H α d v → RepD K H' α' d v
  | .non, v, _, h => h
  | .bl b, v, _, h => h
  | .int i, v, _, h => h
  | .str x, v, _, h => h
  | .tup xs, v, ht, ⟨a, vs, e, ta, r⟩ => ⟨a, vs, e, by
      rcases ta with ⟨o, h, hd⟩ | h
      · exact .inl ⟨o, kp _ _ trivial h, hd⟩
      · exact .inr h, RepDs.mono kp ag xs vs (by rw [D.top] at ht; exact ht) r⟩
  | .ro xs, v, ht, ⟨a, vs, e, ta, r⟩ => ⟨a, vs, e, by
      rcases ta with ⟨o, h⟩ | h
      · exact .inl ⟨o, kp _ _ trivial h⟩
      · exact .inr h, RepDs.mono kp ag xs vs (by rw [D.top] at ht; exact ht) r⟩
  | .ref i, v, ht, h => by
    rw [D.top] at ht
    rw [RepD] at h ⊢
    rw [ag i (by omega)]
    exact h
theorem RepDs.mono (kp : ∀ a u, Stay u → H a = some u → H' a = some u) (ag : ∀ i, i < n → α' i = α i) : ∀ (ds : List D) (vs : List V), D.tops ds ≤ n → RepDs K H α ds vs → RepDs K H' α' ds vs
  | [], vs, _, h => h
  | d :: ds, vs, ht, ⟨v, w, e, h1, h2⟩ => by
    rw [D.tops] at ht
    exact ⟨v, w, e, RepD.mono kp ag d v (by omega) h1, RepDs.mono kp ag ds w (by omega) h2⟩
end
theorem RepDs.length : ∀ {ds : List D} {vs : List V}, RepDs K H α ds vs → vs.length = ds.length
  | [], _, h => by rw [RepDs] at h; rw [h]; rfl
  | d :: ds, _, h => by
    rw [RepDs] at h
    obtain ⟨v, w, rfl, _, h2⟩ := h
    simp [RepDs.length h2]
theorem RepDs.append : ∀ {ds es : List D} {vs ws : List V}, RepDs K H α ds vs → RepDs K H α es ws → RepDs K H α (ds ++ es) (vs ++ ws)
  | [], _, _, _, h, h' => by rw [RepDs] at h; rw [h]; exact h'
  | d :: ds, _, _, _, h, h' => by
    rw [RepDs] at h
    obtain ⟨v, w, rfl, h1, h2⟩ := h
    exact ⟨v, _, rfl, h1, RepDs.append h2 h'⟩
theorem RepDs.get : ∀ {ds : List D} {vs : List V} {i : Nat} {d : D}, RepDs K H α ds vs → ds[i]? = some d → ∃ v, vs[i]? = some v ∧ RepD K H α d v
  | [], _, _, _, _, e => by simp at e
  | x :: ds, _, i, d, h, e => by
    rw [RepDs] at h
    obtain ⟨v, w, rfl, h1, h2⟩ := h
    cases i with
    | zero => simp at e; subst e; exact ⟨v, rfl, h1⟩
    | succ i => simpa using RepDs.get (i := i) h2 (by simpa using e)
theorem RepDs.get_none {ds : List D} {vs : List V} {i : Nat} (h : RepDs K H α ds vs) (e : ds[i]? = none) : vs[i]? = none := by
  rw [List.getElem?_eq_none_iff] at e ⊢
  rw [h.length]; exact e
theorem RepDs.take : ∀ {ds : List D} {vs : List V} (n : Nat), RepDs K H α ds vs → RepDs K H α (ds.take n) (vs.take n)
  | _, _, 0, _ => by simp [RepDs]
  | [], _, n + 1, h => by rw [RepDs] at h; rw [h]; simp [RepDs]
  | x :: ds, _, n + 1, h => by
    rw [RepDs] at h
    obtain ⟨v, w, rfl, h1, h2⟩ := h
    exact ⟨v, _, rfl, h1, RepDs.take n h2⟩
theorem RepDs.drop : ∀ {ds : List D} {vs : List V} (n : Nat), RepDs K H α ds vs → RepDs K H α (ds.drop n) (vs.drop n)
  | _, _, 0, h => h
  | [], _, n + 1, h => by rw [RepDs] at h; rw [h]; simp [RepDs]
  | x :: ds, _, n + 1, h => by
    rw [RepDs] at h
    obtain ⟨v, w, rfl, h1, h2⟩ := h
    exact RepDs.drop n h2
theorem RepDs.set : ∀ {ds : List D} {vs : List V} {d : D} {v : V} (i : Nat), RepDs K H α ds vs → RepD K H α d v → RepDs K H α (ds.set i d) (vs.set i v)
  | [], _, _, _, _, h, _ => by rw [RepDs] at h; rw [h]; simp [RepDs]
  | x :: ds, _, d, v', i, h, r => by
    rw [RepDs] at h
    obtain ⟨v, w, rfl, h1, h2⟩ := h
    cases i with
    | zero => exact ⟨v', w, rfl, r, h2⟩
    | succ i => exact ⟨v, _, rfl, h1, RepDs.set i h2 r⟩
theorem RepDs.eraseIdx : ∀ {ds : List D} {vs : List V} (i : Nat), RepDs K H α ds vs → RepDs K H α (ds.eraseIdx i) (vs.eraseIdx i)
  | [], _, _, h => by rw [RepDs] at h; rw [h]; simp [RepDs]
  | x :: ds, _, i, h => by
    rw [RepDs] at h
    obtain ⟨v, w, rfl, h1, h2⟩ := h
    cases i with
    | zero => exact h2
    | succ i => exact ⟨v, _, rfl, h1, RepDs.eraseIdx i h2⟩
theorem RepDs.nil : RepDs K H α [] [] := rfl
theorem RepDs.one {d : D} {v : V} (h : RepD K H α d v) : RepDs K H α [d] [v] := ⟨v, [], rfl, h, rfl⟩
end
theorem tops_append : ∀ (xs ys : List D), D.tops (xs ++ ys) = max (D.tops xs) (D.tops ys)
  | [], ys => by simp [D.tops]
  | x :: xs, ys => by simp [D.tops, tops_append xs ys, Nat.max_assoc]
theorem top_mem : ∀ {xs : List D} {x : D}, x ∈ xs → x.top ≤ D.tops xs
  | y :: ys, x, h => by
    rw [D.tops]
    rcases List.mem_cons.mp h with rfl | h
    · exact Nat.le_max_left ..
    · exact Nat.le_trans (top_mem h) (Nat.le_max_right ..)
theorem tops_le : ∀ {xs : List D} {n : Nat}, (∀ x ∈ xs, x.top ≤ n) → D.tops xs ≤ n
  | [], _, _ => by simp [D.tops]
  | x :: xs, n, h => by
    rw [D.tops]
    exact Nat.max_le.mpr ⟨h x List.mem_cons_self, tops_le fun y hy => h y (List.mem_cons_of_mem _ hy)⟩
theorem tops_sub {xs ys : List D} (h : ∀ x ∈ xs, x ∈ ys) : D.tops xs ≤ D.tops ys := tops_le fun x hx => top_mem (h x hx)

/-! ### objects -/
def RepKv (K : PySem.W.Frag) (H : Hp) (α : Nat → Addr) : List (Ke × D) → List (Key × V) → Prop
  | [], ws => ws = []
  | p :: r, ws => ∃ v w, ws = (p.1, v) :: w ∧ RepD K H α p.2 v ∧ RepKv K H α r w
def RepO (K : PySem.W.Frag) (H : Hp) (α : Nat → Addr) (o : Ob) (u : Option HO) : Prop := match o with
  | .list xs => ∃ vs, u = some (.lst vs) ∧ RepDs K H α xs vs
  | .dict kvs => ∃ ws, u = some (.dK ws) ∧ RepKv K H α kvs ws
  | .set _ => False
theorem RepKv.mono {K : PySem.W.Frag} {H H' : Hp} {α α' : Nat → Addr} {n : Nat} (kp : ∀ a u, Stay u → H a = some u → H' a = some u) (ag : ∀ i, i < n → α' i = α i) : ∀ (kvs : List (Ke × D)) (ws : List (Key × V)), topKv kvs ≤ n → RepKv K H α kvs ws → RepKv K H' α' kvs ws
  | [], ws, _, h => h
  | p :: r, ws, ht, h => by
    rw [RepKv] at h
    obtain ⟨v, w, e, h1, h2⟩ := h
    rw [topKv] at ht
    exact ⟨v, w, e, RepD.mono kp ag _ _ (by omega) h1, RepKv.mono kp ag r w (by omega) h2⟩
theorem RepO.mono {K : PySem.W.Frag} {H H' : Hp} {α α' : Nat → Addr} {n : Nat} {u : Option HO} (kp : ∀ a u, Stay u → H a = some u → H' a = some u) (ag : ∀ i, i < n → α' i = α i) {o : Ob} (ht : o.top ≤ n) (h : RepO K H α o u) : RepO K H' α' o u := by
  cases o with
  | list xs => obtain ⟨vs, e, r⟩ := h; exact ⟨vs, e, RepDs.mono kp ag _ _ ht r⟩
  | dict kvs => obtain ⟨vs, e, r⟩ := h; exact ⟨vs, e, RepKv.mono kp ag _ _ ht r⟩
  | set _ => exact h.elim
theorem RepO.not_stay {K : PySem.W.Frag} {H : Hp} {α : Nat → Addr} {o : Ob} {u : HO} (h : RepO K H α o (some u)) : ¬ Stay u := by
  cases o with
  | list xs => obtain ⟨vs, e, r⟩ := h; cases e; exact id
  | dict kvs => obtain ⟨vs, e, r⟩ := h; cases e; exact id
  | set _ => exact h.elim

structure Sim (K : PySem.W.Frag) (α : Nat → Addr) (s : S) (H : Hp) : Prop where
  inj : ∀ i j, i < s.h.length → j < s.h.length → α i = α j → i = j
  obj : ∀ i o, s.h[i]? = some o → RepO K H α o (H (α i))
  wf : ∀ (i : Nat) (o : Ob), s.h[i]? = some o → o.top ≤ max (i + 1) s.k
  kle : s.k ≤ s.h.length
theorem Sim.top {K : PySem.W.Frag} {α : Nat → Addr} {s : S} {H : Hp} (m : Sim K α s H) {i : Nat} {o : Ob} (h : s.h[i]? = some o) : o.top ≤ s.h.length := by
  have h1 := m.wf i o h
  have h2 := m.kle
  have h3 := (List.getElem?_eq_some_iff.mp h).1
  omega
theorem Sim.there {K : PySem.W.Frag} {α : Nat → Addr} {s : S} {H : Hp} (m : Sim K α s H) {i : Nat} (h : i < s.h.length) : ∃ u, H (α i) = some u ∧ ¬ Stay u := by
  have e : s.h[i]? = some s.h[i] := List.getElem?_eq_getElem h
  have r := m.obj i _ e
  cases q : H (α i) with
  | none =>
    rw [q] at r
    cases o : s.h[i] with
    | list xs => rw [o] at r; obtain ⟨vs, e, _⟩ := r; cases e
    | dict kvs => rw [o] at r; obtain ⟨vs, e, _⟩ := r; cases e
    | set _ => rw [o] at r; exact r.elim
  | some u =>
    rw [q] at r
    exact ⟨u, rfl, r.not_stay⟩

/-- from the one state to the other: what is not ours stays; new objects are new -/
structure Post (α : Nat → Addr) (s : S) (H : Hp) (α' : Nat → Addr) (s' : S) (H' : Hp) : Prop where
  frame : ∀ a o, H a = some o → (∀ i, i < s.h.length → α i ≠ a) → H' a = some o
  agree : ∀ i, i < s.h.length → α' i = α i
  len : s.h.length ≤ s'.h.length
  fresh : ∀ i, s.h.length ≤ i → i < s'.h.length → H (α' i) = none
theorem Post.refl {α : Nat → Addr} {s : S} {H : Hp} : Post α s H α s H := ⟨fun _ _ h _ => h, fun _ _ => rfl, Nat.le_refl _, fun i h1 h2 => by omega⟩
theorem Post.trans {K : PySem.W.Frag} {α α1 α2 : Nat → Addr} {s s1 s2 : S} {H H1 H2 : Hp} (m : Sim K α1 s1 H1) (p : Post α s H α1 s1 H1) (q : Post α1 s1 H1 α2 s2 H2) : Post α s H α2 s2 H2 where
  frame := fun a o h n => q.frame a o (p.frame a o h n) fun i hi e => by
    by_cases hl : i < s.h.length
    · rw [p.agree i hl] at e; exact n i hl e
    · have := p.fresh i (by omega) hi
      rw [e, h] at this; cases this
  agree := fun i hi => (q.agree i (Nat.lt_of_lt_of_le hi p.len)).trans (p.agree i hi)
  len := Nat.le_trans p.len q.len
  fresh := fun i h1 h2 => by
    by_cases hl : i < s1.h.length
    · rw [q.agree i hl]; exact p.fresh i h1 hl
    · have e := q.fresh i (by omega) h2
      cases e2 : H (α2 i) with
      | none => rfl
      | some o =>
        have := p.frame _ o e2 fun j hj e3 => by
          obtain ⟨u, hu, _⟩ := m.there (Nat.lt_of_lt_of_le hj p.len)
          rw [p.agree j hj, e3, e] at hu; cases hu
        rw [e] at this; cases this
theorem Post.keep {K : PySem.W.Frag} {α α' : Nat → Addr} {s s' : S} {H H' : Hp} (m : Sim K α s H) (p : Post α s H α' s' H') : ∀ a u, Stay u → H a = some u → H' a = some u := fun a u st h => p.frame a _ h fun i hi e => by
  obtain ⟨u', hu, n⟩ := m.there hi
  rw [e, h] at hu
  cases hu
  exact n st
theorem Post.rep {K : PySem.W.Frag} {α α' : Nat → Addr} {s s' : S} {H H' : Hp} (m : Sim K α s H) (p : Post α s H α' s' H') {d : D} {v : V} (ht : d.top ≤ s.h.length) (r : RepD K H α d v) : RepD K H' α' d v := r.mono (p.keep m) p.agree _ _ ht
theorem Post.reps {K : PySem.W.Frag} {α α' : Nat → Addr} {s s' : S} {H H' : Hp} (m : Sim K α s H) (p : Post α s H α' s' H') {d : List D} {v : List V} (ht : D.tops d ≤ s.h.length) (r : RepDs K H α d v) : RepDs K H' α' d v := r.mono (p.keep m) p.agree _ _ ht

/-! ### how the heap moves -/
/-- a new thing that is no object of ours (a tuple) -/
theorem Sim.aside {K : PySem.W.Frag} {α : Nat → Addr} {s : S} {H : Hp} {p : Addr} {u : HO} (m : Sim K α s H) (hp : H p = none) : Sim K α s (upd H p u) where
  inj := m.inj
  obj := fun i o e => by
    have r := m.obj i o e
    have hn : α i ≠ p := by
      obtain ⟨v, hv, _⟩ := m.there (List.getElem?_eq_some_iff.mp e).1
      intro q; rw [q, hp] at hv; cases hv
    rw [upd_ne hn]
    exact r.mono (n := o.top) (fun a u _ h => by rw [upd_ne (ne_of_none h hp)]; exact h) (fun _ _ => rfl) (Nat.le_refl _)
  wf := m.wf
  kle := m.kle
theorem Post.aside {α : Nat → Addr} {s : S} {H : Hp} {p : Addr} {u : HO} (hp : H p = none) : Post α s H α s (upd H p u) where
  frame := fun a o h _ => by rw [upd_ne (ne_of_none h hp)]; exact h
  agree := fun _ _ => rfl
  len := Nat.le_refl _
  fresh := fun i h1 h2 => by omega
def ext (α : Nat → Addr) (n : Nat) (p : Addr) : Nat → Addr := fun i => if i = n then p else α i
theorem ext_lt {α : Nat → Addr} {n i : Nat} {p : Addr} (h : i < n) : ext α n p i = α i := by unfold ext; rw [if_neg (by omega)]
theorem ext_self {α : Nat → Addr} {n : Nat} {p : Addr} : ext α n p n = p := by unfold ext; rw [if_pos rfl]
theorem get_snoc {α : Type} {l : List α} {x y : α} {i : Nat} (h : (l ++ [x])[i]? = some y) : l[i]? = some y ∨ (i = l.length ∧ y = x) := by
  by_cases hi : i < l.length
  · rw [List.getElem?_append_left hi] at h; exact .inl h
  · rw [List.getElem?_append_right (by omega)] at h
    have : i - l.length = 0 := by
      cases e : i - l.length with
      | zero => rfl
      | succ k => rw [e] at h; simp at h
    rw [this] at h
    simp at h
    exact .inr ⟨by omega, h.symm⟩
/-- a new object -/
theorem Sim.new {K : PySem.W.Frag} {α : Nat → Addr} {s : S} {H : Hp} {p : Addr} {u : HO} {o : Ob} (m : Sim K α s H) (hp : H p = none) (ht : o.top ≤ s.h.length) (r : RepO K H α o (some u)) : Sim K (ext α s.h.length p) { s with h := s.h ++ [o] } (upd H p u) where
  inj := fun i j hi hj e => by
    simp only [List.length_append, List.length_singleton] at hi hj
    have ne : ∀ i, i < s.h.length → α i ≠ p := fun i hi q => by
      obtain ⟨v, hv, _⟩ := m.there hi
      rw [q, hp] at hv; cases hv
    by_cases h1 : i < s.h.length
    · by_cases h2 : j < s.h.length
      · rw [ext_lt h1, ext_lt h2] at e; exact m.inj i j h1 h2 e
      · have : j = s.h.length := by omega
        subst this
        rw [ext_lt h1, ext_self] at e; exact absurd e (ne i h1)
    · have : i = s.h.length := by omega
      subst this
      by_cases h2 : j < s.h.length
      · rw [ext_lt h2, ext_self] at e; exact absurd e.symm (ne j h2)
      · omega
  obj := fun i o' e => by
    have kp : ∀ a u', Stay u' → H a = some u' → (upd H p u) a = some u' := fun a u' _ h => by rw [upd_ne (ne_of_none h hp)]; exact h
    have ag : ∀ i, i < s.h.length → ext α s.h.length p i = α i := fun i hi => ext_lt hi
    rcases get_snoc e with e | ⟨rfl, rfl⟩
    · have hi := (List.getElem?_eq_some_iff.mp e).1
      rw [ext_lt hi]
      have hn : α i ≠ p := by
        obtain ⟨v, hv, _⟩ := m.there hi
        intro q; rw [q, hp] at hv; cases hv
      rw [upd_ne hn]
      exact (m.obj i o' e).mono kp ag (m.top e)
    · rw [ext_self, upd_same]
      exact r.mono kp ag ht
  wf := fun i o' e => by
    rcases get_snoc e with e | ⟨rfl, rfl⟩
    · exact m.wf i o' e
    · show o'.top ≤ max (s.h.length + 1) s.k
      omega
  kle := by
    show s.k ≤ (s.h ++ [o]).length
    have := m.kle
    simp only [List.length_append, List.length_singleton]
    omega
theorem Post.new {K : PySem.W.Frag} {α : Nat → Addr} {s : S} {H : Hp} {p : Addr} {u : HO} {o : Ob} (m : Sim K α s H) (hp : H p = none) : Post α s H (ext α s.h.length p) { s with h := s.h ++ [o] } (upd H p u) where
  frame := fun a o h _ => by rw [upd_ne (ne_of_none h hp)]; exact h
  agree := fun i hi => ext_lt hi
  len := by simp
  fresh := fun i h1 h2 => by
    simp only [List.length_append, List.length_singleton] at h2
    have : i = s.h.length := by omega
    subst this
    rw [ext_self]; exact hp
/-- an object changed -/
theorem Sim.put {K : PySem.W.Frag} {α : Nat → Addr} {s : S} {H : Hp} {a n : Nat} {u : HO} {o o₀ : Ob} (m : Sim K α s H) (ha : s.h[a]? = some o₀) (ht : o.top ≤ max o₀.top n) (hn : n ≤ s.h.length) (r : RepO K H α o (some u)) : Sim K α (s.put a o n) (upd H (α a) u) := by
  have hal := (List.getElem?_eq_some_iff.mp ha).1
  obtain ⟨u0, hu0, nt⟩ := m.there hal
  have kp : ∀ b u', Stay u' → H b = some u' → (upd H (α a) u) b = some u' := fun b u' st h => by
    rw [upd_ne (fun e => by rw [e, hu0] at h; cases h; exact nt st)]; exact h
  have lm : s.k ≤ s.mark a n := by unfold S.mark; split <;> omega
  have hkl := m.kle
  refine ⟨fun i j hi hj e => m.inj i j (by simpa [S.put] using hi) (by simpa [S.put] using hj) e, fun i o' e => ?_, fun i o' e => ?_, ?_⟩
  · by_cases hi : i = a
    · subst hi
      have e' : o' = o := by
        have : (s.h.set i o)[i]? = some o' := e
        rw [List.getElem?_set_self hal] at this
        exact (Option.some.inj this).symm
      subst e'
      rw [upd_same]
      exact r.mono (n := o'.top) kp (fun _ _ => rfl) (Nat.le_refl _)
    · have e' : s.h[i]? = some o' := by
        have : (s.h.set a o)[i]? = some o' := e
        rw [List.getElem?_set_ne (Ne.symm hi)] at this
        exact this
      rw [upd_ne fun q => hi (m.inj i a (List.getElem?_eq_some_iff.mp e').1 hal q)]
      exact (m.obj i o' e').mono (n := o'.top) kp (fun _ _ => rfl) (Nat.le_refl _)
  · show o'.top ≤ max (i + 1) (s.mark a n)
    by_cases hi : i = a
    · subst hi
      have e' : o' = o := by
        have : (s.h.set i o)[i]? = some o' := e
        rw [List.getElem?_set_self hal] at this
        exact (Option.some.inj this).symm
      subst e'
      have h0 := m.wf i o₀ ha
      unfold S.mark
      split <;> omega
    · have e' : s.h[i]? = some o' := by
        have : (s.h.set a o)[i]? = some o' := e
        rw [List.getElem?_set_ne (Ne.symm hi)] at this
        exact this
      have h0 := m.wf i o' e'
      omega
  · show s.mark a n ≤ (s.h.set a o).length
    rw [List.length_set]
    unfold S.mark
    split <;> omega
theorem Post.put {α : Nat → Addr} {s : S} {H : Hp} {a n : Nat} {u : HO} {o : Ob} (hal : a < s.h.length) : Post α s H α (s.put a o n) (upd H (α a) u) where
  frame := fun b o h nb => by rw [upd_ne (fun e => nb a hal e.symm)]; exact h
  agree := fun _ _ => rfl
  len := by simp [S.put]
  fresh := fun i h1 h2 => by simp [S.put] at h2; omega
/-! ### what is wanted of an outcome -/
/-- an exception of ours, as it lies in the heap (none so far) -/
def ExRep (K : PySem.W.Frag) (H : Hp) (α : Nat → Addr) (e : Ex) (c : Value) (d : Option Addr) : Prop := False
def Out (K : PySem.W.Frag) (E : XK) (α : Nat → Addr) (s : S) (H : Hp) (Q : V → Hp → Prop) : R D → Prop
  | .ok d s' => ∀ α' v H', Sim K α' s' H' → Post α s H α' s' H' → RepD K H' α' d v → d.top ≤ s'.h.length → Q v H'
  | .exc e s' => ∀ α' H' c d, Sim K α' s' H' → Post α s H α' s' H' → ExRep K H' α' e c d → E c d H'
  | .bad => False
theorem Out.post {K : PySem.W.Frag} {E : XK} {α α1 : Nat → Addr} {s s1 : S} {H H1 : Hp} {Q : V → Hp → Prop} {r : R D} (m : Sim K α1 s1 H1) (p : Post α s H α1 s1 H1) (h : Out K E α s H Q r) : Out K E α1 s1 H1 Q r := by
  cases r with
  | ok d s' => exact fun α' v H' m' q r t => h α' v H' m' (p.trans m q) r t
  | exc e s' => exact fun α' H' c d m' q r => h α' H' c d m' (p.trans m q) r
  | bad => exact h
theorem Out.imp {K : PySem.W.Frag} {E : XK} {α : Nat → Addr} {s : S} {H : Hp} {Q Q' : V → Hp → Prop} {r : R D} (h : Out K E α s H Q r) (i : ∀ v H', Q v H' → Q' v H') : Out K E α s H Q' r := by
  cases r with
  | ok d s' => exact fun α' v H' m' q r t => i _ _ (h α' v H' m' q r t)
  | exc e s' => exact h
  | bad => exact h
/-- the plain way out: the state as it is -/
theorem Out.here {K : PySem.W.Frag} {E : XK} {α : Nat → Addr} {s : S} {H : Hp} {Q : V → Hp → Prop} {d : D} {v : V} (m : Sim K α s H) (h : Out K E α s H Q (.ok d s)) (r : RepD K H α d v) (t : d.top ≤ s.h.length) : Q v H := h α v H m .refl r t
end Dv
end

section
/-! De0 -/
/-! De0: new tuples, known as they were made: without a dict of their own. -/
namespace Dv
open PySem PySem.Spec PyProof.Rows
open L2 hiding It

/-- what is wanted of a tuple that was made -/
def FrT (Q : VK) (xs : List V) (H : Hp) : Prop := ∀ p o, o.dict = none → H p = none → Q (.ref p) (upd H p (.frz o (.tup xs)))
section
variable {X : Cx} {pins : List (Addr × Obj)} {σ : L2.St} {H : Hp} {s : Shared}
theorem push_tup {o : Obj} {its : List Value} {xs : List V} {n t : Nat} {Q : VK} (I : Inv X pins σ H s) (h1 : o.cls = .type "tuple") (h2 : o.data = .seq its.toArray n) (h3 : o.dict = none) (h4 : o.isFreed = false) (r : Vals xs its) (z : xs.length ≤ sizeLine) (q : FrT Q xs H) :
    ∃ v H', Inv X pins σ H' { s with heap := s.heap.push o, toks := t } ∧ RelV v (.ref s.heap.objs.size) ∧ Q v H' :=
  ⟨.ref s.heap.objs.size, _, I.laid (o := .frz o (.tup xs)) (t' := t) (fun _ _ e => Heap.get?_push_of_some _ e) (Nat.le_refl _) ⟨Heap.get?_push_size _ h4, z, its, r, o, Heap.get?_push_size _ h4, h1, n, h2⟩, rfl, q _ o h3 (I.hok.fresh (Nat.le_refl _))⟩
/-! ### (a, b, ..) -/
def tTupF (t : TA) : TE := fun σ H Q => t σ H fun xs H1 => xs.length ≤ sizeLine ∧ FrT Q xs H1
theorem pe_tupF {es : List Expr} {k} {pos : Pos} {t : TA} (h : PA X es t) : PE X (.Tuple es k pos) (tTupF t) :=
  ⟨fun pn st σ H Q I w => wpAny_Tuple_spliced (thn (h.run pos pn st σ H _ I w) fun us s1 ⟨xs, H1, I1, r, z, q⟩ => ⟨r.length ▸ z, push_tup I1 rfl rfl rfl rfl r z q⟩)⟩
/-! ### t + u -/
def rCatF (K : PySem.W.Frag) : R2 := fun x y H Q => ∃ a b xs ys, x = .ref a ∧ y = .ref b ∧ SqT K H a xs ∧ SqT K H b ys ∧ xs.length + ys.length ≤ sizeLine ∧ (xs = [] → Q (.ref b) H) ∧ (xs ≠ [] → ys = [] → Q (.ref a) H) ∧ (xs ≠ [] → ys ≠ [] → FrT Q (xs ++ ys) H)
theorem op_catF : OpR X (binaryOp .Add) (rCatF X.K) := by
  intro pn st σ H x y v u Q I rx ry ⟨a, b, xs, ys, ea, eb, ha, hb, hz, q0, q1, q2⟩
  subst ea eb
  cases rx
  cases ry
  obtain ⟨i1, r1, p1, _⟩ := I.tuple ha
  obtain ⟨i2, r2, p2, _⟩ := I.tuple hb
  by_cases hx : xs = []
  · subst hx
    cases r1
    exact cat_tup0 p1 p2 ⟨.ref b, H, I, rfl, q0 rfl⟩
  · exact HT.cat_tup p1 p2 (fun z => hx (r1.nil_iff.mp z)) (fun z => ⟨.ref a, H, I, rfl, q1 hx (r2.nil_iff.mp z)⟩)
      (fun z => push_tup I rfl rfl rfl rfl (r1.append r2) (by rw [List.length_append]; exact hz) (q2 hx fun w => z (r2.nil_iff.mpr w))) (by rw [← r1.length, ← r2.length]; exact hz)
/-! ### t[lo:hi] -/
def rSlF (K : PySem.W.Frag) : V → Option Int → Option Int → Hp → VK → Prop := fun x lo hi H Q => ∃ a xs, x = .ref a ∧ SqT K H a xs ∧ (HT.sIx xs.length 0 lo = 0 ∧ HT.sIx xs.length xs.length hi = xs.length → Q (.ref a) H) ∧
  (¬ (HT.sIx xs.length 0 lo = 0 ∧ HT.sIx xs.length xs.length hi = xs.length) → FrT Q (cutV xs lo hi) H)
theorem sl_tupF : SlR X (rSlF X.K) := by
  intro pn st σ H x v vl vu lo hi sl Q I rx hs pl pu ⟨a, xs, ea, hx, q1, q2⟩
  subst ea
  cases rx
  obtain ⟨its, r, ht, hz⟩ := I.tuple hx
  have hn : its.toArray.size = xs.length := by rw [List.size_toArray]; exact r.length.symm
  refine ⟨"tuple", _, PyProof.Rows.slot_tuple_getitem.lookup, ht.typeIs, ?_⟩
  by_cases hw : HT.sIx xs.length 0 lo = 0 ∧ HT.sIx xs.length xs.length hi = xs.length
  · exact getItem_tuple_whole ht hs pl pu (hn ▸ hw) ⟨.ref a, H, I, rfl, q1 hw⟩
  · exact HT.getItem_tuple_cut ht hs pl pu (hn ▸ hw) (hn ▸ push_tup I rfl rfl rfl rfl ((r.drop _).take _) (Nat.le_trans (cutV_length xs lo hi) hz) (q2 hw)) (hn ▸ hz)
/-! ### t * k -/
def rRepF (K : PySem.W.Frag) : R2 := fun x y H Q => ∃ l k xs, x = .ref l ∧ y = .int k ∧ SqT K H l xs ∧ xs ≠ [] ∧ 2 ≤ k ∧ k ≤ 1000 ∧ xs.length ≤ 1000 ∧ FrT Q (List.replicate k.toNat xs).flatten H
theorem op_repF : OpR X (binaryOp .Mult) (rRepF X.K) := by
  intro pn st σ H x y v u Q I rx ry ⟨l, k, xs, el, ek, hT, hne, k2, k1000, hz, q⟩
  subst el ek
  cases rx
  obtain ⟨t, et⟩ := ry
  subst et
  obtain ⟨its, r, ⟨⟨oc, od, odata, osl⟩, ho, hc, n, hd⟩, _⟩ := I.tuple hT
  obtain rfl : oc = .type "tuple" := hc
  obtain rfl : odata = .seq its.toArray n := hd
  have hl : its.length = xs.length := r.length.symm
  have hs : its.toArray.size = xs.length := by rw [List.size_toArray, hl]
  have he : its.toArray.isEmpty = false := by
    match its, hl with
    | [], hl => exact absurd (List.eq_nil_of_length_eq_zero hl.symm) hne
    | _ :: _, _ => rfl
  have bound : ((xs.length : Nat) : Int) * k ≤ 1000000 := by
    have := Int.mul_le_mul_of_nonneg_right (a := ((xs.length : Nat) : Int)) (b := 1000) (c := k) (by omega) (by omega)
    omega
  have fl : (List.replicate k.toNat its).flatten.length ≤ 1000000 := by
    rw [PyProof.Rows.lm_len_rep_flat, hl]
    exact (Nat.mul_le_mul (show k.toNat ≤ 1000 by omega) hz)
  have fl2 : (List.replicate k.toNat xs).flatten.length ≤ sizeLine := by
    rw [PyProof.Rows.lm_len_rep_flat, ← hl, ← PyProof.Rows.lm_len_rep_flat, sizeLine_eq]
    omega
  refine wpAny_binaryOp_repeat_ref (T := "tuple") (U := "int") (by decide) ⟨_, ho, rfl⟩ (fun z => typeIs_int z k t) noFill_tuple_mul F.fills_int_mul F.slot_int_rmul repeat_tuple F.slot_int_index.lookup (call_meets F.slot_int_rmul (typeIs_int st k t) F.entry_int_rmul (F.args_int_rmul_2 _ _) (int_rmul_tuple k t l its.toArray n od osl) ⟨ho, rfl, ⟨_, ho, rfl⟩,
    call_meets F.slot_tuple_mul ⟨_, ho, rfl⟩ F.entry_tuple_mul (F.args_tuple_mul_2 _ _) (tuple_mulW l its.toArray n od osl k t (by simp only [Bool.or_eq_false_iff, decide_eq_false_iff_not]; omega) (by rw [he, Bool.false_or]; exact beq_eq_false_iff_ne.mpr (by omega)) (by rw [he, Bool.or_false]; exact decide_eq_false (by omega)) (by rw [hs]; omega)
      (by unfold Builtin.Tuple.tupleTooMany; rw [sizeLine_eq, hs]; exact decide_eq_false (by omega)) (by rw [size_rep, List.size_toArray, sizeLine_eq]; omega)) ⟨ho, ?_⟩⟩)
  rw [size_rep]
  exact push_tup I rfl rfl rfl rfl (r.rep k.toNat) fl2 q
/-! ### tuple(x) -/
theorem call_tupleF : CallR X (.type "tuple") (fun xs H Q => ∃ p ys, xs = [.ref p] ∧ ((SqL X.K H p ys ∧ FrT Q ys H) ∨ (SqT X.K H p ys ∧ Q (.ref p) H))) := by
  intro pn st σ H xs us Q I r ⟨p, ys, ep, h⟩
  subst ep
  obtain ⟨u, eu, rx⟩ := vals1 r
  subst eu
  cases rx
  rcases h with ⟨hq, q⟩ | ⟨hq, q⟩
  · obtain ⟨its, rv, pl, hz⟩ := I.list hq
    refine call_tuple_list pl.isList (fun h2 kp => push_tup (I.kept (t' := st.toks) kp) rfl rfl rfl rfl rv hz q) ?_
    have := rv.length
    simp only [List.size_toArray]
    omega
  · obtain ⟨its, rv, pl, hz⟩ := I.tuple hq
    exact call_tuple_same pl ⟨.ref p, H, I, rfl, q⟩
end
end Dv
end

section
/-! Dv3 -/
/-! Dv3: operations on values keep what the evaluator says. -/
namespace Dv
open PySem PySem.Spec PyProof.Rows L2

section
variable {K : PySem.W.Frag} {H : Hp} {α : Nat → Addr} {g : Nat → Option PyData}
mutual
theorem RepD.dp (hg : ∀ i p, g i = some p → Dp K H (.ref (α i)) p) : ∀ (d : D) (v : V) (p : PyData), RepD K H α d v → d.py g = some p → Dp K H v p
  | .non, v, p, r, e => by rw [RepD] at r; rw [D.py] at e; cases e; subst r; exact .non
  | .bl b, v, p, r, e => by rw [RepD] at r; rw [D.py] at e; cases e; subst r; exact .bl b
  | .int i, v, p, r, e => by rw [RepD] at r; rw [D.py] at e; cases e; subst r; exact .int i
  | .str x, v, p, r, e => by rw [RepD] at r; rw [D.py] at e; cases e; obtain ⟨rfl, _⟩ := r; exact .str x
  | .tup xs, v, p, r, e => by
    rw [RepD] at r
    obtain ⟨a, vs, rfl, ta, r⟩ := r
    rw [D.py] at e
    cases q : D.pys g xs with
    | none => rw [q] at e; cases e
    | some ps =>
      rw [q] at e
      cases e
      exact .tup ta.sq (RepDs.dp hg xs vs ps r q)
  | .ref i, v, p, r, e => by rw [RepD] at r; rw [D.py] at e; subst r; exact hg i p e
  | .fn k, v, p, r, e => by rw [D.py] at e; cases e
  | .ro xs, v, p, r, e => by rw [D.py] at e; cases e
theorem RepDs.dp (hg : ∀ i p, g i = some p → Dp K H (.ref (α i)) p) : ∀ (ds : List D) (vs : List V) (ps : List PyData), RepDs K H α ds vs → D.pys g ds = some ps → DpAll K H vs ps
  | [], vs, ps, r, e => by rw [RepDs] at r; rw [D.pys] at e; cases e; subst r; exact .nil
  | d :: ds, vs, ps, r, e => by
    rw [RepDs] at r
    obtain ⟨v, w, rfl, r1, r2⟩ := r
    rw [D.pys] at e
    cases q1 : D.py g d with
    | none => rw [q1] at e; cases e
    | some a =>
      cases q2 : D.pys g ds with
      | none => rw [q1, q2] at e; cases e
      | some b =>
        rw [q1, q2] at e
        cases e
        exact .cons (RepD.dp hg d v a r1 q1) (RepDs.dp hg ds w b r2 q2)
end
theorem Sim.dph {s : S} (m : Sim K α s H) : ∀ (n i : Nat) (p : PyData), hpy s.h n i = some p → Dp K H (.ref (α i)) p
  | 0, _, _, e => by rw [hpy] at e; cases e
  | n + 1, i, p, e => by
    rw [hpy] at e
    cases q : s.h[i]? with
    | none => rw [q] at e; cases e
    | some o =>
      rw [q] at e
      have r := m.obj i o q
      cases o with
      | list xs =>
        obtain ⟨vs, hv, rr⟩ := r
        have e : (D.pys (hpy s.h n) xs).map PyData.list = some p := e
        cases q2 : D.pys (hpy s.h n) xs with
        | none => rw [q2] at e; cases e
        | some ps =>
          rw [q2] at e
          cases e
          exact .lst (SqL.of hv) (RepDs.dp (m.dph n) xs vs ps rr q2)
      | dict kvs => cases e
      | set xs => cases e
theorem Sim.dp {s : S} (m : Sim K α s H) {d : D} {v : V} {p : PyData} (r : RepD K H α d v) (e : s.py d = some p) : Dp K H v p := RepD.dp (m.dph 5) d v p r e
theorem Sim.dps {s : S} (m : Sim K α s H) {d : List D} {v : List V} {p : List PyData} (r : RepDs K H α d v) (e : s.pys d = some p) : DpAll K H v p := RepDs.dp (m.dph 5) d v p r e
theorem Sim.list {s : S} (m : Sim K α s H) {a : Nat} {xs : List D} (h : s.h[a]? = some (.list xs)) : ∃ vs, H (α a) = some (.lst vs) ∧ RepDs K H α xs vs := m.obj a _ h
theorem Sim.dict {s : S} (m : Sim K α s H) {a : Nat} {xs : List (Ke × D)} (h : s.h[a]? = some (.dict xs)) : ∃ vs, H (α a) = some (.dK vs) ∧ RepKv K H α xs vs := m.obj a _ h
end

/-- two values: what the evaluator's f makes of them -/
def rB (K : PySem.W.Frag) (E : XK) (f : D → D → S → R D) : R2 := fun v u H Q => ∃ α s x y, Sim K α s H ∧ RepD K H α x v ∧ RepD K H α y u ∧ x.top ≤ s.h.length ∧ y.top ≤ s.h.length ∧ Out K E α s H Q (f x y s)

section
variable {X : Cx} {E : XK}
theorem top_str {x : Str} {n : Nat} : (D.str x).top ≤ n := by simp [D.top]
theorem top_int {x : Int} {n : Nat} : (D.int x).top ≤ n := by simp [D.top]
theorem top_bl {x : Bool} {n : Nat} : (D.bl x).top ≤ n := by simp [D.top]
theorem len_append (a b : Str) : (a ++ b).length = a.length + b.length := by
  show (Str.append a b).cps.size = _
  simp [Str.append, Str.length]
theorem op_add_ok : OpR X (binaryOp .Add) (rB X.K E addD) := by
  intro pins st σ H v u vv uu Q I rv ru h
  obtain ⟨α, s, x, y, m, rx, ry, tx, ty, out⟩ := h
  unfold addD at out
  split at out
  · rename_i i j
    rw [RepD] at rx ry
    exact op_add pins st σ H v u vv uu Q I rv ru ⟨i, j, rx, ry, out.here m rfl top_int⟩
  · rename_i a b
    rw [RepD] at rx ry
    split at out
    · rename_i hz
      exact op_add_str pins st σ H v u vv uu Q I rv ru ⟨a, b, rx.1, ry.1, hz, out.here m ⟨rfl, by rw [len_append]; exact hz⟩ top_str⟩
    · exact out.elim
  · rename_i xs ys
    rw [RepD] at rx ry
    obtain ⟨a, vs, rfl, ta, r1⟩ := rx
    obtain ⟨b, ws, rfl, tb, r2⟩ := ry
    rw [D.top] at tx ty
    split at out
    · rename_i hz
      have tt : (D.tup (xs ++ ys)).top ≤ s.h.length := by rw [D.top, tops_append]; omega
      refine op_catF pins st σ H _ _ vv uu Q I rv ru ⟨a, b, vs, ws, rfl, rfl, ta.sq, tb.sq, by rw [r1.length, r2.length]; exact hz, fun e => ?_, fun e1 e2 => ?_, fun _ _ p o ho hp => ?_⟩
      · subst e
        have e2 : xs = [] := List.eq_nil_of_length_eq_zero (by rw [← r1.length]; rfl)
        subst e2
        exact out.here m ⟨b, ws, rfl, tb, r2⟩ tt
      · subst e2
        have e2 : ys = [] := List.eq_nil_of_length_eq_zero (by rw [← r2.length]; rfl)
        subst e2
        rw [List.append_nil] at out
        exact out.here m ⟨a, vs, rfl, ta, r1⟩ (by rw [D.top]; exact tx)
      · exact out α (.ref p) _ (m.aside hp) (.aside hp) ⟨p, _, rfl, .inl ⟨_, upd_same, ho⟩, ((Post.aside hp).reps m tx r1).append ((Post.aside hp).reps m ty r2)⟩ tt
    · exact out.elim
  · rename_i a b
    split at out
    · rename_i xs ys ha hb
      split at out
      · rename_i hz
        rw [RepD] at rx ry
        subst rx ry
        obtain ⟨vs, hv, r1⟩ := m.list ha
        obtain ⟨ws, hw, r2⟩ := m.list hb
        refine op_cat pins st σ H _ _ vv uu Q I rv ru ⟨_, _, vs, ws, rfl, rfl, hv, hw, by rw [r1.length, r2.length]; exact hz, fun p hp => ?_⟩
        have t1 := m.top ha
        have t2 := m.top hb
        have tt : (Ob.list (xs ++ ys)).top ≤ s.h.length := by
          show D.tops _ ≤ _
          rw [tops_append]
          have t1 : D.tops xs ≤ s.h.length := t1
          have t2 : D.tops ys ≤ s.h.length := t2
          omega
        exact out _ (.ref p) _ (m.new hp tt ⟨_, rfl, r1.append r2⟩) (Post.new m hp) (by rw [RepD, ext_self]) (by simp [D.top])
      · exact out.elim
    · exact out.elim
  · exact out.elim
theorem op_sub_ok : OpR X (binaryOp .Sub) (rB X.K E subD) := by
  intro pins st σ H v u vv uu Q I rv ru h
  obtain ⟨α, s, x, y, m, rx, ry, tx, ty, out⟩ := h
  unfold subD at out
  split at out
  · rename_i i j
    rw [RepD] at rx ry
    exact op_sub pins st σ H v u vv uu Q I rv ru ⟨i, j, rx, ry, out.here m rfl top_int⟩
  · exact out.elim
theorem op_mod_ok : OpR X (binaryOp .Mod) (rB X.K E modD) := by
  intro pins st σ H v u vv uu Q I rv ru h
  obtain ⟨α, s, x, y, m, rx, ry, tx, ty, out⟩ := h
  unfold modD at out
  split at out
  · rename_i i j
    rw [RepD] at rx ry
    split at out
    · rename_i hj
      exact op_mod pins st σ H v u vv uu Q I rv ru ⟨i, j, rx, ry, hj, out.here m rfl top_int⟩
    · exact out.elim
  · exact out.elim
theorem op_fdiv_ok : OpR X (binaryOp .FloorDiv) (rB X.K E fdivD) := by
  intro pins st σ H v u vv uu Q I rv ru h
  obtain ⟨α, s, x, y, m, rx, ry, tx, ty, out⟩ := h
  unfold fdivD at out
  split at out
  · rename_i i j
    rw [RepD] at rx ry
    split at out
    · rename_i hj
      exact op_fdiv pins st σ H v u vv uu Q I rv ru ⟨i, j, rx, ry, hj, out.here m rfl top_int⟩
    · exact out.elim
  · exact out.elim
theorem op_pow_ok : OpR X (binaryOp .Pow) (rB X.K E powD) := by
  intro pins st σ H v u vv uu Q I rv ru h
  obtain ⟨α, s, x, y, m, rx, ry, tx, ty, out⟩ := h
  unfold powD at out
  split at out
  · rename_i i j
    rw [RepD] at rx ry
    split at out
    · rename_i hj
      unfold two64 at hj
      exact op_pow pins st σ H v u vv uu Q I rv ru ⟨i, j, rx, ry, ⟨hj.1, by omega, by omega⟩, out.here m rfl top_int⟩
    · exact out.elim
  · exact out.elim
theorem tops_flat : ∀ (k : Nat) (xs : List D), D.tops (List.replicate k xs).flatten ≤ D.tops xs := fun k xs => tops_sub fun x hx => by
  obtain ⟨l, hl, hx⟩ := List.mem_flatten.mp hx
  rw [(List.mem_replicate.mp hl).2] at hx
  exact hx
theorem RepDs.flat {K : PySem.W.Frag} {H : Hp} {α : Nat → Addr} {xs : List D} {vs : List V} (r : RepDs K H α xs vs) : ∀ k : Nat, RepDs K H α (List.replicate k xs).flatten (List.replicate k vs).flatten
  | 0 => rfl
  | k + 1 => by
    rw [List.replicate_succ, List.replicate_succ, List.flatten_cons, List.flatten_cons]
    exact r.append (RepDs.flat r k)
theorem op_mul_ok : OpR X (binaryOp .Mult) (rB X.K E mulD) := by
  intro pins st σ H v u vv uu Q I rv ru h
  obtain ⟨α, s, x, y, m, rx, ry, tx, ty, out⟩ := h
  unfold mulD at out
  split at out
  · rename_i i j
    rw [RepD] at rx ry
    split at out
    · rename_i hj
      unfold two64 at hj
      exact op_mul pins st σ H v u vv uu Q I rv ru ⟨i, j, rx, ry, by unfold CMul; omega, out.here m rfl top_int⟩
    · exact out.elim
  · rename_i xs k
    simp only [RepD] at rx ry
    obtain ⟨a, vs, rfl, ta, r1⟩ := rx
    subst ry
    rw [D.top] at tx
    split at out
    · rename_i hz
      obtain ⟨h1, h2, h3, h4⟩ := hz
      refine op_repF pins st σ H _ _ vv uu Q I rv ru ⟨a, k, vs, rfl, rfl, ta.sq, fun e => h1 (List.eq_nil_of_length_eq_zero (by rw [← r1.length, e]; rfl)), h2, h3, by rw [r1.length]; exact h4, fun p o ho hp => ?_⟩
      exact out α (.ref p) _ (m.aside hp) (.aside hp) ⟨p, _, rfl, .inl ⟨_, upd_same, ho⟩, ((Post.aside hp).reps m tx r1).flat _⟩ (by rw [D.top]; exact Nat.le_trans (tops_flat _ _) tx)
    · exact out.elim
  · rename_i a k
    simp only [RepD] at rx ry
    subst rx ry
    split at out
    · rename_i xs e
      obtain ⟨vs, hv, rr⟩ := m.list e
      split at out
      · rename_i hz
        obtain ⟨h1, h2, h3, h4⟩ := hz
        have tl : D.tops xs ≤ s.h.length := by have := m.top e; rwa [Ob.top] at this
        refine op_rep pins st σ H _ _ vv uu Q I rv ru ⟨_, k, vs, rfl, rfl, hv, by omega, by omega, ?_, fun q hq => ?_⟩
        · rw [rr.length, sizeLine_eq]
          have : xs.length * k.toNat ≤ 1000 * 1000 := Nat.mul_le_mul h3 (by omega)
          omega
        · exact out _ (.ref q) _ (m.new hq (Nat.le_trans (tops_flat _ _) tl) ⟨_, rfl, rr.flat _⟩) (Post.new m hq) (by rw [RepD, ext_self]) (by simp [D.top])
      · exact out.elim
    · exact out.elim
  · exact out.elim
/-- the operators' names in the model -/
def BO.op : BO → Operator
  | .add => .Add | .sub => .Sub | .mul => .Mult | .mod => .Mod | .fdiv => .FloorDiv | .pow => .Pow
theorem op_ok (o : BO) : OpR X (binaryOp o.op) (rB X.K E (binop o)) := by
  cases o with
  | add => exact op_add_ok
  | sub => exact op_sub_ok
  | mul => exact op_mul_ok
  | mod => exact op_mod_ok
  | fdiv => exact op_fdiv_ok
  | pow => exact op_pow_ok
end
end Dv
end

section
/-! Dv4 -/
/-! Dv4: comparisons, subscripts, stores. -/
namespace Dv
open PySem PySem.Spec PyProof.Rows L2

section
variable {K : PySem.W.Frag} {H : Hp} {α : Nat → Addr}
theorem RepKv.get : ∀ {kvs : List (Ke × D)} {ws : List (Key × V)} (k : Ke), RepKv K H α kvs ws → match kget kvs k with
    | some d => ∃ v, valV ws k = some v ∧ RepD K H α d v ∧ d.top ≤ topKv kvs
    | none => valV ws k = none
  | [], ws, k, h => by rw [RepKv] at h; subst h; rfl
  | p :: r, ws, k, h => by
    rw [RepKv] at h
    obtain ⟨v, w, rfl, h1, h2⟩ := h
    have ih := RepKv.get k h2
    unfold kget at ih ⊢
    rw [List.find?_cons]
    by_cases e : p.1 = k
    · rw [decide_eq_true e]
      simp only [Option.map_some]
      exact ⟨v, valV_pos e, h1, by rw [topKv]; omega⟩
    · rw [decide_eq_false e]
      simp only
      rw [valV_neg (p := (p.1, v)) e]
      revert ih
      cases (r.find? fun p => decide (p.1 = k)).map (·.2) with
      | none => exact id
      | some d => rintro ⟨v', a, b, c⟩; exact ⟨v', a, b, by rw [topKv]; omega⟩
theorem RepKv.keys : ∀ {kvs : List (Ke × D)} {ws : List (Key × V)}, RepKv K H α kvs ws → ws.map (·.1) = kvs.map (·.1)
  | [], ws, h => by rw [RepKv] at h; subst h; rfl
  | p :: r, ws, h => by
    rw [RepKv] at h
    obtain ⟨v, w, rfl, h1, h2⟩ := h
    simp [RepKv.keys h2]
theorem RepKv.any {kvs : List (Ke × D)} {ws : List (Key × V)} (h : RepKv K H α kvs ws) (k : Ke) : (ws.any fun kv => decide (kv.1 = k)) = kvs.any fun p => decide (p.1 = k) := by
  have e : ∀ {β : Type} (l : List (Ke × β)), (l.any fun p => decide (p.1 = k)) = (l.map (·.1)).any fun x => decide (x = k) := fun l => by rw [List.any_map]; rfl
  rw [e, e, h.keys]
theorem RepKv.map : ∀ {kvs : List (Ke × D)} {ws : List (Key × V)} {k : Ke} {d : D} {v : V}, RepKv K H α kvs ws → RepD K H α d v →
    RepKv K H α (kvs.map fun p => if p.1 = k then (p.1, d) else p) (ws.map fun kv => if kv.1 = k then (kv.1, v) else kv)
  | [], ws, k, d, v, h, r => by rw [RepKv] at h; subst h; rfl
  | p :: q, ws, k, d, v, h, r => by
    rw [RepKv] at h
    obtain ⟨v', w, rfl, h1, h2⟩ := h
    have ih := RepKv.map (k := k) h2 r
    by_cases e : p.1 = k
    · simp only [List.map_cons, if_pos e]
      exact ⟨v, _, rfl, r, ih⟩
    · simp only [List.map_cons, if_neg e]
      exact ⟨v', _, rfl, h1, ih⟩
theorem RepKv.append : ∀ {kvs kvs' : List (Ke × D)} {ws ws' : List (Key × V)}, RepKv K H α kvs ws → RepKv K H α kvs' ws' → RepKv K H α (kvs ++ kvs') (ws ++ ws')
  | [], _, ws, _, h, h' => by rw [RepKv] at h; subst h; exact h'
  | p :: q, _, ws, _, h, h' => by
    rw [RepKv] at h
    obtain ⟨v', w, rfl, h1, h2⟩ := h
    exact ⟨v', _, rfl, h1, RepKv.append h2 h'⟩
theorem RepKv.put {kvs : List (Ke × D)} {ws : List (Key × V)} {k : Ke} {d : D} {v : V} (h : RepKv K H α kvs ws) (r : RepD K H α d v) : RepKv K H α (kput kvs k d) (putK ws k v) := by
  unfold kput putK
  rw [h.any k]
  split
  · exact h.map r
  · exact h.append ⟨v, [], rfl, r, rfl⟩
theorem topKv_append : ∀ a b : List (Ke × D), topKv (a ++ b) = max (topKv a) (topKv b)
  | [], b => by simp [topKv]
  | p :: a, b => by simp [topKv, topKv_append a b, Nat.max_assoc]
theorem topKv_put (kvs : List (Ke × D)) (k : Ke) (d : D) : topKv (kput kvs k d) ≤ max (topKv kvs) d.top := by
  unfold kput
  split
  · have e : ∀ l : List (Ke × D), topKv (l.map fun p => if p.1 = k then (p.1, d) else p) ≤ max (topKv l) d.top := fun l => by
      induction l with
      | nil => simp [topKv]
      | cons p r ih =>
        rw [List.map_cons]
        split <;> simp only [topKv] <;> omega
    exact e kvs
  · rw [topKv_append]
    simp [topKv]
theorem RepKv.length {kvs : List (Ke × D)} {ws : List (Key × V)} (h : RepKv K H α kvs ws) : ws.length = kvs.length := by
  have := congrArg List.length h.keys
  simpa using this
theorem key_kV {d : D} {k : Ke} {v : V} (e : key? d = some k) (r : RepD K H α d v) : v = kV k := by
  cases d with
  | int i => cases e; rw [RepD] at r; exact r
  | str x => cases e; rw [RepD] at r; exact r.1
  | _ => cases e
end

section
variable {X : Cx} {E : XK}
theorem fin_of {f : Bool} {α : Nat → Addr} {s : S} {H : Hp} {Q : V → Hp → Prop} (m : Sim X.K α s H) (out : Out X.K E α s H Q (.ok (.bl f) s)) : Q (.bl f) H := out.here m rfl top_bl
theorem cmpR_out {o : CO} {α : Nat → Addr} {s : S} {H : Hp} {Q : V → Hp → Prop} {x y : D} (m : Sim X.K α s H) (out : Out X.K E α s H Q (cmpR o x y s)) : ∃ b, cmpop o x y s = some b ∧ Q (.bl b) H := by
  unfold cmpR at out
  cases e : cmpop o x y s with
  | none => rw [e] at out; exact out.elim
  | some b => rw [e] at out; exact ⟨b, rfl, fin_of m out⟩
theorem eqD_out {x y : D} {s : S} {b : Bool} {α : Nat → Addr} {H : Hp} {v u : V} {K : PySem.W.Frag} (m : Sim K α s H) (rx : RepD K H α x v) (ry : RepD K H α y u) (e : eqD x y s = some b) :
    ∃ p q, Dp K H v p ∧ Dp K H u q ∧ SeqAt.shaped p = true ∧ SeqAt.shaped q = true ∧ b = PyData.eqv p q := by
  unfold eqD at e
  split at e
  · rename_i p q hp hq
    split at e
    · rename_i hs
      cases e
      exact ⟨p, q, m.dp rx hp, m.dp ry hq, hs.1, hs.2, rfl⟩
    · cases e
  · cases e
theorem ltD_out {x y : D} {s : S} {b : Bool} {α : Nat → Addr} {H : Hp} {v u : V} {K : PySem.W.Frag} (m : Sim K α s H) (rx : RepD K H α x v) (ry : RepD K H α y u) (e : ltD x y s = some b) :
    ∃ p q, Dp K H v p ∧ Dp K H u q ∧ PySem.W.alike p q = true ∧ p ≠ .none ∧ p.depth ≤ 64 ∧ q.depth ≤ 64 ∧ b = PySem.W.dataLt p q := by
  unfold ltD at e
  split at e
  · rename_i p q hp hq
    split at e
    · rename_i hs
      cases e
      have hd : ∀ {p : PyData}, SeqAt.shaped p = true → p.depth ≤ 64 := fun {p} h => by
        unfold SeqAt.shaped at h
        simp only [Bool.and_eq_true, decide_eq_true_eq] at h
        exact h.2
      have hn : p ≠ .none := by
        rintro rfl
        exact absurd hs.2.1 (by decide)
      exact ⟨p, q, m.dp rx hp, m.dp ry hq, hs.1, hn, hd hs.2.2.1, hd hs.2.2.2, rfl⟩
    · cases e
  · cases e
theorem map_not {o : Option Bool} {b : Bool} (h : o.map (!·) = some b) : o = some (!b) := by
  cases o with
  | none => cases h
  | some c => simp only [Option.map_some, Option.some.injEq] at h; rw [← h, Bool.not_not]

theorem op_eq_ok (hu : X.A.units + 150 < cLine) : OpR X (compareOp .Eq) (rB X.K E (cmpR .eq)) := by
  intro pins st σ H v u vv uu Q I rv ru h
  obtain ⟨α, s, x, y, m, rx, ry, tx, ty, out⟩ := h
  obtain ⟨b, e, q⟩ := cmpR_out m out
  obtain ⟨p, r, d1, d2, s1, s2, rfl⟩ := eqD_out m rx ry e
  exact op_eqD (by omega) pins st σ H v u vv uu Q I rv ru ⟨p, r, d1, d2, s1, s2, q⟩
theorem op_ne_ok (hu : X.A.units + 150 < cLine) : OpR X (compareOp .NotEq) (rB X.K E (cmpR .ne)) := by
  intro pins st σ H v u vv uu Q I rv ru h
  obtain ⟨α, s, x, y, m, rx, ry, tx, ty, out⟩ := h
  obtain ⟨b, e, q⟩ := cmpR_out m out
  obtain ⟨p, r, d1, d2, s1, s2, e⟩ := eqD_out m rx ry (map_not e)
  exact op_neD (by omega) pins st σ H v u vv uu Q I rv ru ⟨p, r, d1, d2, s1, s2, by rw [← e, Bool.not_not]; exact q⟩
theorem op_lt_ok (hu : X.A.units + 150 < cLine) : OpR X (compareOp .Lt) (rB X.K E (cmpR .lt)) := by
  intro pins st σ H v u vv uu Q I rv ru h
  obtain ⟨α, s, x, y, m, rx, ry, tx, ty, out⟩ := h
  obtain ⟨b, e, q⟩ := cmpR_out m out
  obtain ⟨p, r, d1, d2, a, n, h1, h2, rfl⟩ := ltD_out m rx ry e
  obtain ⟨as, r1⟩ := Dp.reads I p v vv d1 rv
  obtain ⟨bs, r2⟩ := Dp.reads I r u uu d2 ru
  exact PySem.W.lt_data r1 r2 a n (by omega) ⟨.bl _, H, I, rfl, q⟩
theorem op_gt_ok (hu : X.A.units + 150 < cLine) : OpR X (compareOp .Gt) (rB X.K E (cmpR .gt)) := by
  intro pins st σ H v u vv uu Q I rv ru h
  obtain ⟨α, s, x, y, m, rx, ry, tx, ty, out⟩ := h
  obtain ⟨b, e, q⟩ := cmpR_out m out
  obtain ⟨p, r, d1, d2, a, n, h1, h2, rfl⟩ := ltD_out m ry rx e
  obtain ⟨as, r1⟩ := Dp.reads I p u uu d1 ru
  obtain ⟨bs, r2⟩ := Dp.reads I r v vv d2 rv
  exact PySem.W.gt_data r2 r1 (by rw [PySem.W.alike_comm]; exact a) (PySem.W.ne_none_both a n) (by omega) ⟨.bl _, H, I, rfl, q⟩
theorem op_le_ok (hu : X.A.units + 150 < cLine) : OpR X (compareOp .LtE) (rB X.K E (cmpR .le)) := by
  intro pins st σ H v u vv uu Q I rv ru h
  obtain ⟨α, s, x, y, m, rx, ry, tx, ty, out⟩ := h
  obtain ⟨b, e, q⟩ := cmpR_out m out
  obtain ⟨p, r, d1, d2, a, n, h1, h2, e⟩ := ltD_out m ry rx (map_not e)
  obtain ⟨as, r1⟩ := Dp.reads I p u uu d1 ru
  obtain ⟨bs, r2⟩ := Dp.reads I r v vv d2 rv
  refine PySem.W.le_data r2 r1 (by rw [PySem.W.alike_comm]; exact a) (PySem.W.ne_none_both a n) (by omega) ⟨.bl _, H, I, rfl, ?_⟩
  rw [← e, Bool.not_not]; exact q
theorem op_ge_ok (hu : X.A.units + 150 < cLine) : OpR X (compareOp .GtE) (rB X.K E (cmpR .ge)) := by
  intro pins st σ H v u vv uu Q I rv ru h
  obtain ⟨α, s, x, y, m, rx, ry, tx, ty, out⟩ := h
  obtain ⟨b, e, q⟩ := cmpR_out m out
  obtain ⟨p, r, d1, d2, a, n, h1, h2, e⟩ := ltD_out m rx ry (map_not e)
  obtain ⟨as, r1⟩ := Dp.reads I p v vv d1 rv
  obtain ⟨bs, r2⟩ := Dp.reads I r u uu d2 ru
  refine PySem.W.ge_data r1 r2 a n (by omega) ⟨.bl _, H, I, rfl, ?_⟩
  rw [← e, Bool.not_not]; exact q
end
end Dv
end

section
/-! Dv5 -/
/-! Dv5: in, is, subscripts, stores. -/
namespace Dv
open PySem PySem.Spec PyProof.Rows L2

section
variable {X : Cx} {E : XK}
theorem str_one {x : Str} {c : Nat} (h : x.cps.toList = [c]) : x = ⟨#[c]⟩ := by
  obtain ⟨a⟩ := x
  have h : a.toList = [c] := h
  have : a = #[c] := by
    apply Array.toList_inj.mp
    rw [h]
  rw [this]
theorem inD_out {x y : D} {s : S} {b : Bool} {α : Nat → Addr} {H : Hp} {v u : V} {K : PySem.W.Frag} (m : Sim K α s H) (rx : RepD K H α x v) (ry : RepD K H α y u) (e : inD x y s = some b) :
    (∃ a z, v = .str a ∧ u = .str z ∧ b = strIn a z) ∨
    (∃ d ds, Dp K H v d ∧ (Dp K H u (.list ds) ∨ Dp K H u (.tuple ds)) ∧ SeqAt.shaped d = true ∧ SeqAt.shaped (.list ds) = true ∧ b = ds.any fun z => PyData.eqv z d) ∨
    ∃ a ws k, u = .ref a ∧ H a = some (.dK ws) ∧ v = kV k ∧ b = (valV ws k).isSome := by
  have all : ∀ {p : PyData} {ps : List PyData}, inAll p ps = some b → SeqAt.shaped p = true ∧ SeqAt.shaped (.list ps) = true ∧ b = ps.any fun z => PyData.eqv z p := fun {p ps} h => by
    unfold inAll at h
    split at h
    · rename_i hs; cases h; exact ⟨hs.1, hs.2, rfl⟩
    · cases h
  unfold inD at e
  split at e
  · rename_i z
    split at e
    · rename_i a
      cases e
      rw [RepD] at rx ry
      exact .inl ⟨a, z, rx.1, ry.1, rfl⟩
    · cases e
  · rename_i ys
    split at e
    · rename_i p ps hp hps
      obtain ⟨h1, h2, h3⟩ := all e
      refine .inr (.inl ⟨p, ps, m.dp rx hp, .inr (m.dp ry ?_), h1, h2, h3⟩)
      unfold S.py
      rw [D.py]
      have hps : D.pys (hpy s.h 5) ys = some ps := hps
      rw [hps]
      rfl
    · cases e
  · rename_i i
    rw [RepD] at ry
    subst ry
    split at e
    · rename_i ys hy
      split at e
      · rename_i p ps hp hps
        obtain ⟨h1, h2, h3⟩ := all e
        obtain ⟨vs, hv, r⟩ := m.list hy
        exact .inr (.inl ⟨p, ps, m.dp rx hp, .inl (.lst (SqL.of hv) (m.dps r hps)), h1, h2, h3⟩)
      · cases e
    · rename_i kvs hy
      obtain ⟨ws, hw, r⟩ := m.dict hy
      cases hk : key? x with
      | none => rw [hk] at e; cases e
      | some k =>
        rw [hk] at e
        cases e
        refine .inr (.inr ⟨_, ws, k, rfl, hw, key_kV hk rx, ?_⟩)
        have g := r.get k
        cases q : kget kvs k with
        | none => rw [q] at g; rw [show valV ws k = none from g]; simp [q]
        | some d => rw [q] at g; obtain ⟨w, hw, _⟩ := g; rw [hw]; simp [q]
    · cases e
  · cases e
theorem op_in_ok (hu : X.A.units + 150 < cLine) : OpR X (compareOp .In) (rB X.K E (cmpR .in_)) := by
  intro pins st σ H v u vv uu Q I rv ru h
  obtain ⟨α, s, x, y, m, rx, ry, tx, ty, out⟩ := h
  obtain ⟨b, e, q⟩ := cmpR_out m out
  rcases inD_out m rx ry e with ⟨a, z, rfl, rfl, rfl⟩ | ⟨d, ds, d1, d2, s1, s2, rfl⟩ | ⟨a, ws, k, rfl, hw, rfl, rfl⟩
  · unfold strIn at q
    split at q
    · rename_i c hc
      exact op_in_sign pins st σ H _ _ vv uu Q I rv ru ⟨c, z, by rw [str_one hc], rfl, q⟩
    · exact op_in_str pins st σ H _ _ vv uu Q I rv ru ⟨a, z, rfl, rfl, q⟩
  · rcases d2 with d2 | d2
    · exact op_inD (by omega) pins st σ H v u vv uu Q I rv ru ⟨d, ds, d1, d2, s1, s2, q⟩
    · obtain ⟨as, r1⟩ := Dp.reads I d v vv d1 rv
      obtain ⟨bs, r2⟩ := Dp.reads I (.tuple ds) u uu d2 ru
      exact SeqAt.in_tuple_reads r2 r1 (SeqAt.canLay_of_shaped s2) (SeqAt.canLay_of_shaped s1) (room_in_shaped s1 (by omega)) ⟨.bl _, H, I, rfl, q⟩
  · cases ru
    exact d_in (by omega) I (DGet.k hw) rv fun s' I' => ⟨.bl _, H, I', rfl, q⟩
theorem op_nin_ok (hu : X.A.units + 150 < cLine) : OpR X (compareOp .NotIn) (rB X.K E (cmpR .nin)) := by
  intro pins st σ H v u vv uu Q I rv ru h
  obtain ⟨α, s, x, y, m, rx, ry, tx, ty, out⟩ := h
  obtain ⟨b, e, q⟩ := cmpR_out m out
  have e := map_not e
  have q : Q (.bl (!(!b))) H := by rw [Bool.not_not]; exact q
  generalize (!b) = b at e q
  rcases inD_out m rx ry e with ⟨a, z, rfl, rfl, rfl⟩ | ⟨d, ds, d1, d2, s1, s2, rfl⟩ | ⟨a, ws, k, rfl, hw, rfl, rfl⟩
  · unfold strIn at q
    split at q
    · rename_i c hc
      exact op_notIn_sign pins st σ H _ _ vv uu Q I rv ru ⟨c, z, by rw [str_one hc], rfl, q⟩
    · exact op_notin_str pins st σ H _ _ vv uu Q I rv ru ⟨a, z, rfl, rfl, q⟩
  · rcases d2 with d2 | d2
    · exact op_notInD (by omega) pins st σ H v u vv uu Q I rv ru ⟨d, ds, d1, d2, s1, s2, q⟩
    · obtain ⟨as, r1⟩ := Dp.reads I d v vv d1 rv
      obtain ⟨bs, r2⟩ := Dp.reads I (.tuple ds) u uu d2 ru
      exact SeqAt.notIn_tuple_reads r2 r1 (SeqAt.canLay_of_shaped s2) (SeqAt.canLay_of_shaped s1) (room_in_shaped s1 (by omega)) ⟨.bl _, H, I, rfl, q⟩
  · cases ru
    exact d_notIn (by omega) I (DGet.k hw) rv fun s' I' => ⟨.bl _, H, I', rfl, q⟩
theorem isD_out {x y : D} {b : Bool} {α : Nat → Addr} {H : Hp} {v u : V} {K : PySem.W.Frag} (rx : RepD K H α x v) (ry : RepD K H α y u) (e : isD x y = some b) :
    (∃ i j, v = .bl i ∧ u = .bl j ∧ b = decide (i = j)) ∨ (u = .non ∧ b = decide (v = .non)) := by
  cases y with
  | non =>
    simp only [RepD] at ry
    refine .inr ⟨ry, ?_⟩
    cases x with
    | non => cases e; simp only [RepD] at rx; rw [rx]; rfl
    | fn _ => simp only [RepD] at rx
    | tup _ => cases e; simp only [RepD] at rx; obtain ⟨_, _, q, _⟩ := rx; rw [q]; rfl
    | ro _ => cases e; simp only [RepD] at rx; obtain ⟨_, _, q, _⟩ := rx; rw [q]; rfl
    | str _ => cases e; simp only [RepD] at rx; rw [rx.1]; rfl
    | _ => cases e; simp only [RepD] at rx; rw [rx]; rfl
  | bl j =>
    cases x with
    | bl i => cases e; simp only [RepD] at rx ry; exact .inl ⟨_, _, rx, ry, rfl⟩
    | _ => cases e
  | _ => cases x <;> cases e
theorem op_is_ok : OpR X (compareOp .Is) (rB X.K E (cmpR .is_)) := by
  intro pins st σ H v u vv uu Q I rv ru h
  obtain ⟨α, s, x, y, m, rx, ry, tx, ty, out⟩ := h
  obtain ⟨b, e, q⟩ := cmpR_out m out
  rcases isD_out rx ry e with ⟨i, j, rfl, rfl, rfl⟩ | ⟨rfl, rfl⟩
  · exact op_isBl pins st σ H _ _ vv uu Q I rv ru ⟨i, j, rfl, rfl, q⟩
  · exact op_isN pins st σ H _ _ vv uu Q I rv ru ⟨rfl, q⟩
theorem op_isn_ok : OpR X (compareOp .IsNot) (rB X.K E (cmpR .isn)) := by
  intro pins st σ H v u vv uu Q I rv ru h
  obtain ⟨α, s, x, y, m, rx, ry, tx, ty, out⟩ := h
  obtain ⟨b, e, q⟩ := cmpR_out m out
  have e := map_not e
  have q : Q (.bl (!(!b))) H := by rw [Bool.not_not]; exact q
  generalize (!b) = b at e q
  rcases isD_out rx ry e with ⟨i, j, rfl, rfl, rfl⟩ | ⟨rfl, rfl⟩
  · exact op_notBl pins st σ H _ _ vv uu Q I rv ru ⟨i, j, rfl, rfl, q⟩
  · exact op_notN pins st σ H _ _ vv uu Q I rv ru ⟨rfl, q⟩
def CO.op : CO → CmpOp
  | .eq => .Eq | .ne => .NotEq | .lt => .Lt | .le => .LtE | .gt => .Gt | .ge => .GtE | .in_ => .In | .nin => .NotIn | .is_ => .Is | .isn => .IsNot
theorem cmp_ok (hu : X.A.units + 150 < cLine) (o : CO) : OpR X (compareOp o.op) (rB X.K E (cmpR o)) := by
  cases o with
  | eq => exact op_eq_ok hu
  | ne => exact op_ne_ok hu
  | lt => exact op_lt_ok hu
  | le => exact op_le_ok hu
  | gt => exact op_gt_ok hu
  | ge => exact op_ge_ok hu
  | in_ => exact op_in_ok hu
  | nin => exact op_nin_ok hu
  | is_ => exact op_is_ok
  | isn => exact op_isn_ok

/-! ### subscripts -/
theorem atI_rep {K : PySem.W.Frag} {H : Hp} {α : Nat → Addr} {xs : List D} {vs : List V} {i : Int} {d : D} (r : RepDs K H α xs vs) (e : atI xs i = some d) : ∃ v, atI vs i = some v ∧ RepD K H α d v ∧ d.top ≤ D.tops xs := by
  unfold atI at e ⊢
  rw [r.length]
  cases q : ixN xs.length i with
  | none => rw [q] at e; cases e
  | some j =>
    rw [q] at e
    have e : xs[j]? = some d := e
    obtain ⟨v, hv, rv⟩ := r.get e
    exact ⟨v, hv, rv, top_mem (List.mem_of_getElem? e)⟩
theorem ix_dict (hu : X.A.units + 150 < cLine) : IxR X (fun x y H Q => ∃ a v, x = .ref a ∧ DGet H a y (some v) ∧ Q v H) := by
  intro value slice pins s σ H x y v u Q I rx ry h hs
  obtain ⟨a, w, rfl, g, q⟩ := h
  cases rx
  exact tail_any (dict_typeIs I g) PySem.F.slot_dict_getitem.lookup (d_getItem (by omega) I g ry fun w' s3 I3 rw' => ⟨w, H, I3, rw', q⟩) hs
theorem ix_ok (hu : X.A.units + 150 < cLine) : IxR X (rB X.K E idxR) := by
  intro value slice pins st σ H v u vv uu Q I rv ru h hs
  obtain ⟨α, s, x, y, m, rx, ry, tx, ty, out⟩ := h
  unfold idxR at out
  cases e : idx x y s with
  | none => rw [e] at out; exact out.elim
  | some d =>
    rw [e] at out
    unfold idx at e
    split at e
    · rename_i xs k
      simp only [RepD] at rx ry
      obtain ⟨a, vs, rfl, ta, r⟩ := rx
      obtain ⟨w, hw, rw', tw⟩ := atI_rep r e
      rw [D.top] at tx
      exact ix_tup value slice pins st σ H _ _ vv uu Q I rv ru ⟨a, vs, k, w, rfl, ry, ta.sq, hw, out.here m rw' (Nat.le_trans tw tx)⟩ hs
    · rename_i z k
      simp only [RepD] at rx ry
      cases q : atI z.cps.toList k with
      | none => rw [q] at e; cases e
      | some c =>
        rw [q] at e
        cases e
        refine ix_str value slice pins st σ H _ _ vv uu Q I rv ru ⟨z, k, c, rx.1, ry, rx.2, q, out.here m ⟨rfl, ?_⟩ top_str⟩ hs
        show 1 ≤ sizeLine
        decide
    · rename_i a
      rw [RepD] at rx
      subst rx
      split at e
      · rename_i xs ha
        split at e
        · rename_i k
          simp only [RepD] at ry
          obtain ⟨vs, hv, r⟩ := m.list ha
          obtain ⟨w, hw, rw', tw⟩ := atI_rep r e
          have tt : D.tops xs ≤ s.h.length := m.top ha
          exact ix_list value slice pins st σ H _ _ vv uu Q I rv ru ⟨_, vs, k, w, rfl, ry, SqL.of hv, hw, out.here m rw' (Nat.le_trans tw tt)⟩ hs
        · cases e
      · rename_i kvs ha
        obtain ⟨ws, hw, r⟩ := m.dict ha
        cases q : key? y with
        | none => rw [q] at e; cases e
        | some k =>
          rw [q] at e
          have e : kget kvs k = some d := e
          have g := r.get k
          rw [e] at g
          obtain ⟨w, hw2, rw', tw⟩ := g
          have tt : topKv kvs ≤ s.h.length := m.top ha
          have eu := key_kV q ry
          subst eu
          exact ix_dict hu value slice pins st σ H _ _ vv uu Q I rv ru ⟨_, w, rfl, by rw [← hw2]; exact DGet.k hw, out.here m rw' (Nat.le_trans tw tt)⟩ hs
      · cases e
    · cases e
end
end Dv
end

section
/-! Dv6 -/
/-! Dv6: slices, stores, methods, built-ins. -/
namespace Dv
open PySem PySem.Spec PyProof.Rows L2

section
variable {X : Cx} {E : XK}
theorem cut_rep {K : PySem.W.Frag} {H : Hp} {α : Nat → Addr} {xs : List D} {vs : List V} (l u : Option Int) (r : RepDs K H α xs vs) : RepDs K H α (cut xs l u) (cutV vs l u) := by
  unfold cut cutV
  rw [r.length]
  exact (r.drop _).take _
theorem cut_sub {α : Type} {xs : List α} {l u : Option Int} {x : α} (h : x ∈ cut xs l u) : x ∈ xs := List.mem_of_mem_drop (List.mem_of_mem_take h)
theorem cut_top (xs : List D) (l u : Option Int) : D.tops (cut xs l u) ≤ D.tops xs := tops_sub fun _ => cut_sub
theorem cut_all {α : Type} (xs : List α) (l u : Option Int) (h : HT.sIx xs.length 0 l = 0 ∧ HT.sIx xs.length xs.length u = xs.length) : cut xs l u = xs := by
  unfold cut
  rw [h.1, h.2]
  simp
def rSl (K : PySem.W.Frag) (E : XK) : V → Option Int → Option Int → Hp → VK → Prop := fun v l u H Q => ∃ α s x, Sim K α s H ∧ RepD K H α x v ∧ x.top ≤ s.h.length ∧ Out K E α s H Q (sliceD x l u s)
theorem sl_ok : SlR X (rSl X.K E) := by
  intro pins st σ H v vv vl vu lo hi sl Q I rv hsl pl pu h
  obtain ⟨α, s, x, m, rx, tx, out⟩ := h
  unfold sliceD at out
  split at out
  · rename_i xs
    simp only [RepD] at rx
    obtain ⟨a, vs, rfl, ta, r⟩ := rx
    rw [D.top] at tx
    have tt : (D.tup (cut xs lo hi)).top ≤ s.h.length := by rw [D.top]; exact Nat.le_trans (cut_top _ _ _) tx
    refine sl_tupF pins st σ H _ vv vl vu lo hi sl Q I rv hsl pl pu ⟨a, vs, rfl, ta.sq, fun hw => ?_, fun _ p o ho hp => ?_⟩
    · rw [r.length] at hw
      rw [cut_all xs lo hi hw] at out
      exact out.here m ⟨a, vs, rfl, ta, r⟩ (by rw [D.top]; exact tx)
    · exact out α (.ref p) _ (m.aside hp) (.aside hp) ⟨p, _, rfl, .inl ⟨_, upd_same, ho⟩, cut_rep lo hi ((Post.aside hp).reps m tx r)⟩ tt
  · rename_i z
    simp only [RepD] at rx
    refine sl_str pins st σ H _ vv vl vu lo hi sl Q I rv hsl pl pu ⟨z, rx.1, rx.2, ?_⟩
    have e : cutS z lo hi = ⟨(cut z.cps.toList lo hi).toArray⟩ := by
      unfold cutS cut
      have hl : z.cps.toList.length = z.length := by simp [Str.length]
      rw [hl]
    rw [e]
    refine out.here m ⟨rfl, ?_⟩ top_str
    show ((cut z.cps.toList lo hi).toArray).size ≤ sizeLine
    rw [List.size_toArray]
    have : (cut z.cps.toList lo hi).length ≤ z.cps.toList.length := by
      unfold cut
      rw [List.length_take, List.length_drop]
      omega
    have hl : z.cps.toList.length = z.length := by simp [Str.length]
    have := rx.2
    omega
  · rename_i a
    simp only [RepD] at rx
    subst rx
    split at out
    · rename_i xs ha
      obtain ⟨vs, hv, r⟩ := m.list ha
      refine sl_list pins st σ H _ vv vl vu lo hi sl Q I rv hsl pl pu ⟨_, vs, rfl, SqL.of hv, fun p hp => ?_⟩
      have tt : D.tops xs ≤ s.h.length := m.top ha
      exact out _ (.ref p) _ (m.new hp (Nat.le_trans (cut_top _ _ _) tt) ⟨_, rfl, cut_rep lo hi r⟩) (Post.new m hp) (by rw [RepD, ext_self]) (by simp [D.top])
    · exact out.elim
  · rename_i xs
    simp only [RepD] at rx
    obtain ⟨a, vs, rfl, ta, r⟩ := rx
    rw [D.top] at tx
    refine sl_list pins st σ H _ vv vl vu lo hi sl Q I rv hsl pl pu ⟨_, vs, rfl, ta.sq, fun p hp => ?_⟩
    exact out _ (.ref p) _ (m.new hp (Nat.le_trans (cut_top _ _ _) tx) ⟨_, rfl, cut_rep lo hi r⟩) (Post.new m hp) (by rw [RepD, ext_self]) (by simp [D.top])
  · exact out.elim

/-! ### stores -/
def OutU (K : PySem.W.Frag) (α : Nat → Addr) (s : S) (H : Hp) (Q : Hp → Prop) : R Unit → Prop
  | .ok _ s' => ∀ α' H', Sim K α' s' H' → Post α s H α' s' H' → Q H'
  | _ => False
def tSt (K : PySem.W.Frag) : TSet := fun o i v H Q => ∃ α s x y d, Sim K α s H ∧ RepD K H α x o ∧ RepD K H α y i ∧ RepD K H α d v ∧ d.top ≤ s.h.length ∧ OutU K α s H Q (setItem x y d s)
theorem set_ok (hu : X.A.units + 150 < cLine) : PSet X (tSt X.K) := by
  intro pins st σ H o i v ov iv u Q I ro ri rv h
  obtain ⟨α, s, x, y, d, m, rx, ry, rd, td, out⟩ := h
  unfold setItem at out
  split at out
  · rename_i a
    simp only [RepD] at rx
    subst rx
    split at out
    · rename_i xs ha
      have hal := (List.getElem?_eq_some_iff.mp ha).1
      obtain ⟨vs, hv, r⟩ := m.list ha
      split at out
      · rename_i k
        simp only [RepD] at ry
        split at out
        · rename_i j hj
          refine set_list pins st σ H _ i v ov iv u Q I ro ri rv ⟨_, vs, k, j, rfl, ry, hv, by rw [r.length]; exact hj, ?_⟩
          refine out α _ (m.put ha ?_ td ⟨_, rfl, r.set j rd⟩) (Post.put hal)
          show D.tops _ ≤ max (D.tops xs) d.top
          refine tops_le fun x hx => ?_
          rcases List.mem_or_eq_of_mem_set hx with hx | rfl
          · exact Nat.le_trans (top_mem hx) (Nat.le_max_left ..)
          · exact Nat.le_max_right ..
        · exact out.elim
      · exact out.elim
    · rename_i kvs ha
      have hal := (List.getElem?_eq_some_iff.mp ha).1
      obtain ⟨ws, hw, r⟩ := m.dict ha
      split at out
      · rename_i k hk
        split at out
        · rename_i hz
          have ei := key_kV hk ry
          subst ei
          cases ro
          refine d_setItem (by omega) I (DPut.k hw (by rw [r.length]; exact hz)) ri rv fun s' I' => ⟨_, I', ?_⟩
          exact out α _ (m.put ha (topKv_put _ _ _) td ⟨_, rfl, r.put rd⟩) (Post.put hal)
        · exact out.elim
      · exact out.elim
    · exact out.elim
  · exact out.elim

/-! ### methods -/
def rMe (K : PySem.W.Frag) (E : XK) (f : D → List D → S → R D) : V → List V → Hp → VK → Prop := fun v us H Q => ∃ α s x ds, Sim K α s H ∧ RepD K H α x v ∧ RepDs K H α ds us ∧ x.top ≤ s.h.length ∧ D.tops ds ≤ s.h.length ∧ Out K E α s H Q (f x ds s)
theorem reps_one {K : PySem.W.Frag} {H : Hp} {α : Nat → Addr} {d : D} {us : List V} (r : RepDs K H α [d] us) : ∃ u, us = [u] ∧ RepD K H α d u := by
  rw [RepDs] at r
  obtain ⟨v, w, rfl, h1, h2⟩ := r
  rw [RepDs] at h2
  subst h2
  exact ⟨v, rfl, h1⟩
theorem reps_nil {K : PySem.W.Frag} {H : Hp} {α : Nat → Addr} {us : List V} (r : RepDs K H α [] us) : us = [] := by
  rw [RepDs] at r
  exact r
/-- a list's method: the list, then what is asked -/
theorem me_list {f : D → List D → S → R D} {v : V} {us : List V} {H : Hp} {Q : VK} {K : PySem.W.Frag} (h : rMe K E f v us H Q) (hf : ∀ x ds s, (∀ a xs, x = .ref a → s.h[a]? ≠ some (.list xs)) → f x ds s = .bad) :
    ∃ α s a ds xs vs, Sim K α s H ∧ v = .ref (α a) ∧ s.h[a]? = some (.list xs) ∧ H (α a) = some (.lst vs) ∧ RepDs K H α xs vs ∧ RepDs K H α ds us ∧ D.tops ds ≤ s.h.length ∧ Out K E α s H Q (f (.ref a) ds s) := by
  obtain ⟨α, s, x, ds, m, rx, rs, tx, ts, out⟩ := h
  have : ∃ a xs, x = .ref a ∧ s.h[a]? = some (.list xs) := Classical.byContradiction fun n => by
    rw [hf x ds s fun a xs e q => n ⟨a, xs, e, q⟩] at out
    exact out
  obtain ⟨a, xs, rfl, ha⟩ := this
  obtain ⟨vs, hv, r⟩ := m.list ha
  exact ⟨α, s, a, ds, xs, vs, m, rx, ha, hv, r, rs, ts, out⟩
theorem onList_bad {x : D} {s : S} {f : Nat → List D → R D} (h : ∀ a xs, x = .ref a → s.h[a]? ≠ some (.list xs)) : onList x s f = .bad := by
  unfold onList
  split
  · rename_i a
    split
    · rename_i xs ha; exact absurd ha (h a xs rfl)
    · rfl
  · rfl
theorem onList_ref {a : Nat} {xs : List D} {s : S} {f : Nat → List D → R D} (h : s.h[a]? = some (.list xs)) : onList (.ref a) s f = f a xs := by
  unfold onList
  simp only [h]
theorem append_ok : MtR X "list.append" (rMe X.K E appendF) := by
  intro pins st σ H v us vv uu Q I rv ru h
  obtain ⟨α, s, a, ds, xs, vs, m, rfl, ha, hv, r, rs, ts, out⟩ := me_list h fun _ _ _ h => onList_bad h
  have hal := (List.getElem?_eq_some_iff.mp ha).1
  unfold appendF at out
  rw [onList_ref ha] at out
  split at out
  · rename_i d
    obtain ⟨u, rfl, ru'⟩ := reps_one rs
    split at out
    · rename_i hz
      refine mt_append pins st σ H _ _ vv uu Q I rv ru ⟨_, vs, u, rfl, rfl, hv, by rw [r.length]; exact hz, ?_⟩
      have td : d.top ≤ s.h.length := Nat.le_trans (top_mem List.mem_cons_self) ts
      refine out α .non _ (m.put ha ?_ td ⟨_, rfl, r.append (RepDs.one ru')⟩) (Post.put hal) rfl (Nat.zero_le _)
      show D.tops _ ≤ max (D.tops xs) d.top
      rw [tops_append]
      simp [D.tops]
    · exact out.elim
  · exact out.elim
theorem extend_ok : MtR X "list.extend" (rMe X.K E extendF) := by
  intro pins st σ H v us vv uu Q I rv ru h
  obtain ⟨α, s, a, ds, xs, vs, m, rfl, ha, hv, r, rs, ts, out⟩ := me_list h fun _ _ _ h => onList_bad h
  have hal := (List.getElem?_eq_some_iff.mp ha).1
  unfold extendF at out
  rw [onList_ref ha] at out
  split at out
  · rename_i y
    obtain ⟨u, rfl, ru'⟩ := reps_one rs
    have : ∃ b ys, y = .ref b ∧ s.h[b]? = some (.list ys) := Classical.byContradiction fun n => by
      rw [onList_bad fun a xs e q => n ⟨a, xs, e, q⟩] at out
      exact out
    obtain ⟨b, ys, rfl, hb⟩ := this
    rw [onList_ref hb] at out
    simp only [RepD] at ru'
    subst ru'
    obtain ⟨ws, hw, r2⟩ := m.list hb
    split at out
    · rename_i hz
      refine mt_extend pins st σ H _ _ vv uu Q I rv ru ⟨_, _, vs, ws, rfl, rfl, hv, hw, by rw [r.length, r2.length]; exact hz, ?_⟩
      have td : D.tops ys ≤ s.h.length := m.top hb
      refine out α .non _ (m.put ha ?_ td ⟨_, rfl, r.append r2⟩) (Post.put hal) rfl (Nat.zero_le _)
      show D.tops _ ≤ max (D.tops xs) (D.tops ys)
      rw [tops_append]
      exact Nat.le_refl _
    · exact out.elim
  · exact out.elim
theorem RepDs.dropLast {K : PySem.W.Frag} {H : Hp} {α : Nat → Addr} {xs : List D} {vs : List V} (r : RepDs K H α xs vs) : RepDs K H α xs.dropLast vs.dropLast := by
  rw [List.dropLast_eq_take, List.dropLast_eq_take, r.length]
  exact r.take _
theorem pop_ok : MtR X "list.pop" (rMe X.K E popF) := by
  intro pins st σ H v us vv uu Q I rv ru h
  obtain ⟨α, s, a, ds, xs, vs, m, rfl, ha, hv, r, rs, ts, out⟩ := me_list h fun _ _ _ h => onList_bad h
  have hal := (List.getElem?_eq_some_iff.mp ha).1
  have tt : D.tops xs ≤ s.h.length := m.top ha
  unfold popF at out
  rw [onList_ref ha] at out
  split at out
  · have := reps_nil rs
    subst this
    split at out
    · rename_i d hd
      obtain ⟨u, hu, ru'⟩ := r.get hd
      refine mt_pop pins st σ H _ _ vv uu Q I rv ru ⟨_, vs, u, rfl, rfl, hv, by rw [r.length]; exact hu, ?_⟩
      have td : d.top ≤ s.h.length := Nat.le_trans (top_mem (List.mem_of_getElem? hd)) tt
      have hp : D.tops xs.dropLast ≤ D.tops xs := tops_sub fun x hx => List.mem_of_mem_take (by rw [List.dropLast_eq_take] at hx; exact hx)
      exact out α u _ (m.put ha (Nat.le_trans hp (Nat.le_max_left ..)) (Nat.zero_le _) ⟨_, rfl, r.dropLast⟩) (Post.put hal) ((Post.put (n := 0) (o := .list xs.dropLast) hal).rep m td ru') (by simpa [S.put] using td)
    · exact out.elim
  · rename_i i
    obtain ⟨u, rfl, ru'⟩ := reps_one rs
    simp only [RepD] at ru'
    split at out
    · rename_i k hk
      split at out
      · rename_i d hd
        split at out
        · rename_i hz
          obtain ⟨u', hu, ru2⟩ := r.get hd
          refine mt_popAt pins st σ H _ _ vv uu Q I rv ru ⟨_, vs, i, k, u', rfl, by rw [ru'], hv, hz.1, hz.2, by rw [r.length]; exact hk, hu, ?_⟩
          have td : d.top ≤ s.h.length := Nat.le_trans (top_mem (List.mem_of_getElem? hd)) tt
          have hp : D.tops (xs.eraseIdx k) ≤ D.tops xs := tops_sub fun _ => List.mem_of_mem_eraseIdx
          exact out α u' _ (m.put ha (Nat.le_trans hp (Nat.le_max_left ..)) (Nat.zero_le _) ⟨_, rfl, r.eraseIdx k⟩) (Post.put hal) ((Post.put (n := 0) (o := .list (xs.eraseIdx k)) hal).rep m td ru2) (by simpa [S.put] using td)
        · exact out.elim
      · exact out.elim
    · exact out.elim
  · exact out.elim
end
end Dv
end

section
/-! Dv7 -/
/-! Dv7: built-in functions. -/
namespace Dv
open PySem PySem.Spec PyProof.Rows L2

def rCF (K : PySem.W.Frag) (E : XK) (f : List D → S → R D) : List V → Hp → VK → Prop := fun us H Q => ∃ α s ds, Sim K α s H ∧ RepDs K H α ds us ∧ D.tops ds ≤ s.h.length ∧ Out K E α s H Q (f ds s)
section
variable {X : Cx} {E : XK}
theorem len_ok : CallR X (.builtin "len") (rCF X.K E lenF) := by
  intro pins st σ H us uu Q I ru h
  obtain ⟨α, s, ds, m, rs, ts, out⟩ := h
  unfold lenF at out
  split at out
  · rename_i xs
    obtain ⟨u, rfl, r⟩ := reps_one rs
    simp only [RepD] at r
    obtain ⟨a, vs, rfl, ta, r⟩ := r
    refine call_len_seq pins st σ H _ uu Q I ru ⟨a, vs, rfl, .inr ta.sq, ?_⟩
    rw [r.length]
    exact out.here m rfl top_int
  · rename_i x
    obtain ⟨u, rfl, r⟩ := reps_one rs
    simp only [RepD] at r
    exact call_len_str pins st σ H _ uu Q I ru ⟨x, by rw [r.1], r.2, out.here m rfl top_int⟩
  · rename_i a
    obtain ⟨u, rfl, r⟩ := reps_one rs
    simp only [RepD] at r
    subst r
    split at out
    · rename_i xs ha
      obtain ⟨vs, hv, r⟩ := m.list ha
      refine call_len_seq pins st σ H _ uu Q I ru ⟨_, vs, rfl, .inl (SqL.of hv), ?_⟩
      rw [r.length]
      exact out.here m rfl top_int
    · rename_i kvs ha
      obtain ⟨ws, hw, r⟩ := m.dict ha
      refine call_lenD pins st σ H _ uu Q I ru ⟨_, ws, rfl, hw, ?_⟩
      rw [r.length]
      exact out.here m rfl top_int
    · exact out.elim
  · exact out.elim
theorem list1_out {f : List D → R D} {ds : List D} {s : S} {H : Hp} {Q : VK} {us : List V} {α : Nat → Addr} {K : PySem.W.Frag} (m : Sim K α s H) (rs : RepDs K H α ds us) (out : Out K E α s H Q (list1 ds s f)) :
    ∃ a xs vs, us = [.ref (α a)] ∧ s.h[a]? = some (.list xs) ∧ H (α a) = some (.lst vs) ∧ RepDs K H α xs vs ∧ Out K E α s H Q (f xs) := by
  unfold list1 at out
  split at out
  · rename_i a
    obtain ⟨u, rfl, r⟩ := reps_one rs
    simp only [RepD] at r
    subst r
    split at out
    · rename_i xs ha
      obtain ⟨vs, hv, r⟩ := m.list ha
      exact ⟨a, xs, vs, rfl, ha, hv, r, out⟩
    · exact out.elim
  · exact out.elim
theorem ints_rep {K : PySem.W.Frag} {H : Hp} {α : Nat → Addr} : ∀ {xs : List D} {vs : List V} {ns : List Int}, RepDs K H α xs vs → ints? xs = some ns → vs = ns.map V.int
  | [], vs, ns, r, e => by rw [RepDs] at r; cases e; exact r
  | x :: xs, vs, ns, r, e => by
    rw [RepDs] at r
    obtain ⟨v, w, rfl, h1, h2⟩ := r
    cases x with
    | int i =>
      rw [ints?] at e
      cases q : ints? xs with
      | none => rw [q] at e; cases e
      | some ms =>
        rw [q] at e
        cases e
        rw [RepD] at h1
        rw [h1, ints_rep h2 q]
        rfl
    | _ => cases e
theorem bools_rep {K : PySem.W.Frag} {H : Hp} {α : Nat → Addr} : ∀ {xs : List D} {vs : List V} {ns : List Bool}, RepDs K H α xs vs → bools? xs = some ns → vs = ns.map V.bl
  | [], vs, ns, r, e => by rw [RepDs] at r; cases e; exact r
  | x :: xs, vs, ns, r, e => by
    rw [RepDs] at r
    obtain ⟨v, w, rfl, h1, h2⟩ := r
    cases x with
    | bl i =>
      rw [bools?] at e
      cases q : bools? xs with
      | none => rw [q] at e; cases e
      | some ms =>
        rw [q] at e
        cases e
        rw [RepD] at h1
        rw [h1, bools_rep h2 q]
        rfl
    | _ => cases e
theorem sum_ok (hc : X.calm = true) : CallR X (.builtin "sum") (rCF X.K E sumF) := by
  intro pins st σ H us uu Q I ru h
  obtain ⟨α, s, ds, m, rs, ts, out⟩ := h
  obtain ⟨a, xs, vs, rfl, ha, hv, r, out⟩ := list1_out m rs out
  split at out
  · rename_i ns hn
    exact cr_sum hc pins st σ H _ uu Q I ru ⟨_, ns, rfl, by rw [← ints_rep r hn]; exact SqL.of hv, out.here m rfl top_int⟩
  · exact out.elim
theorem any_ok (hc : X.calm = true) : CallR X (.builtin "any") (rCF X.K E anyF) := by
  intro pins st σ H us uu Q I ru h
  obtain ⟨α, s, ds, m, rs, ts, out⟩ := h
  obtain ⟨a, xs, vs, rfl, ha, hv, r, out⟩ := list1_out m rs out
  split at out
  · rename_i ns hn
    exact cr_any hc pins st σ H _ uu Q I ru ⟨_, ns, rfl, by rw [← bools_rep r hn]; exact SqL.of hv, out.here m rfl top_bl⟩
  · exact out.elim
theorem all_ok (hc : X.calm = true) : CallR X (.builtin "all") (rCF X.K E allF) := by
  intro pins st σ H us uu Q I ru h
  obtain ⟨α, s, ds, m, rs, ts, out⟩ := h
  obtain ⟨a, xs, vs, rfl, ha, hv, r, out⟩ := list1_out m rs out
  split at out
  · rename_i ns hn
    exact cr_all hc pins st σ H _ uu Q I ru ⟨_, ns, rfl, by rw [← bools_rep r hn]; exact SqL.of hv, out.here m rfl top_bl⟩
  · exact out.elim
theorem tuple_ok : CallR X (.type "tuple") (rCF X.K E tupleF) := by
  intro pins st σ H us uu Q I ru h
  obtain ⟨α, s, ds, m, rs, ts, out⟩ := h
  unfold tupleF at out
  split at out
  · rename_i xs
    obtain ⟨u, rfl, r⟩ := reps_one rs
    have r0 := r
    simp only [RepD] at r
    obtain ⟨a, vs, rfl, ta, r⟩ := r
    exact call_tupleF pins st σ H _ uu Q I ru ⟨a, vs, rfl, .inr ⟨ta.sq, out.here m r0 (Nat.le_trans (top_mem List.mem_cons_self) ts)⟩⟩
  · rename_i a
    obtain ⟨u, rfl, r⟩ := reps_one rs
    simp only [RepD] at r
    subst r
    split at out
    · rename_i xs ha
      obtain ⟨vs, hv, r⟩ := m.list ha
      have tt : D.tops xs ≤ s.h.length := m.top ha
      refine call_tupleF pins st σ H _ uu Q I ru ⟨_, vs, rfl, .inl ⟨SqL.of hv, fun p o ho hp => ?_⟩⟩
      exact out α (.ref p) _ (m.aside hp) (.aside hp) ⟨p, _, rfl, .inl ⟨_, upd_same, ho⟩, (Post.aside hp).reps m tt r⟩ (by rw [D.top]; exact tt)
    · exact out.elim
  · exact out.elim
theorem list_ok : CallR X (.type "list") (rCF X.K E listF) := by
  intro pins st σ H us uu Q I ru h
  obtain ⟨α, s, ds, m, rs, ts, out⟩ := h
  unfold listF at out
  split at out
  · rename_i xs
    obtain ⟨u, rfl, r⟩ := reps_one rs
    have tt : (D.tup xs).top ≤ s.h.length := Nat.le_trans (top_mem List.mem_cons_self) ts
    rw [D.top] at tt
    simp only [RepD] at r
    obtain ⟨a, vs, rfl, ta, r⟩ := r
    refine call_list_of pins st σ H _ uu Q I ru ⟨a, vs, rfl, .inr ta.sq, fun p hp => ?_⟩
    exact out _ (.ref p) _ (m.new hp tt ⟨_, rfl, r⟩) (Post.new m hp) (by rw [RepD, ext_self]) (by simp [D.top])
  · rename_i a
    obtain ⟨u, rfl, r⟩ := reps_one rs
    simp only [RepD] at r
    subst r
    split at out
    · rename_i xs ha
      obtain ⟨vs, hv, r⟩ := m.list ha
      have tt : D.tops xs ≤ s.h.length := m.top ha
      refine call_list_of pins st σ H _ uu Q I ru ⟨_, vs, rfl, .inl (SqL.of hv), fun p hp => ?_⟩
      exact out _ (.ref p) _ (m.new hp tt ⟨_, rfl, r⟩) (Post.new m hp) (by rw [RepD, ext_self]) (by simp [D.top])
    · exact out.elim
  · exact out.elim
/-! ### repr -/
mutual
theorem dp_noDict {K : PySem.W.Frag} {H : Hp} : ∀ (p : PyData) (v : V), Dp K H v p → p.hasDict = false
  | .none, _, _ => by simp only [PyData.hasDict]
  | .bool _, _, _ => by simp only [PyData.hasDict]
  | .int _, _, _ => by simp only [PyData.hasDict]
  | .str _, _, _ => by simp only [PyData.hasDict]
  | .list ps, _, h => by
    cases h with
    | lst h1 h2 => simp only [PyData.hasDict]; exact dps_noDict ps _ h2
  | .tuple ps, _, h => by
    cases h with
    | tup h1 h2 => simp only [PyData.hasDict]; exact dps_noDict ps _ h2
  | .dict _, _, h => by cases h
theorem dps_noDict {K : PySem.W.Frag} {H : Hp} : ∀ (p : List PyData) (v : List V), DpAll K H v p → PyData.hasDictAll p = false
  | [], _, _ => by simp only [PyData.hasDictAll]
  | p :: ps, _, h => by
    cases h with
    | cons h1 h2 => simp only [PyData.hasDictAll, dp_noDict p _ h1, dps_noDict ps _ h2, Bool.or_self]
end
theorem repr_ok (hg : X.A.guards = some []) (hu : X.A.units + 150 < cLine) : CallR X (.builtin "repr") (rCF X.K E reprF) := by
  intro pins st σ H us uu Q I ru h
  obtain ⟨α, s, ds, m, rs, ts, out⟩ := h
  unfold reprF at out
  split at out
  · rename_i d
    obtain ⟨u, rfl, r⟩ := reps_one rs
    split at out
    · rename_i p hp
      split at out
      · rename_i hs
        obtain ⟨h1, h2, h3⟩ := hs
        have q : Q (.str p.shown) H := out.here m ⟨rfl, h2⟩ top_str
        have dp := m.dp r hp
        obtain ⟨w, rfl, rw'⟩ := vals1 ru
        obtain ⟨as, rd⟩ := Dp.reads I p u w dp rw'
        have fin : ∀ (h' : Heap) (x tk : Nat), (∀ b o, st.heap.get? b = some o → h'.get? b = some o) → EP X pins σ Q (.str p.shown x) { st with heap := h', toks := tk } := fun h' x tk kp => ⟨.str p.shown, H, I.kept kp, ⟨_, rfl⟩, q⟩
        cases rd with
        | none => exact P.repr_of_none (fin _ _ _ fun _ _ e => e)
        | bool b => exact P.repr_of_bool (by
            have := fin st.heap st.toks (st.toks + 1) fun _ _ e => e
            simpa [PyData.shown] using this)
        | int i t =>
          have hl : i.natAbs.log2 < 1920 := by simpa [PyData.showable] using h1
          exact P.repr_of_int hl (by
            have := fin st.heap st.toks (st.toks + 1) fun _ _ e => e
            simpa [PyData.shown] using this)
        | str x t =>
          have hz : (reprText x).length ≤ sizeLine := by simpa [PyData.shown] using h2
          exact P.repr_of_str (by
            have := fin st.heap st.toks (st.toks + 1) fun _ _ e => e
            simpa [PyData.shown] using this) hz
        | list a b c d => exact repr_of_reads' (.list a b c d) h1 (fun hd => by rw [dp_noDict _ _ dp] at hd; cases hd) hg (by omega) (fun _ _ e => e) (fun h' u tk kp => fin h' u tk kp) h2
        | tuple a b c d => exact repr_of_reads' (.tuple a b c d) h1 (fun hd => by rw [dp_noDict _ _ dp] at hd; cases hd) hg (by omega) (fun _ _ e => e) (fun h' u tk kp => fin h' u tk kp) h2
        | dict a b c d e => cases dp
      · exact out.elim
    · exact out.elim
  · exact out.elim
end
end Dv
end

section
/-! Dv8 -/
/-! Dv8: sorted. -/
namespace Dv
open PySem PySem.Spec PyProof.Rows L2

section
variable {X : Cx} {E : XK}
mutual
theorem reads_there {h : Heap} : ∀ {v : Value} {p : PyData} {as : List Addr}, Reads h v p as → ∀ b ∈ as, b < h.objs.size
  | _, _, _, .none, b, hb => by cases hb
  | _, _, _, .bool _, b, hb => by cases hb
  | _, _, _, .int _ _, b, hb => by cases hb
  | _, _, _, .str _ _, b, hb => by cases hb
  | _, _, _, .list h1 h2 h3 h4, b, hb => by
    rcases List.mem_cons.mp hb with rfl | hb
    · exact Heap.lt_size h1
    · exact readsAll_there h4 b hb
  | _, _, _, .tuple h1 h2 h3 h4, b, hb => readsAll_there h4 b hb
  | _, _, _, .dict h1 h2 h3 h4 h5, b, hb => by
    rcases List.mem_append.mp hb with hb | hb
    · rcases List.mem_cons.mp hb with rfl | hb
      · exact Heap.lt_size h1
      · exact readsAll_there h4 b hb
    · exact readsAll_there h5 b hb
theorem readsAll_there {h : Heap} : ∀ {v : List Value} {p : List PyData} {as : List Addr}, ReadsAll h v p as → ∀ b ∈ as, b < h.objs.size
  | _, _, _, .nil, b, hb => by cases hb
  | _, _, _, .cons h1 h2, b, hb => by
    rcases List.mem_append.mp hb with hb | hb
    · exact reads_there h1 b hb
    · exact readsAll_there h2 b hb
end
/-- the values, their data -/
def RV2 (K : PySem.W.Frag) (H : Hp) (α : Nat → Addr) : Value → D × PyData → Prop := fun u b => ∃ v, RelV v u ∧ RepD K H α b.1 v
theorem each_rv {K : PySem.W.Frag} {H : Hp} {α : Nat → Addr} : ∀ {ds : List D} {vs : List V} {us : List Value} {ps : List PyData}, RepDs K H α ds vs → Vals vs us → ps.length = ds.length → PySem.W.EachIs (RV2 K H α) us (ds.zip ps)
  | [], vs, us, ps, r, rv, _ => by
    rw [RepDs] at r
    subst r
    cases rv
    exact .nil
  | d :: ds, vs, us, ps, r, rv, hl => by
    rw [RepDs] at r
    obtain ⟨v, w, rfl, h1, h2⟩ := r
    cases ps with
    | nil => cases hl
    | cons p ps =>
      cases rv with
      | cons a b => exact .cons ⟨v, a, h1⟩ (each_rv h2 b (by simpa using hl))
theorem of_each {K : PySem.W.Frag} {H : Hp} {α : Nat → Addr} : ∀ {us : List Value} {bs : List (D × PyData)}, PySem.W.EachIs (RV2 K H α) us bs → ∃ vs, Vals vs us ∧ RepDs K H α (bs.map (·.1)) vs
  | _, _, .nil => ⟨[], .nil, rfl⟩
  | _, _, .cons ⟨v, a, b⟩ t => by
    obtain ⟨vs, h1, h2⟩ := of_each t
    exact ⟨v :: vs, .cons a h1, v, vs, rfl, b, h2⟩
theorem pys_length {g : Nat → Option PyData} : ∀ {ds : List D} {ps : List PyData}, D.pys g ds = some ps → ps.length = ds.length
  | [], ps, h => by rw [D.pys] at h; cases h; rfl
  | d :: ds, ps, h => by
    rw [D.pys] at h
    cases q1 : D.py g d with
    | none => rw [q1] at h; cases h
    | some a =>
      cases q2 : D.pys g ds with
      | none => rw [q1, q2] at h; cases h
      | some b => rw [q1, q2] at h; cases h; simp [pys_length q2]
theorem sortable_iff {ps : List PyData} (h : sortable ps = true) : PySem.W.AllAlike ps ∧ PySem.W.Sortable ps ∧ ∀ p ∈ ps, p.depth ≤ 64 := by
  unfold sortable at h
  simp only [Bool.and_eq_true, Bool.or_eq_true, List.all_eq_true] at h
  obtain ⟨⟨h1, h2⟩, h3⟩ := h
  refine ⟨fun d hd d' hd' => h1 d hd d' hd', ?_, fun p hp => ?_⟩
  · rcases h2 with h2 | h2
    · refine .inl fun d hd => ?_
      have := h2 d hd
      cases d with
      | tuple xs =>
        cases xs with
        | nil => cases this
        | cons x r => exact ⟨x, r, rfl⟩
      | _ => cases this
    · refine .inr fun d hd => ?_
      have := h2 d hd
      cases d with
      | none => cases this
      | tuple _ => cases this
      | _ => exact ⟨(by intro h; cases h), (by intro xs h; cases h)⟩
  · have := h3 p hp
    unfold SeqAt.shaped at this
    simp only [Bool.and_eq_true, decide_eq_true_eq] at this
    exact this.2
theorem zip_map_snd {ds : List D} {ps : List PyData} (h : ps.length = ds.length) : (ds.zip ps).map (·.2) = ps := by
  rw [List.map_snd_zip]
  omega
/-- behind the collecting: the new list, sorted -/
theorem sort_tail {A : Around} {pins : List (Addr × Obj)} {σ : L2.St} {H : Hp} {st : Shared} {α : Nat → Addr} {s : S} {ds : List D} {vs : List V} {us : List Value} {ps : List PyData} {Q : VK} {E' : Value → Shared → Prop} (hu : A.units + 150 < cLine) (I : Inv X pins σ H st) (m : Sim X.K α s H)
    (rs : RepDs X.K H α ds vs) (rv : Vals vs us) (hp : s.pys ds = some ps) (hs : sortable ps = true) (hz : us.length ≤ sizeLine)
    (q : ∀ ws p, RepDs X.K H α (((ds.zip ps).mergeSort (PySem.W.dataLe false (·.2))).map (·.1)) ws → H p = none → Q (.ref p) (upd H p (.lst ws))) :
    wpAny (model X.prog X.w) A (newList us) (fun l s1 => wpAny (model X.prog X.w) A (call (.builtin "list.sort") [l]) (fun _ s2 => EP X pins σ Q l s2) E' s1) E' st := by
  refine wpAny_newList ?_ hz
  have hoL : (st.heap.push (seqObj "list" us.toArray 0)).get? st.heap.objs.size = some (seqObj "list" us.toArray 0) := Heap.get?_push_size _ rfl
  show wpAny _ _ _ _ _ { st with heap := st.heap.push (seqObj "list" us.toArray 0) }
  have hl := pys_length hp
  obtain ⟨hal, hk, hd⟩ := sortable_iff hs
  have each := each_rv rs rv hl
  have hlen : (ds.zip ps).length = us.length := by rw [← each.length]
  obtain ⟨as, ra⟩ := Dp.readsAll I ps vs us (m.dps rs hp) rv
  have er : PySem.W.EachIs (fun v (b : D × PyData) => ∃ as, Reads (st.heap.push (seqObj "list" us.toArray 0)) v b.2 as ∧ st.heap.objs.size ∉ as) us (ds.zip ps) := by
    have key : ∀ (o : Obj) {ds : List D} {us : List Value} {ps : List PyData} {as : List Addr}, ps.length = ds.length → ReadsAll st.heap us ps as →
        PySem.W.EachIs (fun v (b : D × PyData) => ∃ as, Reads (st.heap.push o) v b.2 as ∧ st.heap.objs.size ∉ as) us (ds.zip ps) := by
      intro o
      intro ds
      induction ds with
      | nil => intro us ps as e ra; cases ps with
        | nil => cases ra; exact .nil
        | cons _ _ => cases e
      | cons d ds ih =>
        intro us ps as e ra
        cases ps with
        | nil => cases e
        | cons p ps =>
          cases ra with
          | cons a b => exact .cons ⟨_, PyProof.Rows.Reads.keeps (fun _ _ h => Heap.get?_push_of_some _ h) a, fun hm => Nat.lt_irrefl _ (reads_there a _ hm)⟩ (ih (by simpa using e) b)
    exact key _ hl ra
  refine PySem.W.list_sort_data (enc := fun b : D × PyData => b.2) (R := RV2 X.K H α) (bs := ds.zip ps) (s := { st with heap := st.heap.push (seqObj "list" us.toArray 0) }) hoL each er (by rw [zip_map_snd hl]; exact hal) (by rw [zip_map_snd hl]; exact hk) (by rw [hlen]; exact hz) (fun b hb => ?_) fun out ho eo => ?_
  · have : b.2 ∈ ps := by
      have : b.2 ∈ (ds.zip ps).map (·.2) := List.mem_map.mpr ⟨b, hb, rfl⟩
      rw [zip_map_snd hl] at this
      exact this
    have := hd _ this
    omega
  · obtain ⟨ws, h1, h2⟩ := of_each eo
    obtain ⟨c, hc⟩ := sortedHeap_at (vs := us) (out := out.toArray) hoL
    refine ⟨.ref st.heap.objs.size, upd H st.heap.objs.size (.lst ws), I.laid (t' := st.toks) (fun b u e => ?_) (Nat.le_refl _) ?_, rfl, q ws _ h2 (I.hok.fresh (Nat.le_refl _))⟩
    · have hb : b < st.heap.objs.size := Heap.lt_size e
      show (sortedHeap (st.heap.push (seqObj "list" us.toArray 0)) st.heap.objs.size us out.toArray).get? b = some u
      rw [sortedHeap_old (Nat.ne_of_lt hb) (by rw [size_push']; exact Nat.lt_succ_of_lt hb)]
      exact Heap.get?_push_of_some _ e
    · refine ⟨?_, out, c, h1, hc⟩
      have := h1.length
      rw [this, ho, hlen]
      exact hz
theorem reps_of_keys {K : PySem.W.Frag} {H : Hp} {α : Nat → Addr} : ∀ {ks : List Ke}, (∀ k ∈ ks, ∀ x, k = .inr x → x.length ≤ sizeLine) → RepDs K H α (ks.map keyD) (ks.map kV)
  | [], _ => rfl
  | k :: ks, h => ⟨kV k, ks.map kV, rfl, by
      cases k with
      | inl i => rfl
      | inr x => exact ⟨rfl, h _ List.mem_cons_self x rfl⟩, reps_of_keys fun j hj => h j (List.mem_cons_of_mem _ hj)⟩
theorem vals_of_at : ∀ {xs : List V} {us : List Value}, xs.length = us.length → (∀ (j : Nat) (x : V) (u : Value), xs[j]? = some x → us[j]? = some u → RelV x u) → Vals xs us
  | [], [], _, _ => .nil
  | [], _ :: _, h, _ => by cases h
  | _ :: _, [], h, _ => by cases h
  | x :: xs, u :: us, h, k => .cons (k 0 x u rfl rfl) (vals_of_at (by simpa using h) fun j y w h1 h2 => k (j + 1) y w (by simpa using h1) (by simpa using h2))
theorem is_relV {k : Key} {v : Value} (h : keyIs k v = true) : RelV (kV k) v := by
  rcases keyIs_shape h with ⟨i, t, rfl, rfl⟩ | ⟨x, t, rfl, rfl⟩
  · exact ⟨t, rfl⟩
  · exact ⟨t, rfl⟩
theorem items_ok {pins : List (Addr × Obj)} {σ : L2.St} {H : Hp} {st : Shared} {α : Nat → Addr} {s : S} {d : D} {ds : List D} {v : V} {u : Value} {A : Around} {EE : Value → Shared → Prop} {Q : List Value → Shared → Prop} (hh : A.handled = none) (I : Inv X pins σ H st) (m : Sim X.K α s H)
    (r : RepD X.K H α d v) (rv : RelV v u) (hi : items d s = some ds) (td : d.top ≤ s.h.length)
    (q : ∀ us vs h' tk, (∀ b o, st.heap.get? b = some o → h'.get? b = some o) → RepDs X.K H α ds vs → Vals vs us → us.length ≤ sizeLine → D.tops ds ≤ s.h.length → Q us { st with heap := h', toks := tk }) :
    wpAny (model X.prog X.w) A (collect u) Q EE st := by
  unfold items at hi
  split at hi
  · rename_i xs
    cases hi
    simp only [RepD] at r
    obtain ⟨a, vs, rfl, ta, r⟩ := r
    cases rv
    obtain ⟨its, rr, ⟨o, ho, hc, n, hd⟩, hz⟩ := I.tuple ta.sq
    have hl := rr.length
    refine wpAny_collect_seq a (.inr rfl) ho hc hd (fun h' hk => ?_) (by rw [List.size_toArray]; omega)
    rw [D.top] at td
    exact q _ vs h' st.toks hk r (by simpa using rr) (by simp; omega) td
  · rename_i a
    simp only [RepD] at r
    subst r
    cases rv
    split at hi
    · rename_i xs ha
      cases hi
      obtain ⟨vs, hv, r⟩ := m.list ha
      obtain ⟨its, rr, pl, hz⟩ := I.list (SqL.of hv)
      obtain ⟨o, ho, hc, n, hd⟩ := pl.isList
      have hl := rr.length
      refine wpAny_collect_seq _ (.inl rfl) ho hc hd (fun h' hk => ?_) (by rw [List.size_toArray]; omega)
      exact q _ vs h' st.toks hk r (by simpa using rr) (by simp; omega) (m.top ha)
    · rename_i kvs ha
      split at hi
      case isFalse => cases hi
      rename_i hsz
      cases hi
      obtain ⟨ws, hv, r⟩ := m.dict ha
      obtain ⟨z, lo, vs, rel, dd⟩ := dk_of I.hok hv
      obtain ⟨ep, hat⟩ := dd.dictAt
      have lz : vs.length ≤ sizeLine := by rw [← rel.length]; exact z
      refine PySem.W.kdu_collect (PySem.W.kdl_dict (knd := mixKind X.prog X.w) (kvs := vs) (ep := ep) lo) hh hat lz fun h' tk acc hk hacc => ?_
      have ks : ws.map (·.1) = kvs.map (·.1) := r.keys
      have ks2 : vs.map (·.1) = kvs.map (·.1) := by rw [← ks]; exact rel.keys.symm
      have hl : acc.toList.length = kvs.length := by rw [Array.length_toList, hacc.1]; have := congrArg List.length ks2; simpa using this
      have hw : ws.length = kvs.length := by have := congrArg List.length ks; simpa using this
      refine q acc.toList ((kvs.map (·.1)).map kV) h' tk hk ?_ ?_ (by rw [hl, ← hw]; exact z) ?_
      · have := reps_of_keys (K := X.K) (H := H) (α := α) (ks := kvs.map (·.1)) ?_
        · rw [List.map_map] at this; exact this
        · intro k hk x e
          obtain ⟨p, hp, rfl⟩ := List.mem_map.mp hk
          have := List.all_eq_true.mp hsz p hp
          rw [e] at this
          rw [sizeLine_eq]
          exact of_decide_eq_true this
      · refine vals_of_at (by rw [hl]; simp) fun j x u h1 h2 => ?_
        rw [List.getElem?_map] at h1
        cases e : (kvs.map (·.1))[j]? with
        | none => rw [e] at h1; cases h1
        | some k =>
          rw [e] at h1
          cases h1
          obtain ⟨k', y, e1, e2⟩ := hacc.2 j u (by rw [← Array.getElem?_toList]; exact h2)
          have e3 : (vs.map (·.1))[j]? = some k' := by rw [List.getElem?_map, e1]; rfl
          rw [ks2, e] at e3
          cases e3
          exact is_relV e2
      · refine tops_le fun x hx => ?_
        obtain ⟨p, _, rfl⟩ := List.mem_map.mp hx
        cases p.1 <;> simp [keyD, D.top]
    · cases hi
  · cases hi
theorem sorted_ok (hcalm : X.calm = true) (hu : X.A.units + 200 < cLine) : CallR X (.builtin "sorted") (rCF X.K E sortedF) := by
  intro pins st σ H us uu Q I ru h
  obtain ⟨α, s, ds, m, rs, ts, out⟩ := h
  unfold sortedF at out
  split at out
  · rename_i d
    obtain ⟨u, rfl, r⟩ := reps_one rs
    split at out
    · rename_i xs hi
      split at out
      · rename_i ys hy
        unfold sortDs at hy
        split at hy
        · rename_i ps hp
          split at hy
          · rename_i hs
            cases hy
            obtain ⟨w, rfl, rw'⟩ := vals1 ru
            refine Calls.call_function_entry PyProof.Rows.kind_sorted PyProof.Rows.plain_sorted PyProof.Rows.entry_sorted (PyProof.Rows.args_sorted1 _) ?_
            unfold Builtin.«sorted»
            refine wpAny_bind (m := checkCount "sorted" 1 1 _) (wpAny_pure ?_)
            refine wpAny_bind (items_ok (I.ok.hd hcalm) I m r rw' hi (Nat.le_trans (top_mem List.mem_cons_self) ts) fun us vs h' tk hk r2 rv2 hz2 t2 => ?_)
            have I1 : Inv X pins σ H { st with heap := h', toks := tk } := I.kept hk
            refine wpAny_bind (wpAny_mono (sort_tail (Q := Q) (A := X.A.in1) (by simp only [Around.in1_units]; omega) I1 m r2 rv2 hp hs hz2 fun ws p hw hp' => ?_) (fun l s1 h => wpAny_bind (wpAny_holding (wpAny_mono h (fun _ s2 h => wpAny_pure ⟨l, rfl, h⟩) fun _ _ h => h))) fun _ _ h => h)
            have tt : D.tops (((xs.zip ps).mergeSort (PySem.W.dataLe false (·.2))).map (·.1)) ≤ s.h.length := by
              refine tops_le fun d hd => ?_
              obtain ⟨b, hb, rfl⟩ := List.mem_map.mp hd
              rw [(List.mergeSort_perm _ _).mem_iff] at hb
              exact Nat.le_trans (top_mem (List.of_mem_zip hb).1) t2
            exact out _ (.ref p) _ (m.new hp' tt ⟨_, rfl, hw⟩) (Post.new m hp') (by rw [RepD, ext_self]) (by simp [D.top])
          · cases hy
        · cases hy
      · exact out.elim
    · exact out.elim
  · exact out.elim
end
end Dv
end

section
/-! Ds1 -/
/-! Ds1: a set of ints and texts, its table known to be walkable. -/
namespace Dv
open PySem PySem.Spec PyProof.Rows L2

def keyV : Value → Key
  | .int i _ => .inl i
  | .str x _ => .inr x
  | _ => .inl 0
def GoodK (w : World) (e : Int × Value) : Prop := ∃ k, RelV (kV k) e.2 ∧ e.1 = keyH w k
theorem keyV_of {k : Key} {u : Value} (r : RelV (kV k) u) : keyV u = k := by
  cases k with
  | inl i => obtain ⟨t, rfl⟩ := r; rfl
  | inr x => obtain ⟨t, rfl⟩ := r; rfl
def keysOf (es : Array (Int × Value)) : List Key := es.toList.map fun e => keyV e.2
/-- the set at a: its keys ks, in some order -/
def SetM (w : World) (h : Heap) (a : Addr) (ks : List Key) : Prop :=
  ∃ (o : Obj) (es : Array (Int × Value)) (ep : Nat) (t : SetTable), h.get? a = some o ∧ o.ExactSet ∧ o.data = .set es ep t ∧ (∀ e ∈ es.toList, GoodK w e) ∧ (keysOf es).Perm ks ∧ ks.Nodup ∧ ks.length < scanBound ∧ t.fits es.size = true ∧
    Ris t.place.toList ∧ (w.params.followText "set-order" = true ∨ t.led = true)
theorem keysOf_length (es : Array (Int × Value)) : (keysOf es).length = es.size := by simp [keysOf]
section
variable {P : Program} {w : World} {A : Around} {E : Value → Shared → Prop} {st : Shared} {a : Addr} {ks : List Key}
theorem SetM.at {h h' : Heap} (R : SetM w h a ks) (k : ∀ o, h.get? a = some o → h'.get? a = some o) : SetM w h' a ks := by
  obtain ⟨o, es, ep, t, ho, rest⟩ := R
  exact ⟨o, es, ep, t, k o ho, rest⟩
theorem goodK_elems {l : List (Int × Value)} (g : ∀ e ∈ l, GoodK w e) : ElemsOf (mixKind P w) l := fun e he => by
  obtain ⟨k, r, q⟩ := g e he
  exact ⟨⟨k, kV_is r, q⟩, key_scan r⟩
theorem goodK_is {e : Int × Value} (g : GoodK w e) (k : Key) : (mixKind P w).is k e.2 = true ↔ keyV e.2 = k := by
  obtain ⟨j, r, _⟩ := g
  rw [keyV_of r]
  exact ⟨fun q => (mixKind P w).inj _ _ _ (kV_is r) q, fun q => by rw [← q]; exact kV_is r⟩
/-- the tables laid down -/
theorem setM_stored {g : Bool → Sem Unit} (hg : ∀ (b : Bool) (s₁ : Shared) (Q' : Unit → Shared → Prop), Q' () s₁ → wpAny (model P w) A (g b) Q' E s₁) {o : Obj} {es es1 : Array (Int × Value)} {ep : Nat} {t t2 : SetTable} {js : List Key} {dm : Bool} {Q : Option Bool → Shared → Prop}
    (ho : st.heap.get? a = some o) (hx : o.ExactSet) (hd : o.data = .set es ep t) (g1 : ∀ e ∈ es1.toList, GoodK w e) (pm : (keysOf es1).Perm js) (nd : js.Nodup) (hb : js.length < scanBound) (hf : t2.fits es1.size = true) (hr : Ris t2.place.toList) (hl : w.params.followText "set-order" = true ∨ t2.led = true)
    (hQ : ∀ h', Heap.SameBut a st.heap h' → SetM w h' a js → Q (some true) { st with heap := h' }) :
    wpAny (model P w) A (storeSet a es1 t2 >>= fun _ => if (!dm && t2.tooFull) = true then (g (relayAll t2 es1 (SetTable.grown es1.size)).2.2 >>= fun _ => storeSet a (relayAll t2 es1 (SetTable.grown es1.size)).1 (relayAll t2 es1 (SetTable.grown es1.size)).2.1 >>= fun _ => pure (some true)) else pure (some true)) Q E st := by
  have len : ∀ {zs : Array (Int × Value)}, (keysOf zs).Perm js → zs.size < scanBound := fun {zs} p => by rw [← keysOf_length, p.length_eq]; exact hb
  refine wpAny_bind (wpAny_storeSet_of ho hd ?_ (fits_of_scanBound (len pm)))
  have at1 := store_at (es' := es1) (t' := t2) ho hd
  have same1 := Heap.SameBut.update st.heap a (Obj.putSet es1 t2)
  split
  case isFalse => exact wpAny_pure (hQ _ same1 ⟨_, es1, _, t2, at1, hx, rfl, g1, pm, nd, hb, hf, hr, hl⟩)
  case isTrue =>
    have q1 := relayAll_perm t2 es1 (SetTable.grown es1.size)
    have q2 := relayAll_fits t2 es1 (SetTable.grown es1.size)
    have q3 := relayAll_ris t2 es1 (SetTable.grown es1.size)
    have q4 := relayAll_led t2 es1 (SetTable.grown es1.size)
    generalize relayAll t2 es1 (SetTable.grown es1.size) = z at q1 q2 q3 q4 ⊢
    obtain ⟨es2, t3, gave⟩ := z
    dsimp only at q1 q2 q3 q4 ⊢
    have pm2 : (keysOf es2).Perm js := (q1.map fun (e : Int × Value) => keyV e.2).trans pm
    refine wpAny_bind (hg _ _ _ (wpAny_bind (wpAny_storeSet_of at1 rfl ?_ (fits_of_scanBound (len pm2)))))
    exact wpAny_pure (hQ _ (same1.trans (Heap.SameBut.update _ a _)) ⟨_, es2, _, t3, store_at (es' := es2) (t' := t3) at1 rfl, hx, rfl, fun e he => g1 e (q1.mem_iff.mp he), pm2, nd, hb, q2, q3, hl.imp id fun z => by rw [q4]; exact z⟩)
theorem any_mem {ks : List Key} {k : Key} : (ks.any fun j => decide (j = k)) = true ↔ k ∈ ks := by
  rw [List.any_eq_true]
  exact ⟨fun ⟨j, h, e⟩ => by rw [← of_decide_eq_true e]; exact h, fun h => ⟨k, h, decide_eq_true rfl⟩⟩
theorem setM_add {k : Key} {u : Value} {Q : Bool → Shared → Prop} (R : SetM w st.heap a ks) (r : RelV (kV k) u) (room : ks.length + 1 < scanBound) (hQ : ∀ b h', Heap.SameBut a st.heap h' → SetM w h' a (addK ks k) → Q b { st with heap := h' }) :
    wpAny (model P w) A (setAddHashed a u ((mixKind P w).hash k)) Q E st := by
  obtain ⟨o, es, ep, t, ho, hx, hd, g, pm, nd, hb, hf, hr, hl⟩ := R
  have isk : (mixKind P w).is k u = true := kV_is r
  have scn : u.scannable = true := key_scan r
  have els : ElemsOf (mixKind P w) es.toList := goodK_elems g
  have len : es.size < scanBound := by rw [← keysOf_length, pm.length_eq]; exact hb
  have mem : k ∈ ks ↔ ∃ e ∈ es.toList, (mixKind P w).is k e.2 = true := by
    rw [← pm.mem_iff, keysOf, List.mem_map]
    exact ⟨fun ⟨e, he, q⟩ => ⟨e, he, (goodK_is (g e he) k).mpr q⟩, fun ⟨e, he, q⟩ => ⟨e, he, (goodK_is (g e he) k).mp q⟩⟩
  unfold setAddHashed setAddHashedIn
  refine wpAny_holding (wpAny_bind (wpAny_setState_of ho hd hf ?_)); dsimp only
  rw [byScan_of scn len els]; simp only [↓reduceIte]; unfold setAddByScan
  refine wpAny_bind (wpAny_bind (wpAny_rule (wpAny_bind (wpAny_setScan_of isk ho hd hf els ?_))))
  cases fi : List.findIdx? (fun e => (mixKind P w).is k e.2) es.toList with
  | some j =>
    dsimp only
    obtain ⟨hj, pj, _⟩ := List.findIdx?_eq_some_iff_getElem.mp fi
    have hk : k ∈ ks := mem.mpr ⟨es.toList[j], List.getElem_mem hj, pj⟩
    refine wpAny_pure (wpAny_pure (hQ _ st.heap (Heap.SameBut.refl a st.heap) ?_))
    unfold addK
    rw [if_pos (any_mem.mpr hk)]
    exact ⟨o, es, ep, t, ho, hx, hd, g, pm, nd, hb, hf, hr, hl⟩
  | none =>
    dsimp only
    have hk : k ∉ ks := fun z => by
      obtain ⟨e, he, q⟩ := mem.mp z
      have c := List.findIdx?_eq_none_iff.mp fi e he
      rw [q] at c
      cases c
    have quiet : ∀ (b : Bool) (s₁ : Shared) (Q' : Unit → Shared → Prop), Q' () s₁ → wpAny (model P w) A (match b with | true => rule "set.scan.the-table-gave-way" | false => pure ()) Q' E s₁ := fun b s₁ Q' q => by cases b <;> first | exact wpAny_pure q | exact wpAny_rule q
    have q1 := layNew_perm t es ((mixKind P w).hash k) u
    have q2 := layNew_fits t es ((mixKind P w).hash k) u
    have q3 := layNew_ris t es ((mixKind P w).hash k) u hr
    have q4 := layNew_led t es ((mixKind P w).hash k) u
    generalize layNew t es ((mixKind P w).hash k) u = z at q1 q2 q3 q4 ⊢
    obtain ⟨es1, t1, dm, gave⟩ := z
    dsimp only at q1 q2 q3 q4 ⊢
    rw [Array.toList_push] at q1
    have add : addK ks k = ks ++ [k] := by unfold addK; rw [if_neg fun z => hk (any_mem.mp z)]
    have pm1 : (keysOf es1).Perm (addK ks k) := by
      have := q1.map fun (e : Int × Value) => keyV e.2
      rw [List.map_append] at this
      rw [add]
      refine this.trans (pm.append ?_)
      show [keyV u].Perm [k]
      rw [keyV_of r]
    have g1 : ∀ e ∈ es1.toList, GoodK w e := fun e he => by
      rcases List.mem_append.mp (q1.mem_iff.mp he) with z | z
      · exact g e z
      · rw [List.mem_singleton.mp z]; exact ⟨k, r, rfl⟩
    have nd1 : (addK ks k).Nodup := by
      rw [add]
      exact List.nodup_append.mpr ⟨nd, by simp, fun x hx y hy e => hk (by rw [← List.mem_singleton.mp hy, ← e]; exact hx)⟩
    have hb1 : (addK ks k).length < scanBound := by rw [add, List.length_append]; exact room
    have hl1 : w.params.followText "set-order" = true ∨ t1.led = true := hl.imp id fun z => by rw [q4]; exact z
    refine wpAny_bind (quiet _ _ _ ?_)
    split
    · refine wpAny_bind ?_
      rw [hashByValue_scannable 8 scn]
      refine wpAny_pure (setM_stored quiet ho hx hd g1 pm1 nd1 hb1 ?_ ?_ ?_ fun h' sb m => wpAny_pure (hQ _ h' sb m))
      · first | (split <;> first | exact q2 | exact SetTable.fits_plain_off q2) | exact q2
      · first | (split <;> exact q3) | exact q3
      · first | (split <;> exact hl1) | exact hl1
    · refine wpAny_bind (wpAny_pure ?_)
      simp only [↓reduceIte]
      exact setM_stored quiet ho hx hd g1 pm1 nd1 hb1 q2 q3 hl1 fun h' sb m => wpAny_pure (hQ _ h' sb m)
end
end Dv
end

section
/-! Ds2 -/
/-! Ds2: set(xs) of a list of ints and texts. -/
namespace Dv
open PySem PySem.Spec PyProof.Rows L2

theorem met_next {ks : List Key} {i : Nat} {k : Key} (h : ks[i]? = some k) : met ks (i + 1) = addK (met ks i) k := by
  unfold met
  rw [List.take_add_one, h, List.foldl_append]
  rfl
theorem addK_len (ks : List Key) (k : Key) : (addK ks k).length ≤ ks.length + 1 := by
  unfold addK
  split
  · omega
  · simp
theorem met_len (ks : List Key) : ∀ i, (met ks i).length ≤ i
  | 0 => by simp [met]
  | i + 1 => by
    cases h : ks[i]? with
    | none =>
      have : met ks (i + 1) = met ks i := by
        unfold met
        rw [List.take_add_one, h]
        simp
      rw [this]
      exact Nat.le_succ_of_le (met_len ks i)
    | some k =>
      rw [met_next h]
      have := met_len ks i
      have := addK_len (met ks i) k
      omega
/-- a new set's object -/
def freshSet (w : World) : Obj := { cls := .type "set", dict := none, data := .set #[] 0 (.fresh 0 0 (!w.params.followText "set-order")) }
section
variable {P : Program} {w : World} {A : Around} {E : Value → Shared → Prop} {st : Shared} {a : Addr}
theorem setM_fresh {h : Heap} (ho : h.get? a = some (freshSet w)) : SetM w h a [] :=
  ⟨_, #[], 0, _, ho, ⟨rfl, rfl, rfl⟩, rfl, fun e he => by simp at he, .nil, .nil, (by show 0 < scanBound; unfold scanBound; omega), rfl, .nil, by
    show _ ∨ (!w.params.followText "set-order") = true
    cases w.params.followText "set-order"
    · exact .inr rfl
    · exact .inl rfl⟩
theorem set_loop {R : Result → Shared → Prop} {I : Addr} {fp wr : List Addr} {Gr : Array GenState → Array GenState → Prop} {n : Nat} {Pv : Nat → Value → Prop} {St : Nat → Shared → Prop} (W : WalksS P w A.in1 I fp wr Gr n Pv St) (B : Addr) (hB : B ∉ fp) (ks : List Key) (hn : ks.length = n) (hroom : n + 1 < scanBound)
    (hval : ∀ i v, Pv i v → ∃ k, ks[i]? = some k ∧ RelV (kV k) v) : ∀ (left i : Nat) (z : Shared), i + left = n → St i z → SetM w z.heap B (met ks i) → (∀ z', Moved (B :: wr) Gr z z' → SetM w z'.heap B (met ks n) → R (.ok (.ret .none)) z') →
      codeAny (model P w) A (.builtin "set.update.loop" ⟨[.ref B, .ref I], []⟩) R z := by
  have nB : B ∉ wr := fun h => hB (W.sub _ h)
  have up : ∀ b ∈ wr, b ∈ B :: wr := fun b hb => List.mem_cons_of_mem _ hb
  intro left
  induction left with
  | zero =>
    intro i z hi hst hm hR
    obtain rfl : i = n := by omega
    refine codeAny_builtin F.entry_set_update_loop ?_; rw [Around.under_plainId F.plain_set_update_loop _]
    show wpAny _ A.in1 (pyNext (.ref I) >>= _) _ _ z
    exact wpAny_bind (W.done z _ _ hst fun z' mv => wpAny_pure (hR z' (mv.mono up) (hm.at fun o e => mv.heap B o nB e)))
  | succ left ih =>
    intro i z hi hst hm hR
    refine codeAny_builtin F.entry_set_update_loop ?_; rw [Around.under_plainId F.plain_set_update_loop _]
    show wpAny _ A.in1 (pyNext (.ref I) >>= _) _ _ z
    refine wpAny_bind (W.item i z _ _ (by omega) hst fun v z' hP hst' mv => ?_)
    obtain ⟨k, hk, r⟩ := hval i v hP
    show wpAny _ A.in1 (holding [v] (setAdd B v) >>= _) _ _ z'
    refine wpAny_bind (wpAny_holding ?_); unfold setAdd
    refine wpAny_holding (wpAny_bind ((mixKind P w).pyHash (k := k) (kV_is r) ?_))
    refine setM_add (st := { z' with toks := z'.toks + 1 }) (hm.at fun o e => mv.heap B o nB e) r (by have := met_len ks i; omega) fun b h' sb m2 => ?_
    refine wpAny_pure ⟨plainId_quiet F.plain_set_update_loop _, ih (i + 1) _ (by omega) (W.frame _ z' _ _ hst' (Nat.le_succ _) fun c hc o e => ?_) (by rw [met_next hk]; exact m2) fun z'' mv2 m3 => hR z'' (Moved.trans W.gtrans ((mv.mono up).then_heap (Nat.le_succ _) fun c o hc e => ?_) mv2) m3⟩
    · rw [sb.2 c fun h => hB (by rw [← h]; exact hc)]; exact e
    · rw [sb.2 c fun h => hc (by rw [h]; exact List.mem_cons_self)]; exact e
end
end Dv
end

section
/-! Ds3 -/
/-! Ds3: the call. -/
namespace Dv
open PySem PySem.Spec PyProof.Rows L2

section
variable {P : Program} {w : World} {A : Around} {E : Value → Shared → Prop} {st : Shared}
set_option maxHeartbeats 3200000 in
theorem set_of_list {l : Addr} {items : Array Value} {ks : List Key} {Q : Value → Shared → Prop} (hh : A.handled = none) (hl : st.heap.IsList l items) (hit : Vals (ks.map kV) items.toList) (room : ks.length + 1 < scanBound)
    (h : ∀ (h' : Heap) (tk : Nat), SetM w h' st.heap.objs.size (met ks ks.length) → (∀ b o, st.heap.get? b = some o → h'.get? b = some o) → Q (.ref st.heap.objs.size) { st with heap := h', toks := tk }) :
    wpAny (model P w) A (call (.type "set") [.ref l]) Q E st := by
  have sz : ks.length = items.size := by have q := hit.length; rw [List.length_map, Array.length_toList] at q; exact q
  obtain ⟨c, tl, mro⟩ := F.called_set.mro
  have k1 := F.called_set.made; have k2 := F.called_set.sub
  refine wpAny_call (codeAny_of_tree ?_); show wpAny _ _ (callAny (.type "set") _) _ _ _
  refine wpAny_pure ⟨Code.quiet_builtin _ (by decide +kernel), codeAny_builtin F.entry_type_call ?_⟩; rw [Around.under_plain (weight_type_call_type "set" [.ref l] []) rfl]
  have k3 := F.called_set.notType; have k4 := F.called_set.canCreate; have k5 := F.typeCall_set_1 (.ref l)
  repeat (any_goals (first | assumption | wp_step))
  refine codeAny_mono (code_set_led1 (.ref l) (E := E) (Q₁ := fun obj s₁ => obj = .ref st.heap.objs.size ∧ s₁ = { st with heap := st.heap.push (freshSet w) }) ⟨rfl, rfl⟩) fun r s₁ hr => ?_
  cases r with
  | error e => exact hr
  | ok fl =>
    cases fl with
    | next => exact hr.elim
    | brk => exact hr.elim
    | cont => exact hr.elim
    | ret obj =>
      obtain ⟨rfl, rfl⟩ := hr
      have hS : (st.heap.push (freshSet w)).get? st.heap.objs.size = some (freshSet w) := Heap.get?_push_size _ rfl
      have hT : Shared.TypeIs { st with heap := st.heap.push (freshSet w) } (.ref st.heap.objs.size) "set" := ⟨_, hS, rfl⟩
      have k6 := F.called_set.init.lookup; have k7 := F.called_set.init.bind (.ref st.heap.objs.size)
      repeat (any_goals (first | assumption | wp_step))
      refine codeAny_mono (codeAny_call_builtin (R := wants (fun r s₂ => r = .none ∧ ∃ h' tk, s₂ = { st with heap := h', toks := tk } ∧ SetM w h' st.heap.objs.size (met ks ks.length) ∧ ∀ b o, st.heap.get? b = some o → h'.get? b = some o) E) F.called_set.init.plain F.entry_set_init (check_set_init_1 hT ?_)) fun r₂ s₂ hr₂ => ?_
      · obtain ⟨ol, hol, hcl, nl, hdl⟩ := hl
        obtain ⟨ocls, odict, odata, oslots⟩ := ol
        simp only at hcl hdl; subst hcl; subst hdl
        have hol' : (st.heap.push (freshSet w)).get? l = some { cls := .type "list", dict := odict, data := .seq items nl, slots := oslots } := Heap.get?_push_of_some _ hol
        have m1 := F.sub_list_set; have m2 := F.sub_list_frozenset
        have m3 : (Value.type "list" == Value.type "dict") = false := by decide
        have hl1 : (st.heap.push (freshSet w)).IsList l items := ⟨_, hol', rfl, nl, rfl⟩
        have big : l < st.heap.objs.size := Heap.lt_size hol
        have zp : (st.heap.push (freshSet w)).objs.size = st.heap.objs.size + 1 := Heap.size_push ..
        unfold Builtin.«set.__init__» noKeywords Builtin.Frozenset.updateFrom; generalize hPI : pyIter = PI; wp_walk; subst hPI
        refine wpAny_pyIter_list hl1 (wpAny_bind (wpAny_runValue ?_))
        have neI : l ≠ (st.heap.push (freshSet w)).objs.size := by rw [zp]; exact Nat.ne_of_lt (Nat.lt_succ_of_lt big)
        have nin : st.heap.objs.size ∉ [(st.heap.push (freshSet w)).objs.size, l] := fun z => by
          rcases List.mem_cons.mp z with e | e
          · rw [zp] at e; exact Nat.ne_of_lt (Nat.lt_succ_self _) e
          · exact Nat.ne_of_gt big (List.mem_singleton.mp e)
        have hin : A.in1.in1.in1.handled = none := by simp [hh]
        have val : ∀ (i : Nat) (v : Value), items[i]? = some v → ∃ k, ks[i]? = some k ∧ RelV (kV k) v := fun i v hv => by
          have e : items.toList[i]? = some v := by rw [Array.getElem?_toList]; exact hv
          have hi : i < ks.length := by rw [sz]; exact (Array.getElem?_eq_some_iff.mp hv).1
          obtain ⟨u, q1, q2⟩ := hit.get (i := i) (x := kV ks[i]) (by rw [List.getElem?_map, List.getElem?_eq_getElem hi]; rfl)
          rw [e] at q1; cases q1
          exact ⟨ks[i], List.getElem?_eq_getElem hi, q2⟩
        refine set_loop ((Walks.list hin _ l neI items).toS) st.heap.objs.size nin ks sz (by rw [← sz]; exact room) val items.size 0 _ (Nat.zero_add _) ⟨⟨_, Heap.get?_push_size _ rfl, rfl, rfl⟩, hl1.push _⟩ (setM_fresh (Heap.get?_push_of_some _ hS)) fun z mv m => ?_
        obtain ⟨h', g', d', tk', os'⟩ := z
        obtain rfl : g' = st.gens := mv.gens
        obtain rfl : d' = st.drawn := mv.drawn
        obtain rfl : os' = st.os := mv.os
        refine wpAny_pure (wpAny_pure ⟨rfl, h', tk', rfl, by rw [sz]; exact m, fun b o e => ?_⟩)
        have lt := Heap.lt_size e
        exact mv.heap b o (fun z => by
          rcases List.mem_cons.mp z with e | e
          · exact Nat.ne_of_lt lt e
          · rw [List.mem_singleton.mp e, zp] at lt
            exact Nat.lt_irrefl _ (Nat.lt_trans (Nat.lt_succ_self _) lt)) (Heap.get?_push_of_some _ (Heap.get?_push_of_some _ e))
      · cases r₂ with
        | error e => exact hr₂
        | ok fl₂ =>
          cases fl₂ with
          | ret r =>
            obtain ⟨rfl, h', tk, rfl, m, kp⟩ := hr₂
            repeat (any_goals (first | assumption | wp_step))
            exact h _ _ m kp
          | next => exact hr₂.elim
          | brk => exact hr₂.elim
          | cont => exact hr₂.elim
end
end Dv
end

section
/-! Ds4 -/
/-! Ds4: sorted(set(xs)). -/
namespace Dv
open PySem PySem.Spec PyProof.Rows L2

/-! ### order -/
theorem keyLe_anti {a b : Ke} (h1 : keyLe a b = true) (h2 : keyLe b a = true) : a = b := by
  cases a with
  | inl i =>
    cases b with
    | inl j => simp only [keyLe, decide_eq_true_eq] at h1 h2; rw [Int.le_antisymm h1 h2]
    | inr y => cases h2
  | inr x =>
    cases b with
    | inl j => cases h1
    | inr y =>
      simp only [keyLe, decide_eq_true_eq] at h1 h2
      have e : x.cps.toList = y.cps.toList := List.le_antisymm h1 h2
      have e2 : x.cps = y.cps := Array.toList_inj.mp e
      cases x; cases y; cases e2; rfl
theorem keyLe_trans (a b c : Ke) (h1 : keyLe a b = true) (h2 : keyLe b c = true) : keyLe a c = true := by
  cases a <;> cases b <;> cases c <;> simp only [keyLe, decide_eq_true_eq] at h1 h2 ⊢ <;> first | exact Int.le_trans h1 h2 | exact List.le_trans h1 h2 | (cases h1; done) | (cases h2; done)
theorem keyLe_total (a b : Ke) : (keyLe a b || keyLe b a) = true := by
  rw [Bool.or_eq_true]
  cases a with
  | inl i => cases b with
    | inl j => simp only [keyLe, decide_eq_true_eq]; exact Int.le_total i j
    | inr y => exact .inl rfl
  | inr x => cases b with
    | inl j => exact .inr rfl
    | inr y => simp only [keyLe, decide_eq_true_eq]; exact List.le_total _ _
theorem perm_eq {α : Type} {le : α → α → Bool} (anti : ∀ a b, le a b = true → le b a = true → a = b) : ∀ {xs ys : List α}, xs.Perm ys → xs.Pairwise (fun a b => le a b = true) → ys.Pairwise (fun a b => le a b = true) → xs = ys
  | [], ys, p, _, _ => by rw [p.nil_eq]
  | x :: xs, [], p, _, _ => by have := p.length_eq; simp at this
  | x :: xs, y :: ys, p, h1, h2 => by
    have e : x = y := by
      have m1 : x ∈ y :: ys := p.mem_iff.mp List.mem_cons_self
      have m2 : y ∈ x :: xs := p.mem_iff.mpr List.mem_cons_self
      rcases List.mem_cons.mp m1 with e | m1
      · exact e
      · rcases List.mem_cons.mp m2 with e | m2
        · exact e.symm
        · exact anti x y ((List.pairwise_cons.mp h1).1 y m2) ((List.pairwise_cons.mp h2).1 x m1)
    subst e
    rw [perm_eq anti (List.Perm.cons_inv p) (List.pairwise_cons.mp h1).2 (List.pairwise_cons.mp h2).2]
theorem sort_perm {js ks : List Ke} (p : js.Perm ks) : js.mergeSort keyLe = ks.mergeSort keyLe :=
  perm_eq (fun _ _ => keyLe_anti) ((List.mergeSort_perm js keyLe).trans (p.trans (List.mergeSort_perm ks keyLe).symm)) (List.pairwise_mergeSort keyLe_trans keyLe_total js) (List.pairwise_mergeSort keyLe_trans keyLe_total ks)
theorem dataLe_key {js : List Ke} (h : oneKind js = true) {a b : Ke} (ha : a ∈ js) (hb : b ∈ js) : PySem.W.dataLe false (fun (p : D × PyData) => p.2) (keyD a, keyP a) (keyD b, keyP b) = keyLe a b := by
  unfold oneKind at h
  rw [Bool.or_eq_true, List.all_eq_true, List.all_eq_true] at h
  rcases h with h | h
  · have h1 := h a ha
    have h2 := h b hb
    cases a with
    | inr x => cases h1
    | inl i => cases b with
      | inr y => cases h2
      | inl j =>
        show (!PySem.W.dataLt (.int j) (.int i)) = decide (i ≤ j)
        rw [PySem.W.dataLt_int]
        by_cases q : i ≤ j
        · rw [decide_eq_true q, decide_eq_false (by omega)]; rfl
        · rw [decide_eq_false q, decide_eq_true (by omega)]; rfl
  · have h1 := h a ha
    have h2 := h b hb
    cases a with
    | inl i => cases h1
    | inr x => cases b with
      | inl j => cases h2
      | inr y =>
        show (!PySem.W.dataLt (.str y) (.str x)) = decide (x.cps.toList ≤ y.cps.toList)
        rw [PySem.W.dataLt_str]
        by_cases q : x.cps.toList ≤ y.cps.toList
        · rw [decide_eq_true q, decide_eq_false (List.not_lt.mpr q)]; rfl
        · rw [decide_eq_false q, decide_eq_true (List.not_le.mp q)]; rfl
theorem sort_keys {js : List Ke} (h : oneKind js = true) : (((js.map keyD).zip (js.map keyP)).mergeSort (PySem.W.dataLe false (·.2))).map (·.1) = (js.mergeSort keyLe).map keyD := by
  have e : (js.map keyD).zip (js.map keyP) = js.map fun j => (keyD j, keyP j) := by
    clear h
    induction js with
    | nil => rfl
    | cons j js ih => rw [List.map_cons, List.map_cons, List.zip_cons_cons, ih]; rfl
  rw [e, ← List.map_mergeSort (r := keyLe) (fun a ha b hb => (dataLe_key h ha hb).symm), List.map_map]
  rfl
theorem addK_mem {ks : List Ke} {k j : Ke} : j ∈ addK ks k → j ∈ ks ∨ j = k := by
  unfold addK
  split
  · exact .inl
  · intro h
    rcases List.mem_append.mp h with h | h
    · exact .inl h
    · exact .inr (List.mem_singleton.mp h)
theorem fold_mem {j : Ke} : ∀ {ks acc : List Ke}, j ∈ ks.foldl addK acc → j ∈ acc ∨ j ∈ ks
  | [], acc, h => .inl h
  | k :: ks, acc, h => by
    rcases fold_mem (ks := ks) h with h | h
    · rcases addK_mem h with h | h
      · exact .inl h
      · exact .inr (by rw [h]; exact List.mem_cons_self)
    · exact .inr (List.mem_cons_of_mem _ h)
theorem met_mem {ks : List Ke} {j : Ke} {n : Nat} (h : j ∈ met ks n) : j ∈ ks := by
  rcases fold_mem h with h | h
  · cases h
  · exact List.mem_of_mem_take h
theorem oneKind_sub {js ks : List Ke} (h : oneKind ks = true) (hs : ∀ j ∈ js, j ∈ ks) : oneKind js = true := by
  unfold oneKind at h ⊢
  rw [Bool.or_eq_true, List.all_eq_true, List.all_eq_true] at h ⊢
  exact h.imp (fun h j hj => h j (hs j hj)) fun h j hj => h j (hs j hj)
theorem keys_sortable {js : List Ke} (h : oneKind js = true) (hk : js.all keyOk = true) : sortable (js.map keyP) = true := by
  have h0 := h
  unfold oneKind at h
  rw [Bool.or_eq_true, List.all_eq_true, List.all_eq_true] at h
  unfold sortable
  have sh : (js.map keyP).all SeqAt.shaped = true := by
    rw [List.all_map]
    exact hk
  have al : ((js.map keyP).all fun a => (js.map keyP).all fun b => PySem.W.alike a b) = true := by
    simp only [List.all_eq_true, List.mem_map]
    rintro _ ⟨a, ha, rfl⟩ _ ⟨b, hb, rfl⟩
    rcases h with h | h
    · have h1 := h a ha
      have h2 := h b hb
      cases a <;> cases b <;> first | rfl | (cases h1; done) | (cases h2; done)
    · have h1 := h a ha
      have h2 := h b hb
      cases a <;> cases b <;> first | rfl | (cases h1; done) | (cases h2; done)
  rw [Bool.and_eq_true, Bool.and_eq_true]
  refine ⟨⟨al, ?_⟩, sh⟩
  rw [Bool.or_eq_true]
  refine .inr ?_
  rw [List.all_map, List.all_eq_true]
  intro j _
  cases j <;> rfl
theorem keyOk_sub {js ks : List Ke} (h : ks.all keyOk = true) (hs : ∀ j ∈ js, j ∈ ks) : js.all keyOk = true := by
  rw [List.all_eq_true] at h ⊢
  exact fun j hj => h j (hs j hj)
section
variable {X : Cx} {E : XK} {K : PySem.W.Frag}
/-- a set of keys, as it lies -/
def SetO (w : World) (p : Addr) (ks : List Ke) : HO := .ext fun h => SetM w h p ks
theorem setO_ok {P : Program} {w : World} {H : Hp} {h : Heap} {p : Addr} {ks : List Ke} (R : SetM w h p ks) : ObjOk P w H h p (SetO w p ks) :=
  ⟨R, (let ⟨o, _, _, _, ho, _⟩ := R; ⟨o, ho⟩), fun h1 h2 q k => SetM.at q k⟩
def rSetM (K : PySem.W.Frag) (w : World) : List V → Hp → VK → Prop := fun vs H Q => ∃ (a : Addr) (ks : List Ke), vs = [.ref a] ∧ SqL K H a (ks.map kV) ∧ ks.length < 4000 ∧ ∀ p, H p = none → Q (.ref p) (upd H p (SetO w p (met ks ks.length)))
theorem set_ok1 (hc : X.calm = true) : CallR X (.type "set") (rSetM X.K X.w) := by
  intro pn st σ H vs us Q I r h
  obtain ⟨a, ks, rfl, hs, hz, q⟩ := h
  obtain ⟨its, rv, pl, _⟩ := I.list hs
  rw [Vals.ref1 r]
  refine set_of_list (I.ok.hd hc) pl.isList (by simpa using rv) (by unfold scanBound; omega) fun h' tk m kp => ?_
  have lt : ∀ {b : Addr} {o : Obj}, st.heap.get? b = some o → b < st.heap.objs.size := fun e => Heap.lt_size e
  exact ⟨.ref st.heap.objs.size, _, I.laid (t' := tk) kp (Nat.le_refl _) (setO_ok m), rfl, q _ (I.hok.fresh (Nat.le_refl _))⟩
def rSortM (w : World) : List V → Hp → VK → Prop := fun vs H Q => ∃ (p : Addr) (L : List Ke), vs = [.ref p] ∧ H p = some (SetO w p L) ∧ oneKind L = true ∧ L.all keyOk = true ∧ L.length < 4000 ∧ (∀ k ∈ L, ∀ x, k = .inr x → x.length ≤ sizeLine) ∧ ∀ q, H q = none → Q (.ref q) (upd H q (.lst ((L.mergeSort keyLe).map kV)))
theorem vals_keys {w : World} : ∀ {us : List Value} {es : List (Int × Value)}, (∀ e ∈ es, GoodK w e) → us.Perm (es.map (·.2)) → Vals ((us.map keyV).map kV) us
  | us, es, g, pm => by
    have all : ∀ u ∈ us, ∃ k, RelV (kV k) u := fun u hu => by
      obtain ⟨e, he, q⟩ := List.mem_map.mp (pm.mem_iff.mp hu)
      obtain ⟨k, r, _⟩ := g e he
      exact ⟨k, by rw [← q]; exact r⟩
    clear pm
    induction us with
    | nil => exact .nil
    | cons u us ih =>
      obtain ⟨k, r⟩ := all u List.mem_cons_self
      exact .cons (by rw [keyV_of r]; exact r) (ih fun v hv => all v (List.mem_cons_of_mem _ hv))
theorem reps_keys {H : Hp} {α : Nat → Addr} : ∀ {ks : List Ke}, (∀ k ∈ ks, ∀ x, k = .inr x → x.length ≤ sizeLine) → RepDs K H α (ks.map keyD) (ks.map kV)
  | [], _ => rfl
  | k :: ks, h => ⟨kV k, ks.map kV, rfl, by
      cases k with
      | inl i => rfl
      | inr x => exact ⟨rfl, h _ List.mem_cons_self x rfl⟩, reps_keys fun j hj => h j (List.mem_cons_of_mem _ hj)⟩
theorem reps_inv {H : Hp} {α : Nat → Addr} : ∀ {ks : List Ke} {ws : List V}, RepDs K H α (ks.map keyD) ws → ws = ks.map kV
  | [], ws, h => h
  | k :: ks, ws, h => by
    rw [List.map_cons, RepDs] at h
    obtain ⟨v, w, rfl, h1, h2⟩ := h
    rw [reps_inv h2, List.map_cons]
    congr 1
    cases k with
    | inl i => simp only [keyD, RepD] at h1; exact h1
    | inr x => simp only [keyD, RepD] at h1; exact h1.1
theorem pys_keys {g : Nat → Option PyData} : ∀ ks : List Ke, D.pys g (ks.map keyD) = some (ks.map keyP)
  | [] => by simp [D.pys]
  | k :: ks => by
    rw [List.map_cons, D.pys, pys_keys ks]
    cases k <;> simp [keyD, keyP, D.py]
theorem sort_ok1 (hc : X.calm = true) (hu : X.A.units + 200 < cLine) : CallR X (.builtin "sorted") (rSortM X.w) := by
  intro pn st σ H vs us Q I r h
  obtain ⟨p, L, rfl, hp, hk, ho, hz, hsz', q⟩ := h
  have R : SetM X.w st.heap p L := (I.hok p _ hp).1
  obtain ⟨o, es, ep, t, ho', hx, hd, g, pm, nd, hb, hf, hr, hl⟩ := R
  have len : es.size < scanBound := by rw [← keysOf_length, pm.length_eq]; exact hb
  rw [Vals.ref1 r]
  refine Calls.call_function_entry PyProof.Rows.kind_sorted PyProof.Rows.plain_sorted PyProof.Rows.entry_sorted (PyProof.Rows.args_sorted1 _) ?_
  unfold Builtin.«sorted»
  refine wpAny_bind (m := checkCount "sorted" 1 1 _) (wpAny_pure ?_)
  refine wpAny_bind (collect_set (A := X.A.in1) (I.ok.hd hc) ⟨o, ho', hx.1, hd⟩ hf len hr hl fun z us k1 hsz g1 o1 po => ?_)
  obtain ⟨h', gn, d', tk, os'⟩ := z
  obtain rfl : os' = st.os := o1
  obtain rfl : gn = st.gens := g1
  have J : Inv X pn σ H { st with heap := h', gens := st.gens, drawn := d', toks := tk } := I.call (ch := []) (Un.kept k1) (I.hok.kept k1) I.bare fun _ z => nomatch z
  have pj : (us.map keyV).Perm L := ((po.map keyV).trans (by rw [List.map_map]; exact .refl _)).trans pm
  have sub : ∀ j ∈ us.map keyV, j ∈ L := fun j hj => pj.mem_iff.mp hj
  have hk' := oneKind_sub hk sub
  have hlen : us.length < 4000 := by rw [← List.length_map (f := keyV), pj.length_eq]; exact hz
  have rv := vals_keys g po
  have m0 : Sim X.K (fun _ => 0) ⟨[], 0⟩ H := ⟨fun i j hi => absurd hi (Nat.not_lt_zero _), fun i o e => by simp at e, fun i o e => by simp at e, Nat.le_refl _⟩
  refine wpAny_bind (wpAny_mono (sort_tail (Q := Q) (A := X.A.in1) (by simp only [Around.in1_units]; omega) J m0 (reps_keys (α := fun _ => 0) fun k hk x e => hsz' k (sub k hk) x e) rv (pys_keys _) (keys_sortable hk' (keyOk_sub ho sub)) (by rw [sizeLine_eq]; omega) fun ws p' hw hp' => ?_) (fun l s1 h => wpAny_bind (wpAny_holding (wpAny_mono h (fun _ s2 h => wpAny_pure ⟨l, rfl, h⟩) fun _ _ h => h))) fun _ _ h => h)
  rw [sort_keys hk', sort_perm pj] at hw
  rw [reps_inv hw]
  exact q p' hp'
end
end Dv
end

section
/-! De1 -/
/-! De1: enumerate(a tuple). -/
namespace Dv
open PySem PySem.Spec PyProof.Rows L2

/-- the tuple at a, each item in a new pair with its place -/
def Itet (K : PySem.W.Frag) (a : Addr) : L2.It where
  go := fun i H => ∃ (xs : List V) (x : V), SqT K H a xs ∧ xs[i]? = some x
  yld := fun i H v H' => ∃ T x o, v = .ref T ∧ o.dict = none ∧ H T = none ∧ H' = upd H T (.frz o (.tup [.int (i : Nat), x])) ∧ ∀ xs, SqT K H a xs → xs[i]? = some x
  stop := fun i H => ∃ xs : List V, SqT K H a xs ∧ xs.length ≤ i
theorem turn_enumT {P : Program} {w : World} {K : PySem.W.Frag} {elts : List Expr} {kk : Nat} {tpos : Pos} (a e it : Addr) (hai : a ≠ it) (hea : e ≠ a) :
    Turn P w K (.Tuple elts kk tpos) (Itet K a) [e, it] e (fun i h => (∃ old, IsEnum h e it ((i : Nat) : Int) old) ∧ h.IsTupleIter it a i ∧ e ≠ it) where
  mem := by simp
  obj := fun i h ⟨⟨old, he⟩, ⟨o, ho, hc, hd⟩, _⟩ b hb => by
    rcases List.mem_cons.mp hb with z | z
    · rw [z]; exact ⟨_, he, fun v q => nomatch q⟩
    · rw [List.mem_singleton.mp z]; exact ⟨o, ho, fun v q => by rw [hd] at q; cases q⟩
  keep := fun i h h' ⟨⟨old, he⟩, hi, hne⟩ k => ⟨⟨old, k e (by simp) _ he⟩, hi.at fun o q => k it (by simp) o q, hne⟩
  item := by
    intro X hP hw hK hc i pn st σ H E I hf ⟨⟨old, he⟩, hit, hne⟩ ⟨xs, x, hq, hx⟩
    subst hP hw hK
    obtain ⟨its, rv, tp, hz⟩ := I.tuple hq
    obtain ⟨u, hu, ru⟩ := rv.get hx
    have le : e < st.heap.objs.size := Heap.lt_size he
    have li : it < st.heap.objs.size := let ⟨_, q, _⟩ := hit; Heap.lt_size q
    have hin : i < its.toArray.size := by simpa using (List.getElem?_eq_some_iff.mp hu).1
    have D := Draws.tuple (prog := X.prog) (w := X.w) (A := X.A.in1) (I.ok.hd hc) it a hai its.toArray
    refine wpAny_pyNext_enum_itemD D he ⟨hit, tp⟩ hin hne (fun z => ?_) fun v h' tk hv ho hst hT hsz hk => ?_
    · rcases List.mem_cons.mp z with z | z
      · exact hne z
      · exact hea (List.mem_singleton.mp z)
    obtain rfl : u = v := by
      have : its.toArray[i]? = some v := hv
      rw [List.getElem?_toArray, hu] at this
      exact Option.some.inj this
    refine ⟨_, rfl, wpAny_letOwnedTupleGo_enum (s := { st with heap := h', toks := tk + 1 }) ho fun h2 he2 sb => ?_⟩
    have at2 : h2.get? st.heap.objs.size = some { cls := .type "tuple", data := .seq #[.int i tk, u] } := (sb.2 _ (Nat.ne_of_gt le)).trans hT
    have ob : ObjOk X.prog X.w (upd H st.heap.objs.size (.frz { cls := .type "tuple", data := .seq #[.int i tk, u] } (.tup [.int (i : Nat), x]))) h2 st.heap.objs.size (.frz { cls := .type "tuple", data := .seq #[.int i tk, u] } (.tup [.int (i : Nat), x])) := ⟨at2, by show 2 ≤ sizeLine; decide, [.int i tk, u], .cons ⟨_, rfl⟩ (.cons ru .nil), ⟨_, at2, rfl, _, rfl⟩⟩
    have J : Inv X pn σ (upd H st.heap.objs.size (.frz { cls := .type "tuple", data := .seq #[.int i tk, u] } (.tup [.int (i : Nat), x]))) { st with heap := h2, toks := tk + 1 } :=
      I.turnedNew (ch := [e, it]) (fun b o hb q => (sb.2 b fun z => hb (by simp [z])).trans (hk b o (fun z => hb (by simp [z])) (fun z => hb (by simp [z])) q)) hf (Nat.le_refl _) ob
    refine ⟨.ref st.heap.objs.size, _, J, rfl, ⟨_, x, _, rfl, rfl, I.hok.fresh (Nat.le_refl _), rfl, fun ys hy => by rw [I.tuple_inj hy hq]; exact hx⟩, ⟨⟨u, ?_⟩, hst.1.at fun o q => (sb.2 it (Ne.symm hne)).trans q, hne⟩, fun b hb => ?_⟩
    · have e1 : ((i + 1 : Nat) : Int) = (i : Int) + 1 := by omega
      rw [e1]; exact he2
    · have lb : b < st.heap.objs.size := by
        rcases List.mem_cons.mp hb with z | z
        · rw [z]; exact le
        · rw [List.mem_singleton.mp z]; exact li
      rw [upd_ne (Nat.ne_of_lt lb)]
      exact (hf b hb).1
  done := by
    intro X hP hw hK hc i pn st σ H E I hf ⟨⟨old, he⟩, hit, hne⟩ ⟨xs, hq, hx⟩
    subst hP hw hK
    obtain ⟨its, rv, tp, hz⟩ := I.tuple hq
    obtain ⟨f0, f1, f2, f3, f4, f5⟩ := hf it (by simp)
    have sz : its.toArray.size ≤ i := by have := rv.length; simp; omega
    have D : Draws X.prog X.w X.A.in1 it [it, a] i (fun _ _ => False) (fun j h => j = i ∧ h.IsTupleIter it a i ∧ h.IsTuple a its.toArray) :=
      ⟨fun _ _ q => let ⟨o, ho, _⟩ := q.2.1; ⟨o, ho⟩, fun _ _ _ q k => ⟨q.1, q.2.1.at fun o z => k it (by simp) o z, q.2.2.at fun o z => k a (by simp) o z⟩, fun j s Q E hj q => absurd q.1 (Nat.ne_of_lt hj), fun s Q E q hE => wpAny_nextOf_tuple_end (I.ok.hd hc) q.2.1 q.2.2 (Array.getElem?_eq_none sz) hE⟩
    exact wpAny_pyNext_enum_endD D he ⟨rfl, hit, tp⟩ fun h' x => ⟨rfl, I.turned (t' := st.toks) (fun b o hb q => x b o hb q) f0 f1 f3 f4 f5⟩
  self := fun A i st Q E ⟨⟨_, he⟩, _⟩ h => wpAny_pyIter_enum he h
/-- the list at a as it stands, each item in a new pair with its place -/
def Itel (K : PySem.W.Frag) (a : Addr) : L2.It where
  go := (Ite K a).go
  stop := (Ite K a).stop
  yld := fun i H v H' => ∃ T x o, v = .ref T ∧ o.dict = none ∧ H T = none ∧ H' = upd H T (.frz o (.tup [.int (i : Nat), x])) ∧ ∀ xs, SqL K H a xs → xs[i]? = some x
theorem turn_enumL {P : Program} {w : World} {K : PySem.W.Frag} {elts : List Expr} {kk : Nat} {tpos : Pos} (a e it : Addr) :
    Turn P w K (.Tuple elts kk tpos) (Itel K a) [e, it] e (fun i h => (∃ old, IsEnum h e it ((i : Nat) : Int) old) ∧ h.IsListIter it a i ∧ e ≠ it) where
  mem := (turn_enum (P := P) (w := w) (K := K) (elts := elts) (kk := kk) (tpos := tpos) a e it).mem
  obj := (turn_enum (P := P) (w := w) (K := K) (elts := elts) (kk := kk) (tpos := tpos) a e it).obj
  keep := (turn_enum (P := P) (w := w) (K := K) (elts := elts) (kk := kk) (tpos := tpos) a e it).keep
  done := (turn_enum (P := P) (w := w) (K := K) (elts := elts) (kk := kk) (tpos := tpos) a e it).done
  self := (turn_enum (P := P) (w := w) (K := K) (elts := elts) (kk := kk) (tpos := tpos) a e it).self
  item := by
    intro X hP hw hK hc i pn st σ H E I hf ⟨⟨old, he⟩, hit, hne⟩ ⟨xs, x, hq, hx⟩
    subst hP hw hK
    obtain ⟨its, rv, tp, hz⟩ := I.list hq
    obtain ⟨u, hu, ru⟩ := rv.get hx
    have le : e < st.heap.objs.size := Heap.lt_size he
    have li : it < st.heap.objs.size := let ⟨_, q, _⟩ := hit; Heap.lt_size q
    refine wpAny_pyNext_enum_item he hit tp.isList (x := u) (by simpa using hu) hne fun h' ho hst hT hsz hk => ⟨_, rfl, wpAny_letOwnedTupleGo_enum (s := { st with heap := h', toks := st.toks + 1 }) ho fun h2 he2 sb => ?_⟩
    have at2 : h2.get? st.heap.objs.size = some { cls := .type "tuple", data := .seq #[.int i st.toks, u] } := (sb.2 _ (Nat.ne_of_gt le)).trans hT
    have ob : ObjOk X.prog X.w (upd H st.heap.objs.size (.frz { cls := .type "tuple", data := .seq #[.int i st.toks, u] } (.tup [.int (i : Nat), x]))) h2 st.heap.objs.size (.frz { cls := .type "tuple", data := .seq #[.int i st.toks, u] } (.tup [.int (i : Nat), x])) := ⟨at2, by show 2 ≤ sizeLine; decide, [.int i st.toks, u], .cons ⟨_, rfl⟩ (.cons ru .nil), ⟨_, at2, rfl, _, rfl⟩⟩
    have J : Inv X pn σ (upd H st.heap.objs.size (.frz { cls := .type "tuple", data := .seq #[.int i st.toks, u] } (.tup [.int (i : Nat), x]))) { st with heap := h2, toks := st.toks + 1 } :=
      I.turnedNew (ch := [e, it]) (fun b o hb q => (sb.2 b fun z => hb (by simp [z])).trans (hk b o (fun z => hb (by simp [z])) (fun z => hb (by simp [z])) q)) hf (Nat.le_refl _) ob
    refine ⟨.ref st.heap.objs.size, _, J, rfl, ⟨_, x, _, rfl, rfl, I.hok.fresh (Nat.le_refl _), rfl, fun ys hy => by rw [I.list_inj hy hq]; exact hx⟩, ⟨⟨u, ?_⟩, hst.at fun o q => (sb.2 it (Ne.symm hne)).trans q, hne⟩, fun b hb => ?_⟩
    · have e1 : ((i + 1 : Nat) : Int) = (i : Int) + 1 := by omega
      rw [e1]; exact he2
    · have lb : b < st.heap.objs.size := by
        rcases List.mem_cons.mp hb with z | z
        · rw [z]; exact le
        · rw [List.mem_singleton.mp z]; exact li
      rw [upd_ne (Nat.ne_of_lt lb)]
      exact (hf b hb).1
set_option maxHeartbeats 1000000 in
theorem meets_enumT {v : Value} {o : Obj} {H : Heap → Prop} (B : Begins v o H) :
    Meets (Builtin.«enumerate.__new__» ⟨[.type "enumerate", v], []⟩) (fun _ R s => H s.heap ∧
      R (.ok (.ret (.ref (s.heap.push o).objs.size))) { s with heap := (s.heap.push o).push { cls := .type "enumerate", data := .fields #[.none, .bool false, .ref s.heap.objs.size, rawInt 0, .none, .none] } }) :=
  .of_wp fun prog w A R st ⟨h1, h⟩ => by
    obtain ⟨hp, g, d, tk, os⟩ := st
    have k1 := sub_enumerate
    have it : ∀ {A' : Around} {E : Value → Shared → Prop} {Q : Value → Shared → Prop}, Q (.ref hp.objs.size) ⟨hp.push o, g, d, tk, os⟩ → wpAny (model prog w) A' (pyIter v) Q E ⟨hp, g, d, tk, os⟩ := fun q => B.iter prog w _ _ ⟨hp, g, d, tk, os⟩ _ h1 q
    wp_walk using it
    refine wpAny_stack_any fun z => wpAny_pure ?_
    split
    · rename_i c _ _ _ _ _
      cases (c == Value.type "enumerate") <;> (wp_walk using it; exact ⟨_, rfl, h⟩)
    · wp_walk using it; exact ⟨_, rfl, h⟩
theorem call_enumT {prog : Program} {w : World} {A : Around} {E : Value → Shared → Prop} {st : Shared} {v : Value} {o : Obj} {H : Heap → Prop} {Q : Value → Shared → Prop} (B : Begins v o H) (h1 : H st.heap)
    (h : ∀ h', IsEnum h' (st.heap.objs.size + 1) st.heap.objs.size 0 .none → h'.get? st.heap.objs.size = some o → (∀ b o, st.heap.get? b = some o → h'.get? b = some o) → Q (.ref (st.heap.objs.size + 1)) { st with heap := h' }) :
    wpAny (model prog w) A (call (.type "enumerate") [v]) Q E st := by
  refine callType_new F.called_enumerate (by decide) (F.typeCall_enumerate_1 _) (F.newCall_enumerate_1 _) (fun obj => F.args_object_init_2 obj _) F.entry_enumerate_new (meets_enumT B) ⟨h1, ?_⟩
  have hz : (st.heap.push o).objs.size = st.heap.objs.size + 1 := Heap.size_push ..
  show _ ∧ _
  rw [hz]
  have he : IsEnum ((st.heap.push o).push { cls := .type "enumerate", data := .fields #[.none, .bool false, .ref st.heap.objs.size, rawInt 0, .none, .none] }) (st.heap.objs.size + 1) st.heap.objs.size 0 .none := by
    have q := Heap.get?_push_size (st.heap.push o) (o := { cls := .type "enumerate", data := .fields #[.none, .bool false, .ref st.heap.objs.size, rawInt 0, .none, .none] }) rfl
    rw [hz] at q; exact q
  exact ⟨⟨_, he, rfl⟩, h _ he (Heap.get?_push_of_some _ (Heap.get?_push_size _ B.free)) fun b o x => Heap.get?_push_of_some _ (Heap.get?_push_of_some _ x)⟩
end Dv
end

section
/-! Dv9 -/
/-! Dv9: what the evaluator makes of an expression, as a reading of the expression: the frame, the plain forms. -/
namespace Dv
open PySem PySem.Spec PyProof.Rows L2

/-- the slots -/
structure Slt (K : PySem.W.Frag) (α : Nat → Addr) (s : S) (H : Hp) (σ' : Sl) (σ : L2.St) : Prop where
  len : σ.length = σ'.length
  get : ∀ (i : Nat) (d : D), σ'[i]? = some (some d) → d.top ≤ s.h.length ∧ ∃ v, σ[i]? = some (some v) ∧ RepD K H α d v
/-- an outcome and what is wanted of it -/
def OutG {β γ : Type} (K : PySem.W.Frag) (E : XK) (rep : (Nat → Addr) → S → Hp → β → γ → Prop) (α : Nat → Addr) (s : S) (H : Hp) (Q : γ → Hp → Prop) : R β → Prop
  | .ok b s' => ∀ α' g H', Sim K α' s' H' → Post α s H α' s' H' → rep α' s' H' b g → Q g H'
  | .exc e s' => ∀ α' H' c d, Sim K α' s' H' → Post α s H α' s' H' → ExRep K H' α' e c d → E c d H'
  | .bad => False
abbrev Rp (β γ : Type) := (Nat → Addr) → S → Hp → β → γ → Prop
abbrev Mo (β : Type) := Sl → S → R β
def rpV (K : PySem.W.Frag) : Rp D V := fun α s H d v => RepD K H α d v ∧ d.top ≤ s.h.length
def rpVs (K : PySem.W.Frag) : Rp (List D) (List V) := fun α s H d v => RepDs K H α d v ∧ D.tops d ≤ s.h.length
def rpB : Rp Bool Bool := fun _ _ _ b c => b = c
/-- the reading -/
def tG {β γ : Type} (K : PySem.W.Frag) (E : XK) (rep : Rp β γ) (m : Mo β) : L2.St → Hp → (γ → Hp → Prop) → Prop :=
  fun σ H Q => ∃ α s σ', Sim K α s H ∧ Slt K α s H σ' σ ∧ OutG K E rep α s H Q (m σ' s)
abbrev tE (K : PySem.W.Frag) (E : XK) (m : Mo D) : TE := tG K E (rpV K) m
abbrev tT (K : PySem.W.Frag) (E : XK) (m : Mo Bool) : TT := tG K E rpB m
abbrev tA (K : PySem.W.Frag) (E : XK) (m : Mo (List D)) : TA := tG K E (rpVs K) m

section
variable {K : PySem.W.Frag} {E : XK} {α α' α1 : Nat → Addr} {s s' s1 : S} {H H' H1 : Hp} {σ' : Sl} {σ : L2.St}
theorem Slt.post (m : Sim K α s H) (p : Post α s H α' s' H') (h : Slt K α s H σ' σ) : Slt K α' s' H' σ' σ :=
  ⟨h.len, fun i d e => by
    obtain ⟨t, v, q, r⟩ := h.get i d e
    exact ⟨Nat.le_trans t p.len, v, q, p.rep m t r⟩⟩
variable {β γ β' γ' : Type} {rep : Rp β γ} {rep' : Rp β' γ'} {r : R β}
theorem OutG.post {Q : γ → Hp → Prop} (m : Sim K α1 s1 H1) (p : Post α s H α1 s1 H1) (h : OutG K E rep α s H Q r) : OutG K E rep α1 s1 H1 Q r := by
  cases r with
  | ok d s' => exact fun α' v H' m' q r => h α' v H' m' (p.trans m q) r
  | exc e s' => exact fun α' H' c d m' q r => h α' H' c d m' (p.trans m q) r
  | bad => exact h
theorem OutG.imp {Q Q' : γ → Hp → Prop} (h : OutG K E rep α s H Q r) (i : ∀ v H', Q v H' → Q' v H') : OutG K E rep α s H Q' r := by
  cases r with
  | ok d s' => exact fun α' v H' m' q r => i _ _ (h α' v H' m' q r)
  | exc e s' => exact h
  | bad => exact h
/-- what a part leaves to the whole -/
theorem OutG.bind {f : β → S → R β'} {Q : γ' → Hp → Prop} (m0 : Sim K α s H) (sl : Slt K α s H σ' σ) (h : OutG K E rep' α s H Q (r.bind f)) :
    OutG K E rep α s H (fun g H' => ∃ α' s' b, Sim K α' s' H' ∧ Slt K α' s' H' σ' σ ∧ Post α s H α' s' H' ∧ rep α' s' H' b g ∧ OutG K E rep' α' s' H' Q (f b s')) r := by
  cases r with
  | ok b s1 => exact fun α' g H' m p r => ⟨α', s1, b, m, sl.post m0 p, p, r, OutG.post m p h⟩
  | exc e s1 => exact h
  | bad => exact h
theorem OutG.v {r : R D} {Q : V → Hp → Prop} (h : OutG K E (rpV K) α s H Q r) : Out K E α s H Q r := by
  cases r with
  | ok d s' => exact fun α' v H' m' q r t => h α' v H' m' q ⟨r, t⟩
  | exc e s' => exact h
  | bad => exact h
theorem OutG.of {r : R D} {Q : V → Hp → Prop} (h : Out K E α s H Q r) : OutG K E (rpV K) α s H Q r := by
  cases r with
  | ok d s' => exact fun α' v H' m' q r => h α' v H' m' q r.1 r.2
  | exc e s' => exact h
  | bad => exact h
end
section
variable {X : Cx} {E : XK} {a b c : Expr} {pos : Pos}
theorem _root_.L2.PE.imp {e : Expr} {t t' : TE} (h : PE X e t) (i : ∀ σ H Q, t' σ H Q → t σ H Q) : PE X e t' := ⟨fun pins s σ H Q I q => h.run pins s σ H Q I (i σ H Q q)⟩
theorem _root_.L2.PT.imp {e : Expr} {t t' : TT} (h : PT X e t) (i : ∀ σ H Q, t' σ H Q → t σ H Q) : PT X e t' := ⟨fun pins s σ H Q I q => h.run pins s σ H Q I (i σ H Q q)⟩
theorem _root_.L2.PW.imp {e : Expr} {t t' : TT} (h : PW X e t) (i : ∀ σ H Q, t' σ H Q → t σ H Q) : PW X e t' := ⟨fun w pins s σ H Q I q => h.run w pins s σ H Q I (i σ H Q q)⟩
theorem _root_.L2.PA.imp {e : List Expr} {t t' : TA} (h : PA X e t) (i : ∀ σ H Q, t' σ H Q → t σ H Q) : PA X e t' := ⟨fun p pins s σ H Q I q => h.run p pins s σ H Q I (i σ H Q q)⟩
variable {K : PySem.W.Frag} {β γ β' γ' : Type} {rep : Rp β γ} {rep' : Rp β' γ'} {m : Mo β} {f : Sl → β → S → R β'} {σ : L2.St} {H : Hp}
theorem tG.imp {Q Q' : γ → Hp → Prop} (h : tG K E rep m σ H Q) (i : ∀ v H', Q v H' → Q' v H') : tG K E rep m σ H Q' := by
  obtain ⟨α, s, σ', m0, sl, o⟩ := h
  exact ⟨α, s, σ', m0, sl, o.imp i⟩
/-- a part first -/
theorem tG.bind {Q : γ' → Hp → Prop} (h : tG K E rep' (fun σ' s => (m σ' s).bind (f σ')) σ H Q) :
    tG K E rep m σ H fun g H' => ∃ α s σ' b, Sim K α s H' ∧ Slt K α s H' σ' σ ∧ rep α s H' b g ∧ OutG K E rep' α s H' Q (f σ' b s) := by
  obtain ⟨α, s, σ', m0, sl, o⟩ := h
  exact ⟨α, s, σ', m0, sl, (OutG.bind m0 sl o).imp fun g H' ⟨α1, s1, b, m1, sl1, p, r, o1⟩ => ⟨α1, s1, σ', b, m1, sl1, r, o1⟩⟩
/-- two parts first -/
theorem tG.bind2 {β2 γ2 : Type} {rep2 : Rp β2 γ2} {m2 : Mo β2} {f : Sl → β → β2 → S → R β'} {Q : γ' → Hp → Prop} (kp : ∀ {α s H b g α' s' H'}, Sim K α s H → Post α s H α' s' H' → rep α s H b g → rep α' s' H' b g)
    (h : tG K E rep' (fun σ' s => (m σ' s).bind fun x s => (m2 σ' s).bind fun y s => f σ' x y s) σ H Q) :
    tG K E rep m σ H fun g H' => tG K E rep2 m2 σ H' fun g2 H2 => ∃ α s σ' x y, Sim K α s H2 ∧ Slt K α s H2 σ' σ ∧ rep α s H2 x g ∧ rep2 α s H2 y g2 ∧ OutG K E rep' α s H2 Q (f σ' x y s) := by
  refine tG.imp (tG.bind (m := m) (f := fun σ' x s => (m2 σ' s).bind fun y s => f σ' x y s) h) fun g H' ⟨α, s, σ', x, m0, sl, r, o⟩ => ?_
  exact ⟨α, s, σ', m0, sl, (OutG.bind m0 sl o).imp fun g2 H2 ⟨α1, s1, y, m1, sl1, p, r2, o1⟩ => ⟨α1, s1, σ', x, y, m1, sl1, kp m0 p r, r2, o1⟩⟩
theorem rpV.kp {α : Nat → Addr} {s : S} {H : Hp} {b : D} {g : V} {α' : Nat → Addr} {s' : S} {H' : Hp} (m : Sim K α s H) (p : Post α s H α' s' H') (r : rpV K α s H b g) : rpV K α' s' H' b g := ⟨p.rep m r.2 r.1, Nat.le_trans r.2 p.len⟩
theorem rpVs.kp {α : Nat → Addr} {s : S} {H : Hp} {b : List D} {g : List V} {α' : Nat → Addr} {s' : S} {H' : Hp} (m : Sim K α s H) (p : Post α s H α' s' H') (r : rpVs K α s H b g) : rpVs K α' s' H' b g := ⟨p.reps m r.2 r.1, Nat.le_trans r.2 p.len⟩
theorem rpB.kp {α : Nat → Addr} {s : S} {H : Hp} {b : Bool} {g : Bool} {α' : Nat → Addr} {s' : S} {H' : Hp} (m : Sim K α s H) (p : Post α s H α' s' H') (r : rpB α s H b g) : rpB α' s' H' b g := r
theorem OutG.now {α : Nat → Addr} {s : S} {b : β} {g : γ} {Q : γ → Hp → Prop} (m : Sim K α s H) (r : rep α s H b g) (h : OutG K E rep α s H Q (.ok b s)) : Q g H := h α g H m .refl r

theorem tE.b1 {ma : Mo D} {f : Sl → D → S → R β'} {Q : γ' → Hp → Prop} {R0 : V → Hp → Prop} (h : tG K E rep' (fun σ' s => (ma σ' s).bind (f σ')) σ H Q)
    (k : ∀ v H' α s σ' x, Sim K α s H' → Slt K α s H' σ' σ → RepD K H' α x v → x.top ≤ s.h.length → OutG K E rep' α s H' Q (f σ' x s) → R0 v H') : tE K E ma σ H R0 :=
  (tG.bind (rep := rpV K) h).imp fun v H' ⟨α, s, σ', x, m, sl, r, o⟩ => k v H' α s σ' x m sl r.1 r.2 o
theorem tE.b2 {ma mb : Mo D} {f : Sl → D → D → S → R β'} {Q : γ' → Hp → Prop} {R0 : V → V → Hp → Prop} (h : tG K E rep' (fun σ' s => (ma σ' s).bind fun x s => (mb σ' s).bind fun y s => f σ' x y s) σ H Q)
    (k : ∀ v u H' α s σ' x y, Sim K α s H' → Slt K α s H' σ' σ → RepD K H' α x v → RepD K H' α y u → x.top ≤ s.h.length → y.top ≤ s.h.length → OutG K E rep' α s H' Q (f σ' x y s) → R0 v u H') :
    tE K E ma σ H fun v H1 => tE K E mb σ H1 fun u H2 => R0 v u H2 :=
  (tG.bind2 (rep := rpV K) (rep2 := rpV K) rpV.kp h).imp fun v H1 h => h.imp fun u H' ⟨α, s, σ', x, y, m, sl, r, r2, o⟩ => k v u H' α s σ' x y m sl r.1 r2.1 r.2 r2.2 o
theorem tA.b1 {ma : Mo (List D)} {f : Sl → List D → S → R β'} {Q : γ' → Hp → Prop} {R0 : List V → Hp → Prop} (h : tG K E rep' (fun σ' s => (ma σ' s).bind (f σ')) σ H Q)
    (k : ∀ v H' α s σ' x, Sim K α s H' → Slt K α s H' σ' σ → RepDs K H' α x v → D.tops x ≤ s.h.length → OutG K E rep' α s H' Q (f σ' x s) → R0 v H') : tA K E ma σ H R0 :=
  (tG.bind (rep := rpVs K) h).imp fun v H' ⟨α, s, σ', x, m, sl, r, o⟩ => k v H' α s σ' x m sl r.1 r.2 o
theorem tG.mk {ma : Mo β} {Q : γ → Hp → Prop} {α : Nat → Addr} {s : S} {σ' : Sl} (m : Sim K α s H) (sl : Slt K α s H σ' σ) (o : OutG K E rep α s H Q (ma σ' s)) : tG K E rep ma σ H Q := ⟨α, s, σ', m, sl, o⟩

/-! ### names, constants -/
theorem px_loc {i : Nat} {x : Str} (hN : X.N[i]? = some x) (hv : Vis X.env.scope x) (hd : (x == ("__debug__" : Str)) = false) (hcd : (x == ("__classdict__" : Str)) = false) :
    PE X (.Name x pos) (tE X.K E fun σ s => match σ[i]? with
      | some (some d) => .ok d s
      | _ => .bad) := by
  refine (pe_var hN hv hd hcd).imp fun σ H Q ⟨α, s, σ', m, sl, o⟩ => ?_
  dsimp only at o
  split at o
  · rename_i d e
    obtain ⟨t, v, q, r⟩ := sl.get i d e
    exact ⟨v, q, o.now m ⟨r, t⟩⟩
  · exact o.elim
theorem px_int {i : Int} {j} : PE X (.Constant (.int i) j pos) (tE X.K E fun _ s => .ok (.int i) s) := pe_int.imp fun σ H Q ⟨α, s, σ', m, sl, o⟩ => o.now m ⟨rfl, top_int⟩
theorem px_bl {i : Bool} {j} : PE X (.Constant (.bool i) j pos) (tE X.K E fun _ s => .ok (.bl i) s) := pe_bl.imp fun σ H Q ⟨α, s, σ', m, sl, o⟩ => o.now m ⟨rfl, top_bl⟩
theorem px_non {j} : PE X (.Constant .none j pos) (tE X.K E fun _ s => .ok .non s) := pe_non.imp fun σ H Q ⟨α, s, σ', m, sl, o⟩ => o.now m ⟨rfl, by simp [D.top]⟩
theorem px_str {x : Str} {j} (hz : x.length ≤ sizeLine) : PE X (.Constant (.str x) j pos) (tE X.K E fun _ s => .ok (.str x) s) := pe_str.imp fun σ H Q ⟨α, s, σ', m, sl, o⟩ => o.now m ⟨⟨rfl, hz⟩, top_str⟩

/-! ### operators -/
variable {ma mb mc : Mo D}
theorem px_bin (o : BO) (ha : PE X a (tE X.K E ma)) (hb : PE X b (tE X.K E mb)) :
    PE X (.BinOp a o.op b pos) (tE X.K E fun σ s => (ma σ s).bind fun x s => (mb σ s).bind fun y s => binop o x y s) := by
  refine (pe_op (op_ok (E := E) o) ha hb).imp fun σ H Q h => ?_
  exact tE.b2 h fun v u H' α s σ' x y m sl rx ry tx ty o => ⟨α, s, x, y, m, rx, ry, tx, ty, o.v⟩
theorem px_neg (ha : PE X a (tE X.K E ma)) : PE X (.UnaryOp .USub a pos) (tE X.K E fun σ s => (ma σ s).bind fun x s => match x with
    | .int i => .ok (.int (-i)) s
    | _ => .bad) := by
  refine (pe_un un_neg ha).imp fun σ H Q h => ?_
  refine tE.b1 h fun v H1 α s σ' x m sl r tx o => ?_
  split at o
  · rename_i i
    simp only [RepD] at r
    exact ⟨i, r, o.now m ⟨rfl, top_int⟩⟩
  · exact o.elim
theorem px_cmp (hu : X.A.units + 150 < cLine) (o : CO) (ha : PE X a (tE X.K E ma)) (hb : PE X b (tE X.K E mb)) (hm : behindInMarks o.op b = false) :
    PE X (.Compare a [o.op] [b] pos) (tE X.K E fun σ s => (ma σ s).bind fun x s => (mb σ s).bind fun y s => cmpR o x y s) := by
  refine (pe_cmpR (cmp_ok (E := E) hu o) ha hb hm).imp fun σ H Q h => ?_
  exact tE.b2 h fun v u H' α s σ' x y m sl rx ry tx ty o => ⟨α, s, x, y, m, rx, ry, tx, ty, o.v⟩
theorem px_ix (hu : X.A.units + 150 < cLine) (ha : PE X a (tE X.K E ma)) (hb : PE X b (tE X.K E mb)) (hs : PlainIx b) :
    PE X (.Subscript a b pos) (tE X.K E fun σ s => (ma σ s).bind fun x s => (mb σ s).bind fun y s => idxR x y s) := by
  refine (pe_ix (ix_ok (E := E) hu) ha hb hs).imp fun σ H Q h => ?_
  exact tE.b2 h fun v u H' α s σ' x y m sl rx ry tx ty o => ⟨α, s, x, y, m, rx, ry, tx, ty, o.v⟩

/-! ### argument lists -/
variable {es : List Expr} {ms : Mo (List D)} {e : Expr}
theorem px_nil : PA X [] (tA X.K E fun _ s => .ok [] s) := pa_nil.imp fun σ H Q ⟨α, s, σ', m, sl, o⟩ => o.now m ⟨rfl, by simp [D.tops]⟩
theorem px_cons (ha : PE X e (tE X.K E ma)) (hr : PA X es (tA X.K E ms)) (hs : starEach (e :: es) X.env = (false, eval e X.env) :: starEach es X.env) :
    PA X (e :: es) (tA X.K E fun σ s => (ma σ s).bind fun x s => (ms σ s).bind fun xs s => .ok (x :: xs) s) := by
  refine (pa_cons ha hr hs).imp fun σ H Q h => ?_
  refine (tG.bind2 (rep := rpV X.K) (rep2 := rpVs X.K) rpV.kp h).imp fun v H1 h => h.imp fun u H' ⟨α, s, σ', x, y, m, sl, r, r2, o⟩ => o.now m ⟨⟨v, u, rfl, r.1, r2.1⟩, by rw [D.tops]; exact Nat.max_le.mpr ⟨r.2, r2.2⟩⟩
theorem px_tup (hz : es.length ≤ sizeLine) (hm : ∀ σ s ds s', ms σ s = .ok ds s' → ds.length = es.length) {x1} (h : PA X es (tA X.K E ms)) : PE X (.Tuple es x1 pos) (tE X.K E fun σ s => (ms σ s).bind fun ds s => .ok (.tup ds) s) := by
  refine (pe_tupF h).imp fun σ H Q ⟨α, s, σ', m, sl, o⟩ => ⟨α, s, σ', m, sl, ?_⟩
  dsimp only at o
  cases e : ms σ' s with
  | ok ds s1 =>
    rw [e] at o
    intro α1 g H1 m1 p r
    refine ⟨by rw [r.1.length, hm _ _ _ _ e]; exact hz, fun q ob ho hq => ?_⟩
    exact OutG.post m1 p o α1 (.ref q) _ (m1.aside hq) (.aside hq) ⟨⟨q, _, rfl, .inl ⟨_, upd_same, ho⟩, (Post.aside hq).reps m1 r.2 r.1⟩, by rw [D.top]; exact r.2⟩
  | exc e1 s1 => rw [e] at o; exact o
  | bad => rw [e] at o; exact o
theorem px_lst (hz : es.length ≤ sizeLine) (hm : ∀ σ s ds s', ms σ s = .ok ds s' → ds.length = es.length) (h : PA X es (tA X.K E ms)) : PE X (.List es pos) (tE X.K E fun σ s => (ms σ s).bind fun ds s => s.new (.list ds)) := by
  refine (pe_lst h).imp fun σ H Q ⟨α, s, σ', m, sl, o⟩ => ⟨α, s, σ', m, sl, ?_⟩
  dsimp only at o
  cases e : ms σ' s with
  | ok ds s1 =>
    rw [e] at o
    intro α1 g H1 m1 p r
    refine ⟨by rw [r.1.length, hm _ _ _ _ e]; exact hz, fun q hq => ?_⟩
    exact OutG.post m1 p o _ (.ref q) _ (m1.new hq r.2 ⟨_, rfl, r.1⟩) (Post.new m1 hq) ⟨by rw [RepD, ext_self], by simp [D.top]⟩
  | exc e1 s1 => rw [e] at o; exact o
  | bad => rw [e] at o; exact o
/-! ### calls -/
theorem px_call {f : List D → S → R D} {whole : Expr} (hp : PE X whole (tCB (rCF X.K E f) (tA X.K E ms))) : PE X whole (tE X.K E fun σ s => (ms σ s).bind fun ds s => f ds s) :=
  hp.imp fun σ H Q h => tA.b1 h fun v H' α s σ' x m sl r t o => ⟨α, s, x, m, r, t, o.v⟩
/-- a call of a def of the text -/
theorem pe_callG {x : Str} {p : Pos} {g : Addr} {t : TA} {r : List V → Hp → VK → Prop} (hc : CallR X (.ref g) r) (hg : Gl X x) (hm : X.mg x = some (.ref g)) (hk : PySem.W.keepIn X.K (.ref g) = true) (ha : PA X (e :: es) t) (hdb : (x == ("__debug__" : Str)) = false)
    (he : starEach (e :: es) X.env = (false, eval e X.env) :: starEach es X.env) (hpl : (backTo pos (starEach es X.env)).any (·.1) = false) : PE X (.Call (.Name x p) (e :: es) [] pos) (tCB r t) :=
  ⟨fun pins s σ H Q I h => wpAny_Call_Name_kw (ld_glob I hg hm (PySem.W.callWith_K (h₀ := X.base) I.ok.mod.kin hk
    (thn (ha.run pos pins s σ H _ I h) fun us s1 ⟨vs, H1, I1, ru, q⟩ => ⟨I1.kIn, hc pins s1 σ H1 vs us Q I1 ru q⟩) he hpl) hdb)⟩
theorem pe_callG0 {x : Str} {p : Pos} {g : Addr} {r : List V → Hp → VK → Prop} (hc : CallR X (.ref g) r) (hg : Gl X x) (hm : X.mg x = some (.ref g)) (hk : PySem.W.keepIn X.K (.ref g) = true) (hdb : (x == ("__debug__" : Str)) = false) :
    PE X (.Call (.Name x p) [] [] pos) (tCB r tNil) :=
  ⟨fun pins s σ H Q I h => wpAny_Call_Name_kw (ld_glob I hg hm (PySem.W.callWith_K0 I.kIn hk (hc pins s σ H [] [] Q I .nil h)) hdb)⟩
end
end Dv
end

section
/-! Dv10 -/
/-! Dv10: tests, and, or, not, if, chains, methods, slices. -/
namespace Dv
open PySem PySem.Spec PyProof.Rows L2

theorem R.bind_assoc {α β γ : Type} (r : R α) (f : α → S → R β) (g : β → S → R γ) : (r.bind f).bind g = r.bind fun a s => (f a s).bind g := by cases r <;> rfl
def tst (m : Mo D) : Mo Bool := fun σ s => (m σ s).bind testD
def andM (ma mr : Mo D) : Mo D := fun σ s => (ma σ s).bind fun x s => boolD x s fun b => match b with
  | true => mr σ s
  | false => .ok x s
def orM (ma mr : Mo D) : Mo D := fun σ s => (ma σ s).bind fun x s => boolD x s fun b => match b with
  | true => .ok x s
  | false => mr σ s
def notM (ma : Mo D) : Mo D := fun σ s => (ma σ s).bind fun x s => (testD x s).bind fun b s => .ok (.bl (!b)) s
def ifM {β : Type} (mc : Mo D) (ma mb : Mo β) : Mo β := fun σ s => (mc σ s).bind fun x s => (testD x s).bind fun t s => match t with
  | true => ma σ s
  | false => mb σ s
theorem tst_and (ma mr : Mo D) : tst (andM ma mr) = fun σ s => (tst ma σ s).bind fun c s => match c with
  | true => tst mr σ s
  | false => .ok false s := by
  funext σ s
  unfold tst andM
  rw [R.bind_assoc, R.bind_assoc]
  congr 1
  funext x s1
  unfold boolD testD
  cases e : truthy x s1 with
  | none => rfl
  | some b => cases b <;> simp [R.bind, R.of, e]
theorem tst_or (ma mr : Mo D) : tst (orM ma mr) = fun σ s => (tst ma σ s).bind fun c s => match c with
  | true => .ok true s
  | false => tst mr σ s := by
  funext σ s
  unfold tst orM
  rw [R.bind_assoc, R.bind_assoc]
  congr 1
  funext x s1
  unfold boolD testD
  cases e : truthy x s1 with
  | none => rfl
  | some b => cases b <;> simp [R.bind, R.of, e]
theorem tst_not (ma : Mo D) : tst (notM ma) = fun σ s => (tst ma σ s).bind fun c s => .ok (!c) s := by
  funext σ s
  unfold tst notM
  rw [R.bind_assoc, R.bind_assoc]
  congr 1
  funext x s1
  rw [R.bind_assoc]
  congr 1
theorem ifM_eq {β : Type} (mc : Mo D) (ma mb : Mo β) : ifM mc ma mb = fun σ s => (tst mc σ s).bind fun t s => match t with
  | true => ma σ s
  | false => mb σ s := by
  funext σ s
  unfold tst ifM
  rw [R.bind_assoc]

section
variable {X : Cx} {E : XK} {a b c : Expr} {pos : Pos} {rest : List Expr}
variable {K : PySem.W.Frag} {β γ β' γ' : Type} {rep : Rp β γ} {rep' : Rp β' γ'} {σ : L2.St} {H : Hp} {ma mb mc mr : Mo D}
theorem tru_rep {α : Nat → Addr} {s : S} {d : D} {v : V} {k : Bool} (m : Sim K α s H) (r : RepD K H α d v) (e : truthy d s = some k) : TruV K v H k := by
  cases d with
  | non => simp only [RepD] at r; subst r; cases e; rfl
  | bl b => simp only [RepD] at r; subst r; cases e; rfl
  | int i => simp only [RepD] at r; subst r; cases e; rfl
  | str x =>
    simp only [RepD] at r
    obtain ⟨rfl, hz⟩ := r
    cases e
    refine ⟨hz, ?_⟩
    show (x.length != 0) = ((x.length : Int) != 0)
    rw [Bool.eq_iff_iff]
    simp
  | tup xs =>
    simp only [RepD] at r
    obtain ⟨a, vs, rfl, ta, r⟩ := r
    cases e
    refine .inr (.inl ⟨vs, ta.sq, ?_⟩)
    have := r.length
    cases xs <;> cases vs <;> simp_all
  | ref a =>
    simp only [RepD] at r
    subst r
    simp only [truthy] at e
    split at e
    · rename_i xs hx
      cases e
      obtain ⟨vs, hv, r⟩ := m.list hx
      refine .inl ⟨vs, SqL.of hv, ?_⟩
      have := r.length
      cases xs <;> cases vs <;> simp_all
    · cases e
  | fn k => cases e
  | ro xs => cases e
theorem tT.b1 {m : Mo Bool} {f : Sl → Bool → S → R β'} {Q : γ' → Hp → Prop} {R0 : Bool → Hp → Prop} (h : tG K E rep' (fun σ' s => (m σ' s).bind (f σ')) σ H Q)
    (k : ∀ x H' α s σ', Sim K α s H' → Slt K α s H' σ' σ → OutG K E rep' α s H' Q (f σ' x s) → R0 x H') : tT K E m σ H R0 :=
  (tG.bind (rep := rpB) h).imp fun v H' ⟨α, s, σ', x, m, sl, r, o⟩ => by
    obtain rfl : x = v := r
    exact k x H' α s σ' m sl o
/-- the test of a value -/
theorem px_tru {e : Expr} {m : Mo D} (he : PE X e (tE X.K E m)) (hp : ∀ whole, isTrue e X.env whole = (do let v ← whole; standAt e.pos; holding [v] (PySem.truthy v))) : PT X e (tT X.K E (tst m)) := by
  refine (pt_truth he hp).imp fun σ H Q h => ?_
  refine tE.b1 (f := fun _ => testD) h fun v H' α s σ' x m sl r t o => ?_
  unfold testD at o
  cases e : truthy x s with
  | none => rw [e] at o; exact o.elim
  | some k =>
    rw [e] at o
    exact ⟨k, tru_rep m r e, OutG.now (b := k) m rfl o⟩
theorem px_andW (ha : PT X a (tT X.K E (tst ma))) (hb : PW X (.BoolOp .And (b :: rest) pos) (tT X.K E (tst mr))) : PW X (.BoolOp .And (a :: b :: rest) pos) (tT X.K E (tst (andM ma mr))) := by
  refine (pw_and ha hb).imp fun σ H Q h => ?_
  rw [tst_and] at h
  refine tT.b1 h fun x H' α s σ' m sl o => ?_
  cases x with
  | true => exact tG.mk m sl o
  | false => exact OutG.now (rep := rpB) (b := false) m rfl o
theorem px_orW (ha : PT X a (tT X.K E (tst ma))) (hb : PW X (.BoolOp .Or (b :: rest) pos) (tT X.K E (tst mr))) : PW X (.BoolOp .Or (a :: b :: rest) pos) (tT X.K E (tst (orM ma mr))) := by
  refine (pw_or ha hb).imp fun σ H Q h => ?_
  rw [tst_or] at h
  refine tT.b1 h fun x H' α s σ' m sl o => ?_
  cases x with
  | false => exact tG.mk m sl o
  | true => exact OutG.now (rep := rpB) (b := true) m rfl o
theorem px_notT (ha : PT X a (tT X.K E (tst ma))) : PT X (.UnaryOp .Not a pos) (tT X.K E (tst (notM ma))) := by
  refine (pt_not ha).imp fun σ H Q h => ?_
  rw [tst_not] at h
  exact tT.b1 h fun x H' α s σ' m sl o => OutG.now (rep := rpB) (b := !x) m rfl o
theorem px_and (ha : PE X a (tE X.K E ma)) (hb : PE X (.BoolOp .And (b :: rest) pos) (tE X.K E mr)) : PE X (.BoolOp .And (a :: b :: rest) pos) (tE X.K E (andM ma mr)) := by
  refine ⟨fun pins st σ H Q I h => BoolOp_and (thn (ha.run pins st σ H (fun v H' => ∃ k, TruV X.K v H' k ∧ if k = true then tE X.K E mr σ H' Q else Q v H') I ?_) ?_)⟩
  · refine tE.b1 h fun v H' α s σ' x m sl r t o => ?_
    unfold boolD at o
    cases e : truthy x s with
    | none => rw [e] at o; exact o.elim
    | some k =>
      rw [e] at o
      refine ⟨k, tru_rep m r e, ?_⟩
      cases k with
      | true => exact tG.mk m sl o
      | false => exact OutG.now (b := x) m ⟨r, t⟩ o
  · rintro v s1 ⟨x, H1, I1, r1, k, tv, q⟩
    refine thn (tru_ok pins s1 σ H1 x v (fun b H' => b = k ∧ H' = H1) I1 r1 ⟨k, tv, rfl, rfl⟩) fun c s2 ⟨H2, I2, e1, e2⟩ => ?_
    subst e1
    subst e2
    cases c with
    | true => exact hb.run pins s2 σ H2 Q I2 q
    | false => exact ⟨x, H2, I2, r1, q⟩
theorem px_or (ha : PE X a (tE X.K E ma)) (hb : PE X (.BoolOp .Or (b :: rest) pos) (tE X.K E mr)) : PE X (.BoolOp .Or (a :: b :: rest) pos) (tE X.K E (orM ma mr)) := by
  refine ⟨fun pins st σ H Q I h => BoolOp_or (thn (ha.run pins st σ H (fun v H' => ∃ k, TruV X.K v H' k ∧ if k = true then Q v H' else tE X.K E mr σ H' Q) I ?_) ?_)⟩
  · refine tE.b1 h fun v H' α s σ' x m sl r t o => ?_
    unfold boolD at o
    cases e : truthy x s with
    | none => rw [e] at o; exact o.elim
    | some k =>
      rw [e] at o
      refine ⟨k, tru_rep m r e, ?_⟩
      cases k with
      | false => exact tG.mk m sl o
      | true => exact OutG.now (b := x) m ⟨r, t⟩ o
  · rintro v s1 ⟨x, H1, I1, r1, k, tv, q⟩
    refine thn (tru_ok pins s1 σ H1 x v (fun b H' => b = k ∧ H' = H1) I1 r1 ⟨k, tv, rfl, rfl⟩) fun c s2 ⟨H2, I2, e1, e2⟩ => ?_
    subst e1
    subst e2
    cases c with
    | false => exact hb.run pins s2 σ H2 Q I2 q
    | true => exact ⟨x, H2, I2, r1, q⟩
theorem px_not (ha : PE X a (tE X.K E ma)) : PE X (.UnaryOp .Not a pos) (tE X.K E (notM ma)) := by
  refine ⟨fun pins st σ H Q I h => UnaryOp_ (thn (ha.run pins st σ H (fun v H' => ∃ k, TruV X.K v H' k ∧ Q (.bl (!k)) H') I ?_) ?_)⟩
  · refine tE.b1 h fun v H' α s σ' x m sl r t o => ?_
    unfold testD at o
    cases e : truthy x s with
    | none => rw [e] at o; exact o.elim
    | some k =>
      rw [e] at o
      exact ⟨k, tru_rep m r e, OutG.now (b := D.bl (!k)) m ⟨rfl, top_bl⟩ o⟩
  · rintro v s1 ⟨x, H1, I1, r1, k, tv, q⟩
    refine not_of (thn (tru_ok pins s1 σ H1 x v (fun b H' => b = k ∧ H' = H1) I1 r1 ⟨k, tv, rfl, rfl⟩) fun c s2 ⟨H2, I2, e1, e2⟩ => ?_)
    subst e1
    subst e2
    exact ⟨.bl (!c), H2, I2, rfl, q⟩
theorem px_ife (hc : PT X c (tT X.K E (tst mc))) (ha : PE X a (tE X.K E ma)) (hb : PE X b (tE X.K E mb)) : PE X (.IfExp c a b pos) (tE X.K E (ifM mc ma mb)) := by
  refine (pe_ifExp hc ha hb).imp fun σ H Q h => ?_
  rw [ifM_eq] at h
  refine tT.b1 h fun x H' α s σ' m sl o => ?_
  cases x with
  | true => exact tG.mk m sl o
  | false => exact tG.mk m sl o
/-! ### comparisons as tests -/
theorem px_cmpT (hu : X.A.units + 150 < cLine) (o : CO) (ha : PE X a (tE X.K E ma)) (hb : PE X b (tE X.K E mb)) (hm : behindInMarks o.op b = false) :
    PT X (.Compare a [o.op] [b] pos) (tT X.K E (tst fun σ s => (ma σ s).bind fun x s => (mb σ s).bind fun y s => cmpR o x y s)) := by
  refine (pt_cmpR (cmp_ok (E := E) hu o) ha hb hm).imp fun σ H Q h => ?_
  have h' : tG X.K E rpB (fun σ s => (ma σ s).bind fun x s => (mb σ s).bind fun y s => (cmpR o x y s).bind testD) σ H Q := by
    have e : (tst fun σ s => (ma σ s).bind fun x s => (mb σ s).bind fun y s => cmpR o x y s) = fun σ s => (ma σ s).bind fun x s => (mb σ s).bind fun y s => (cmpR o x y s).bind testD := by
      funext σ s
      unfold tst
      rw [R.bind_assoc]
      congr 1
      funext x s
      rw [R.bind_assoc]
    rw [← e]
    exact h
  refine tE.b2 h' fun v u H' α s σ' x y m sl rx ry tx ty o1 => ⟨α, s, x, y, m, rx, ry, tx, ty, ?_⟩
  unfold cmpR at o1 ⊢
  cases e : cmpop o x y s with
  | none => rw [e] at o1; exact o1.elim
  | some k =>
    rw [e] at o1
    intro α1 v1 H1 m1 p r t
    simp only [RepD] at r
    exact ⟨k, r, o1 α1 k H1 m1 p rfl⟩
def chM (o1 o2 : CO) (ma mb mc : Mo D) : Mo D := fun σ s => (ma σ s).bind fun x s => (mb σ s).bind fun y s => (R.of (cmpop o1 x y s) s).bind fun t s => match t with
    | true => (mc σ s).bind fun z s => cmpR o2 y z s
    | false => .ok (.bl false) s
theorem chain_read (o1 o2 : CO) {Q : VK} (h : tE K E (chM o1 o2 ma mb mc) σ H Q) : tChain (rB K E (cmpR o1)) (rB K E (cmpR o2)) (tE K E ma) (tE K E mb) (tE K E mc) σ H Q := by
  refine tE.b2 h fun v u H' α s σ' x y m sl rx ry tx ty o => ⟨α, s, x, y, m, rx, ry, tx, ty, ?_⟩
  unfold cmpR
  cases e : cmpop o1 x y s with
  | none => rw [e] at o; exact o.elim
  | some k =>
    rw [e] at o
    intro α1 v1 H1 m1 p r t
    simp only [RepD] at r
    refine ⟨k, r, ?_⟩
    cases k with
    | false => exact OutG.now (b := D.bl false) m1 ⟨rfl, top_bl⟩ (OutG.post m1 p o)
    | true =>
      have o' : OutG K E (rpV K) α1 s H1 Q ((mc σ' s).bind fun z s => cmpR o2 y z s) := OutG.post m1 p o
      exact ⟨α1, s, σ', m1, sl.post m p, (OutG.bind m1 (sl.post m p) o').imp fun w' H4 ⟨α4, s4, z, m4, sl4, p4, r4, o4⟩ =>
        ⟨α4, s4, y, z, m4, p4.rep m1 ty (p.rep m ty ry), r4.1, Nat.le_trans ty p4.len, r4.2, o4.v⟩⟩
theorem px_chain (hu : X.A.units + 150 < cLine) (o1 o2 : CO) (ha : PE X a (tE X.K E ma)) (hb : PE X b (tE X.K E mb)) (hc : PE X c (tE X.K E mc)) (hm : lastMarks [o1.op, o2.op] [b, c] = false) :
    PE X (.Compare a [o1.op, o2.op] [b, c] pos) (tE X.K E (chM o1 o2 ma mb mc)) :=
  (pe_chain (cmp_ok (E := E) hu o1) (cmp_ok (E := E) hu o2) ha hb hc hm).imp fun σ H Q h => chain_read o1 o2 h
/-! ### methods of a list -/
variable {o e : Expr} {es : List Expr} {ms : Mo (List D)} {apos cpos : Pos}
def meM (f : D → List D → S → R D) (mo : Mo D) (ms : Mo (List D)) : Mo D := fun σ s => (mo σ s).bind fun x s => match isL x s with
  | true => (ms σ s).bind fun ds s => f x ds s
  | false => .bad
theorem isL_ty {α : Nat → Addr} {s : S} {d : D} {v : V} (m : Sim K α s H) (r : RepD K H α d v) (e : isL d s = true) : tyV K "list" v H := by
  unfold isL at e
  split at e
  · simp only [RepD] at r
    subst r
    split at e
    · rename_i xs hx
      obtain ⟨vs, hv, _⟩ := m.list hx
      exact .inl ⟨rfl, vs, SqL.of hv⟩
    · cases e
  · cases e
theorem px_me {f : D → List D → S → R D} {name : Str} {id : String} {mo : Mo D} (slot : Slot "list" name id) (hty : typeOf (.builtin id) = pure (.type "method_descriptor")) (hm : MtR X id (rMe X.K E f)) (ho : PE X o (tE X.K E mo)) (ha : PA X (e :: es) (tA X.K E ms))
    (hbase : attributeBase o name X.env (eval o X.env) = eval o X.env)
    (hfew : ((backTo cpos (starEach (e :: es) X.env)).all (fun x => !x.1) && (backToKw cpos (keywordEach [] X.env)).all (fun x => x.1.isSome)
      && decide ((e :: es).length + ([] : List Keyword).length + (if ([] : List Keyword).isEmpty then 0 else 1) < 30)) = true)
    (hline : (apos.endLine == cpos.line) = true) (hs : starEach (e :: es) X.env = (false, eval e X.env) :: starEach es X.env) (hplain : (backTo cpos (starEach es X.env)).any (·.1) = false) :
    PE X (.Call (.Attribute o name apos) (e :: es) [] cpos) (tE X.K E (meM f mo ms)) := by
  refine (pe_bm F.plainAttrs_list slot hty hm ho ha hbase hfew hline hs hplain).imp fun σ H Q h => ?_
  refine tE.b1 h fun v H' α s σ' x m sl r t o => ?_
  cases e : isL x s with
  | false => rw [e] at o; exact o.elim
  | true =>
    rw [e] at o
    refine ⟨isL_ty m r e, ⟨α, s, σ', m, sl, (OutG.bind m sl o).imp fun vs H2 ⟨α2, s2, ds, m2, sl2, p2, r2, o2⟩ => ⟨α2, s2, x, ds, m2, p2.rep m t r, r2.1, Nat.le_trans t p2.len, r2.2, o2.v⟩⟩⟩
theorem px_me0 {f : D → List D → S → R D} {name : Str} {id : String} {mo : Mo D} (slot : Slot "list" name id) (hty : typeOf (.builtin id) = pure (.type "method_descriptor")) (hm : MtR X id (rMe X.K E f)) (ho : PE X o (tE X.K E mo))
    (hbase : attributeBase o name X.env (eval o X.env) = eval o X.env) (hline : (apos.endLine == cpos.line) = true) :
    PE X (.Call (.Attribute o name apos) [] [] cpos) (tE X.K E (meM f mo fun _ s => .ok [] s)) := by
  refine (pe_bm0 F.plainAttrs_list slot hty hm ho hbase hline).imp fun σ H Q h => ?_
  refine tE.b1 h fun v H' α s σ' x m sl r t o => ?_
  cases e : isL x s with
  | false => rw [e] at o; exact o.elim
  | true =>
    rw [e] at o
    exact ⟨isL_ty m r e, α, s, x, [], m, r, RepDs.nil, t, Nat.zero_le _, o.v⟩
/-! ### slices -/
def rpO : Rp (Option Int) (Option Int) := fun _ _ _ b c => b = c
def bndM (m : Mo D) : Mo (Option Int) := fun σ s => (m σ s).bind fun x s => match x with
  | .int i => .ok (some i) s
  | _ => .bad
theorem po_b {ml : Mo D} {e : Expr} (he : PE X e (tE X.K E ml)) : PO X (some e) (tG X.K E rpO (bndM ml)) := by
  refine ⟨fun pins st σ H Q I h => (po_some he).run pins st σ H Q I ?_⟩
  refine tE.b1 h fun v H' α s σ' x m sl r t o => ?_
  split at o
  · rename_i i
    simp only [RepD] at r
    exact ⟨i, r, OutG.now (rep := rpO) (b := some i) m rfl o⟩
  · exact o.elim
theorem po_n : PO X none (tG X.K E rpO fun _ s => .ok none s) := 
  ⟨fun pins st σ H Q I h => po_none.run pins st σ H Q I (by
    obtain ⟨α, s, σ', m, sl, o⟩ := h
    exact OutG.now (rep := rpO) (b := none) m rfl o)⟩
def slM (ma : Mo D) (ml mu : Mo (Option Int)) : Mo D := fun σ s => (ma σ s).bind fun x s => (ml σ s).bind fun l s => (mu σ s).bind fun u s => sliceD x l u s
theorem px_slice {lo hi : Option Expr} {ml mu : Mo (Option Int)} {p2 : Pos} (ha : PE X a (tE X.K E ma)) (hl : PO X lo (tG X.K E rpO ml)) (hu : PO X hi (tG X.K E rpO mu)) :
    PE X (.Subscript a (.Slice lo hi none p2) pos) (tE X.K E (slM ma ml mu)) := by
  refine (pe_slice (sl_ok (E := E)) ha hl hu).imp fun σ H Q h => ?_
  refine tE.b1 h fun v H' α s σ' x m sl r t o => ⟨α, s, σ', m, sl, (OutG.bind m sl o).imp fun l H2 ⟨α2, s2, l', m2, sl2, p2, r2, o2⟩ => ?_⟩
  obtain rfl : l' = l := r2
  refine ⟨α2, s2, σ', m2, sl2, (OutG.bind m2 sl2 o2).imp fun u H3 ⟨α3, s3, u', m3, sl3, p3, r3, o3⟩ => ?_⟩
  obtain rfl : u' = u := r3
  exact ⟨α3, s3, x, m3, p3.rep m2 (Nat.le_trans t p2.len) (p2.rep m t r), Nat.le_trans (Nat.le_trans t p2.len) p3.len, o3.v⟩
end
end Dv
end

section
/-! Dv11 -/
/-! Dv11: targets; what is walked. -/
namespace Dv
open PySem PySem.Spec PyProof.Rows
open L2 hiding It

/-! ### slots set -/
def Tg.ixs : Tg → List Nat
  | .nm i => [i]
  | .tp is => is
theorem wipe_set {β : Type} : ∀ {vs : List Nat} {σ : L2.St} {i : Nat} {x : Option V}, wipe (σ.set i x) vs = if i ∈ vs then wipe σ vs else (wipe σ vs).set i x
  | [], σ, i, x => by simp [wipe]
  | v :: vs, σ, i, x => by
    unfold wipe
    rw [wipe_set (β := β) (vs := vs)]
    by_cases h : i ∈ vs
    · rw [if_pos h, if_pos (List.mem_cons_of_mem _ h)]
    · rw [if_neg h]
      by_cases e : i = v
      · subst e
        rw [if_pos List.mem_cons_self, List.set_set]
      · rw [if_neg (by simp [e, h]), List.set_comm _ _ e]
def wipeS (σ : Sl) : List Nat → Sl
  | [] => σ
  | v :: vs => (wipeS σ vs).set v none
theorem wipeS_length (σ : Sl) : ∀ vs : List Nat, (wipeS σ vs).length = σ.length
  | [] => rfl
  | v :: vs => by unfold wipeS; rw [List.length_set, wipeS_length σ vs]
section
variable {K : PySem.W.Frag} {E : XK} {α : Nat → Addr} {s : S} {H : Hp} {σ' : Sl} {σ : L2.St}
theorem Slt.set {d : D} {v : V} (h : Slt K α s H σ' σ) (i : Nat) (r : RepD K H α d v) (t : d.top ≤ s.h.length) : Slt K α s H (σ'.set i (some d)) (σ.set i (some v)) :=
  ⟨by simp [h.len], fun j e q => by
    by_cases hj : i = j
    · subst hj
      by_cases hl : i < σ'.length
      · rw [List.getElem?_set_self hl] at q
        cases q
        exact ⟨t, v, List.getElem?_set_self (by rw [h.len]; exact hl), r⟩
      · rw [List.getElem?_eq_none (by simpa using hl)] at q; cases q
    · rw [List.getElem?_set_ne hj] at q
      rw [List.getElem?_set_ne hj]
      exact h.get j e q⟩
theorem Slt.drop (h : Slt K α s H σ' σ) (i : Nat) : Slt K α s H (σ'.set i none) (σ.set i none) :=
  ⟨by simp [h.len], fun j e q => by
    by_cases hj : i = j
    · subst hj
      by_cases hl : i < σ'.length
      · rw [List.getElem?_set_self hl] at q; cases q
      · rw [List.getElem?_eq_none (by simpa using hl)] at q; cases q
    · rw [List.getElem?_set_ne hj] at q
      rw [List.getElem?_set_ne hj]
      exact h.get j e q⟩
theorem Slt.wipe (h : Slt K α s H σ' σ) : ∀ vs : List Nat, Slt K α s H (wipeS σ' vs) (L2.wipe σ vs)
  | [] => h
  | v :: vs => by unfold wipeS L2.wipe; exact (Slt.wipe h vs).drop v
def setL (σ : Sl) (is : List Nat) (xs : List D) : Sl := (is.zip xs).foldl (fun σ p => σ.set p.1 (some p.2)) σ
theorem setL_none : ∀ {is : List Nat} {xs : List D} {σ : Sl} {i : Nat}, is.length = xs.length → i ∈ is → setL (σ.set i none) is xs = setL σ is xs
  | [], _, _, _, _, h => by cases h
  | j :: is, [], _, _, e, _ => by cases e
  | j :: is, x :: xs, σ, i, e, h => by
    show setL ((σ.set i none).set j (some x)) is xs = setL (σ.set j (some x)) is xs
    by_cases q : i = j
    · subst q; rw [List.set_set]
    · rw [List.set_comm _ _ q]
      exact setL_none (by simpa using e) (by simpa [q] using h)
theorem Tg.set_none {t : Tg} {d : D} {i : Nat} (h : i ∈ t.ixs) : t.set d (σ'.set i none) = t.set d σ' := by
  cases t with
  | nm j =>
    have : i = j := by simpa [Tg.ixs] using h
    subst this
    simp [Tg.set, List.set_set]
  | tp is =>
    unfold Tg.set
    cases d with
    | tup xs =>
      simp only
      split
      · rename_i e
        exact congrArg some (setL_none (σ := σ') e.symm h)
      · rfl
    | _ => rfl
theorem Tg.set_wipe {t : Tg} {d : D} : ∀ {vs : List Nat}, (∀ v ∈ vs, v ∈ t.ixs) → t.set d (wipeS σ' vs) = t.set d σ'
  | [], _ => rfl
  | v :: vs, h => by
    unfold wipeS
    rw [Tg.set_none (h v List.mem_cons_self)]
    exact Tg.set_wipe fun u hu => h u (List.mem_cons_of_mem _ hu)
/-- a target -/
def tTg (K : PySem.W.Frag) (t : Tg) : TG := fun v σ H Q => ∃ α s σ' d, Sim K α s H ∧ Slt K α s H σ' σ ∧ RepD K H α d v ∧ d.top ≤ s.h.length ∧ match t.set d σ' with
  | some σ2' => ∀ σ2, Slt K α s H σ2' σ2 → (∀ vs, (∀ i ∈ t.ixs, i ∈ vs) → L2.wipe σ2 vs = L2.wipe σ vs) → Q σ2 H
  | none => False
variable {X : Cx} {pos : Pos}
theorem px_nm {i : Nat} {x : Str} (hN : X.N.Nodup) (hi : X.N[i]? = some x) (hx : Loc X.env.scope x) (hf : X.fn x = true ∨ X.env.scope.names.lookup x = some .local) : PG X (.Name x pos) (tTg X.K (.nm i)) :=
  ⟨fun pins st σ H v u Q I r ⟨α, s, σ', d, m, sl, rd, t, q⟩ => (pg_name hN hi hx hf).run pins st σ H v u Q I r
    (q _ (sl.set i rd t) fun vs hv => by rw [wipe_set (β := Nat), if_pos (hv i (by simp [Tg.ixs]))])⟩
/-- names, one after another -/
def gNames : List Nat → TGs
  | [] => gNil
  | i :: is => gCons (gName i) (gNames is)
theorem gNames_ok {Q : L2.St → Hp → Prop} : ∀ {is : List Nat} {xs : List D} {vs : List V} {σ' : Sl} {σ : L2.St}, is.length = xs.length → Slt K α s H σ' σ → RepDs K H α xs vs → D.tops xs ≤ s.h.length →
    (∀ σ2, Slt K α s H (setL σ' is xs) σ2 → (∀ ws, (∀ i ∈ is, i ∈ ws) → L2.wipe σ2 ws = L2.wipe σ ws) → Q σ2 H) → gNames is vs σ H Q
  | [], [], vs, σ', σ, _, sl, r, t, q => by
    rw [RepDs] at r
    subst r
    exact ⟨rfl, q _ sl fun _ _ => rfl⟩
  | [], _ :: _, _, _, _, e, _, _, _, _ => by cases e
  | _ :: _, [], _, _, _, e, _, _, _, _ => by cases e
  | i :: is, x :: xs, vs, σ', σ, e, sl, r, t, q => by
    rw [RepDs] at r
    obtain ⟨v, w, rfl, r1, r2⟩ := r
    rw [D.tops] at t
    refine ⟨v, w, rfl, ?_⟩
    show gNames is w (σ.set i (some v)) H Q
    refine gNames_ok (by simpa using e) (sl.set i r1 (by omega)) r2 (by omega) fun σ2 sl2 hw => q σ2 sl2 fun ws hi => ?_
    rw [hw ws fun j hj => hi j (List.mem_cons_of_mem _ hj), wipe_set (β := Nat), if_pos (hi i List.mem_cons_self)]
theorem px_tpT {es : List Expr} {k : Nat} {is : List Nat} (hc : X.calm = true) (h : PGs X es (gNames is)) (hn : (assignEach es X.env).length = is.length) (hst : (assignEach es X.env).findIdx? (·.1) = none) :
    PG X (.Tuple es k pos) (tTg X.K (.tp is)) := by
  refine ⟨fun pins st σ H v u Q I r ⟨α, s, σ', d, m, sl, rd, t, q⟩ => (pg_tup hc h hn hst).run pins st σ H v u Q I r ?_⟩
  cases d with
  | tup xs =>
    simp only [Tg.set] at q
    split at q
    · rename_i σ2' e
      split at e
      · rename_i hl
        cases e
        simp only [RepD] at rd
        obtain ⟨a, vs, rfl, ta, rr⟩ := rd
        rw [D.top] at t
        exact ⟨a, vs, rfl, ta.sq, by rw [rr.length, hl], gNames_ok hl.symm sl rr t q⟩
      · cases e
    · exact q.elim
  | _ => exact (show False from q).elim
/-! ### what is walked -/
/-- the two go alike from here on -/
def rpI (K : PySem.W.Frag) : Rp It L2.It := fun α s H j J => ∀ α' s' H', Sim K α' s' H' → Post α s H α' s' H' → ∀ i, match j.at i s' with
  | some none => J.stop i H'
  | some (some d) => J.go i H' ∧ ∀ x H'', J.yld i H' x H'' → Sim K α' s' H'' ∧ Post α' s' H' α' s' H'' ∧ RepD K H'' α' d x ∧ d.top ≤ s'.h.length
  | none => True
abbrev tI (K : PySem.W.Frag) (E : XK) (m : Mo It) : TI := tG K E (rpI K) m
theorem rpI.kp {β : It} {J : L2.It} {α' : Nat → Addr} {s' : S} {H' : Hp} (m : Sim K α' s' H') (p : Post α s H α' s' H') (h : rpI K α s H β J) : rpI K α' s' H' β J :=
  fun α2 s2 H2 m2 p2 => h α2 s2 H2 m2 (p.trans m p2)

theorem it_list {a : Nat} {xs : List D} (m : Sim K α s H) (hx : s.h[a]? = some (.list xs)) : rpI K α s H (.li a) (Itl K (α a)) := by
  intro α' s' H' m' p i
  have hal := (List.getElem?_eq_some_iff.mp hx).1
  simp only [It.at]
  cases e : s'.h[a]? with
  | none => trivial
  | some o =>
    cases o with
    | list ys =>
      obtain ⟨vs, hv, r⟩ := m'.list e
      rw [p.agree a hal] at hv
      cases e1 : ys[i]? with
      | none =>
        simp only [e1]
        refine ⟨vs, SqL.of hv, ?_⟩
        rw [r.length]
        exact List.getElem?_eq_none_iff.mp e1
      | some d =>
        obtain ⟨v, q1, q2⟩ := r.get e1
        simp only [e1]
        refine ⟨⟨vs, v, SqL.of hv, q1⟩, fun x H'' ⟨h1, h2⟩ => ?_⟩
        subst h1
        have := h2 vs (SqL.of hv)
        rw [q1] at this
        cases this
        exact ⟨m', .refl, q2, Nat.le_trans (top_mem (List.mem_of_getElem? e1)) (m'.top e)⟩
    | dict _ => trivial
    | set _ => trivial
theorem TupAt.post {a : Addr} {vs : List V} {α' : Nat → Addr} {s' : S} {H' : Hp} (m : Sim K α s H) (p : Post α s H α' s' H') (h : TupAt K H a vs) : TupAt K H' a vs := by
  rcases h with ⟨o, h, hd⟩ | h
  · exact .inl ⟨o, p.keep m a _ trivial h, hd⟩
  · exact .inr h
theorem RoAt.post {a : Addr} {vs : List V} {α' : Nat → Addr} {s' : S} {H' : Hp} (m : Sim K α s H) (p : Post α s H α' s' H') (h : RoAt K H a vs) : RoAt K H' a vs := by
  rcases h with ⟨o, h⟩ | h
  · exact .inl ⟨o, p.keep m a _ trivial h⟩
  · exact .inr h
/-- items that stand: J reads them off the abstract heap that stays -/
theorem it_ds {J : L2.It} {xs : List D} {vs : List V} (m : Sim K α s H) (r : RepDs K H α xs vs) (t : D.tops xs ≤ s.h.length)
    (hJ : ∀ α' s' H', Sim K α' s' H' → Post α s H α' s' H' → ∀ i, (vs[i]? = none → J.stop i H') ∧ ∀ v, vs[i]? = some v → J.go i H' ∧ ∀ x H'', J.yld i H' x H'' → H'' = H' ∧ x = v) : rpI K α s H (.ds xs) J := by
  intro α' s' H' m' p i
  have r' := p.reps m t r
  obtain ⟨j1, j2⟩ := hJ α' s' H' m' p i
  simp only [It.at]
  cases e1 : xs[i]? with
  | none => exact j1 (r.get_none e1)
  | some d =>
    obtain ⟨v, q1, q2⟩ := r'.get e1
    obtain ⟨j3, j4⟩ := j2 v q1
    refine ⟨j3, fun x H'' h => ?_⟩
    obtain ⟨h1, h2⟩ := j4 x H'' h
    subst h1
    subst h2
    exact ⟨m', .refl, q2, Nat.le_trans (top_mem (List.mem_of_getElem? e1)) (Nat.le_trans t p.len)⟩
theorem it_tup {a : Addr} {xs : List D} {vs : List V} (m : Sim K α s H) (ta : TupAt K H a vs) (r : RepDs K H α xs vs) (t : D.tops xs ≤ s.h.length) : rpI K α s H (.ds xs) (Itt K a) :=
  it_ds m r t fun α' s' H' m' p i => ⟨fun e => ⟨vs, (ta.post m p).sq, List.getElem?_eq_none_iff.mp e⟩, fun v e => ⟨⟨vs, v, (ta.post m p).sq, e⟩, fun x H'' ⟨h1, h2⟩ => ⟨h1, by
    have := h2 vs (ta.post m p).sq
    rw [e] at this
    cases this; rfl⟩⟩⟩
theorem it_ro {a : Addr} {xs : List D} {vs : List V} (m : Sim K α s H) (ta : RoAt K H a vs) (r : RepDs K H α xs vs) (t : D.tops xs ≤ s.h.length) : rpI K α s H (.ds xs) (Itl K a) :=
  it_ds m r t fun α' s' H' m' p i => ⟨fun e => ⟨vs, (ta.post m p).sq, List.getElem?_eq_none_iff.mp e⟩, fun v e => ⟨⟨vs, v, (ta.post m p).sq, e⟩, fun x H'' ⟨h1, h2⟩ => ⟨h1, by
    have := h2 vs (ta.post m p).sq
    rw [e] at this
    cases this; rfl⟩⟩⟩
theorem reps_ints : ∀ (l : List Int), RepDs K H α (l.map .int) (l.map V.int)
  | [] => rfl
  | i :: l => ⟨_, _, rfl, rfl, reps_ints l⟩
theorem tops_flatl {xs : List D} (h : ∀ x ∈ xs, x.top = 0) {n : Nat} : D.tops xs ≤ n := tops_le fun x hx => by rw [h x hx]; exact Nat.zero_le _
theorem it_rng {lo : Int} {n : Nat} (m : Sim K α s H) : rpI K α s H (.ds ((List.range n).map fun i => D.int (lo + (i : Nat)))) (Itr lo n) := by
  have e : ((List.range n).map fun i => D.int (lo + (i : Nat))) = ((List.range n).map fun i => lo + ((i : Nat) : Int)).map D.int := by rw [List.map_map]; rfl
  rw [e]
  refine it_ds m (reps_ints _) (tops_flatl fun x hx => ?_) fun α' s' H' m' p i => ⟨fun e => ?_, fun v e => ?_⟩
  · obtain ⟨i, _, rfl⟩ := List.mem_map.mp hx
    simp [D.top]
  · have := List.getElem?_eq_none_iff.mp e
    simp at this
    exact this
  · have hi : i < n := by
      have := (List.getElem?_eq_some_iff.mp e).1
      simpa using this
    have hv : v = .int (lo + i) := by
      simp [List.getElem?_map, List.getElem?_range hi] at e
      exact e.symm
    exact ⟨hi, fun x H'' ⟨h1, h2⟩ => ⟨h1, by rw [h2, hv]⟩⟩
theorem it_str {x : Str} (m : Sim K α s H) : rpI K α s H (.ds (x.cps.toList.map fun c => D.str ⟨#[c]⟩)) (Its x) := by
  have rr : ∀ l : List Nat, RepDs K H α (l.map fun c => D.str ⟨#[c]⟩) (l.map fun c => V.str ⟨#[c]⟩) := by
    intro l
    induction l with
    | nil => rfl
    | cons c l ih => exact ⟨_, _, rfl, ⟨rfl, (by show 1 ≤ sizeLine; decide)⟩, ih⟩
  refine it_ds m (rr _) (tops_flatl fun y hy => ?_) fun α' s' H' m' p i => ⟨fun e => ?_, fun v e => ?_⟩
  · obtain ⟨i, _, rfl⟩ := List.mem_map.mp hy
    simp [D.top]
  · have := List.getElem?_eq_none_iff.mp e
    simp at this
    exact this
  · have hi : i < x.cps.size := by
      have := (List.getElem?_eq_some_iff.mp e).1
      simpa using this
    refine ⟨hi, fun y H'' ⟨h1, c, h2, h3⟩ => ⟨h1, ?_⟩⟩
    rw [List.getElem?_map, Array.getElem?_toList, h2] at e
    cases e
    exact h3
variable {a e : Expr} {ma : Mo D} {tg : Expr}
theorem px_it (he : PE X e (tE X.K E ma)) : PI X tg e (tI X.K E fun σ s => (ma σ s).bind fun x s => R.of (itOf x s) s) := by
  refine ⟨fun pins st σ H Rk I h => thn (he.run pins st σ H (fun v H' => (∃ a xs, v = .ref a ∧ SqL X.K H' a xs ∧ Rk (Itl X.K a) H') ∨ (∃ a xs, v = .ref a ∧ SqT X.K H' a xs ∧ Rk (Itt X.K a) H') ∨ ∃ x, v = .str x ∧ Rk (Its x) H') I ?_) ?_⟩
  · refine tE.b1 (f := fun _ x s => R.of (itOf x s) s) h fun v H' α s σ' x m sl r t o => ?_
    have now : ∀ {j : It} {J : L2.It}, itOf x s = some j → rpI X.K α s H' j J → Rk J H' := fun {j J} e rj => by
      rw [e] at o
      exact OutG.now (rep := rpI X.K) m rj o
    cases x with
    | tup xs =>
      simp only [RepD] at r
      obtain ⟨a, vs, rfl, ta, r⟩ := r
      rw [D.top] at t
      exact .inr (.inl ⟨a, vs, rfl, ta.sq, now rfl (it_tup m ta r t)⟩)
    | ro xs =>
      simp only [RepD] at r
      obtain ⟨a, vs, rfl, ta, r⟩ := r
      rw [D.top] at t
      exact .inl ⟨a, vs, rfl, ta.sq, now rfl (it_ro m ta r t)⟩
    | str x =>
      simp only [RepD] at r
      obtain ⟨rfl, hz⟩ := r
      exact .inr (.inr ⟨x, rfl, now rfl (it_str m)⟩)
    | ref a =>
      simp only [RepD] at r
      subst r
      cases ea : s.h[a]? with
      | none => simp only [itOf, ea] at o; exact o.elim
      | some ob =>
        cases ob with
        | list xs =>
          obtain ⟨vs, hv, r⟩ := m.list ea
          exact .inl ⟨_, vs, rfl, SqL.of hv, now (by simp only [itOf, ea]) (it_list m ea)⟩
        | dict _ => simp only [itOf, ea] at o; exact o.elim
        | set _ => simp only [itOf, ea] at o; exact o.elim
    | _ => exact o.elim
  · rintro v s1 ⟨x, H1, I1, r1, q⟩
    rcases q with ⟨a, xs, rfl, hq, q⟩ | ⟨a, xs, rfl, hq, q⟩ | ⟨x, rfl, q⟩
    · cases r1
      obtain ⟨its, rv, p, hz⟩ := I1.list hq
      exact wpAny_pyIter_list p.isList (pi_one (tk := s1.toks) I1 _ (turn_list a _) ⟨_, Heap.get?_push_size _ rfl, rfl, rfl⟩ q)
    · cases r1
      obtain ⟨its, rv, p, hz⟩ := I1.tuple hq
      exact wpAny_pyIter_tuple (show s1.heap.IsTuple a its.toArray from p) (pi_one (tk := s1.toks) I1 _ (turn_tuple a _) ⟨_, Heap.get?_push_size _ rfl, rfl, rfl⟩ q)
    · obtain ⟨t, rfl⟩ := r1
      cases ha : x.cps.all (· < 128)
      · exact wpAny_pyIter_wide ha (pi_one (tk := s1.toks) I1 _ (turn_str _ x t "str_iterator" (.inr rfl)) ⟨_, Heap.get?_push_size _ rfl, rfl, rfl⟩ q)
      · exact wpAny_pyIter_ascii ha (pi_one (tk := s1.toks) I1 _ (turn_str _ x t "str_ascii_iterator" (.inl rfl)) ⟨_, Heap.get?_push_size _ rfl, rfl, rfl⟩ q)
end
end Dv
end

section
/-! Dv12 -/
/-! Dv12: range, enumerate; statements; loops. -/
namespace Dv
open PySem PySem.Spec PyProof.Rows
open L2 hiding It

section
variable {K : PySem.W.Frag} {E : XK} {α : Nat → Addr} {s : S} {H : Hp} {σ' : Sl} {σ : L2.St} {X : Cx} {pos : Pos} {a b e : Expr} {tg : Expr} {ms : Mo (List D)} {ma mb : Mo D}
theorem px_rng1 {p : Pos} (hg : Gl X "range") (hm : X.mg "range" = none) (ha : PA X [a] (tA X.K E ms)) (hs : starEach [a] X.env = [(false, eval a X.env)]) (h1 : ∀ σ s ds s', ms σ s = .ok ds s' → ds.length = 1) :
    PI X tg (.Call (.Name "range" p) [a] [] pos) (tI X.K E fun σ s => (ms σ s).bind fun ds s => rngF ds s) := by
  refine ⟨fun pins st σ H Rk I ⟨α, s, σ', m, sl, o⟩ => (pi_range1 hg hm ha hs).run pins st σ H Rk I ⟨α, s, σ', m, sl, ?_⟩⟩
  cases e : ms σ' s with
  | ok ds s1 =>
    simp only [e, R.bind_ok] at o
    intro α1 g H1 m1 p r
    have hl := h1 _ _ _ _ e
    match ds, hl with
    | [d], _ =>
      obtain ⟨v, rfl, rv⟩ := reps_one r.1
      unfold rngF at o
      split at o
      · rename_i n hd
        cases hd
        simp only [RepD] at rv
        split at o
        · rename_i hh
          refine ⟨n, by rw [rv], hh.1, hh.2, ?_⟩
          exact OutG.now (rep := rpI X.K) m1 (it_rng m1) (OutG.post m1 p o)
        · exact o.elim
      · rename_i hd; cases hd
      · exact o.elim
  | exc e1 s1 => simp only [e] at o; exact o
  | bad => simp only [e] at o; exact o
theorem px_rng2 {p : Pos} (hg : Gl X "range") (hm : X.mg "range" = none) (ha : PA X [a, b] (tA X.K E ms)) (hs : starEach [a, b] X.env = [(false, eval a X.env), (false, eval b X.env)]) (hs2 : starEach [b] X.env = [(false, eval b X.env)])
    (h1 : ∀ σ s ds s', ms σ s = .ok ds s' → ds.length = 2) : PI X tg (.Call (.Name "range" p) [a, b] [] pos) (tI X.K E fun σ s => (ms σ s).bind fun ds s => rngF ds s) := by
  refine ⟨fun pins st σ H Rk I ⟨α, s, σ', m, sl, o⟩ => (pi_range2 hg hm ha hs hs2).run pins st σ H Rk I ⟨α, s, σ', m, sl, ?_⟩⟩
  cases e : ms σ' s with
  | ok ds s1 =>
    simp only [e, R.bind_ok] at o
    intro α1 g H1 m1 p r
    have hl := h1 _ _ _ _ e
    match ds, hl with
    | [d, d2], _ =>
      have r0 := r.1
      rw [RepDs] at r0
      obtain ⟨v, w, rfl, rv, r2⟩ := r0
      obtain ⟨v2, rfl, rv2⟩ := reps_one r2
      unfold rngF at o
      split at o
      · rename_i hd; cases hd
      · rename_i n n2 hd
        cases hd
        simp only [RepD] at rv rv2
        split at o
        · rename_i hh
          refine ⟨n, n2, by rw [rv, rv2], ⟨hh.1, hh.2.1, hh.2.2.1, hh.2.2.2⟩, ?_⟩
          exact OutG.now (rep := rpI X.K) m1 (it_rng m1) (OutG.post m1 p o)
        · exact o.elim
      · exact o.elim
  | exc e1 s1 => simp only [e] at o; exact o
  | bad => simp only [e] at o; exact o
theorem it_enum {a : Nat} {xs : List D} (m : Sim K α s H) (hx : s.h[a]? = some (.list xs)) : rpI K α s H (.en (.li a)) (Itel K (α a)) := by
  intro α' s' H' m' p i
  have hal := (List.getElem?_eq_some_iff.mp hx).1
  simp only [It.at]
  cases e : s'.h[a]? with
  | none => trivial
  | some o =>
    cases o with
    | list ys =>
      obtain ⟨vs, hv, r⟩ := m'.list e
      rw [p.agree a hal] at hv
      cases e1 : ys[i]? with
      | none =>
        simp only [e1]
        refine ⟨vs, SqL.of hv, ?_⟩
        rw [r.length]
        exact List.getElem?_eq_none_iff.mp e1
      | some d =>
        obtain ⟨v, q1, q2⟩ := r.get e1
        simp only [e1]
        refine ⟨⟨vs, v, SqL.of hv, q1⟩, fun x H'' ⟨T, y, ob, h1, ho, h2, h3, h4⟩ => ?_⟩
        subst h1
        subst h3
        have := h4 vs (SqL.of hv)
        rw [q1] at this
        cases this
        have td : d.top ≤ s'.h.length := Nat.le_trans (top_mem (List.mem_of_getElem? e1)) (m'.top e)
        refine ⟨m'.aside h2, .aside h2, ⟨T, _, rfl, .inl ⟨_, upd_same, ho⟩, _, _, rfl, rfl, (Post.aside h2).reps m' (d := [d]) (by simp [D.tops]; exact td) (RepDs.one q2)⟩, ?_⟩
        simp [D.top, D.tops]; exact td
    | dict _ => trivial
    | set _ => trivial
theorem it_enumT {a : Addr} {xs : List D} {vs : List V} (m : Sim K α s H) (ta : TupAt K H a vs) (r : RepDs K H α xs vs) (t : D.tops xs ≤ s.h.length) : rpI K α s H (.en (.ds xs)) (Itet K a) := by
  intro α' s' H' m' p i
  have r' := p.reps m t r
  have ta' := ta.post m p
  simp only [It.at]
  cases e1 : xs[i]? with
  | none => exact ⟨vs, ta'.sq, List.getElem?_eq_none_iff.mp (r.get_none e1)⟩
  | some d =>
    obtain ⟨v, q1, q2⟩ := r'.get e1
    refine ⟨⟨vs, v, ta'.sq, q1⟩, fun x H'' ⟨T, y, ob, h1, ho, h2, h3, h4⟩ => ?_⟩
    subst h1
    subst h3
    have := h4 vs ta'.sq
    rw [q1] at this
    cases this
    have td : d.top ≤ s'.h.length := Nat.le_trans (top_mem (List.mem_of_getElem? e1)) (Nat.le_trans t p.len)
    refine ⟨m'.aside h2, .aside h2, ⟨T, _, rfl, .inl ⟨_, upd_same, ho⟩, _, _, rfl, rfl, (Post.aside h2).reps m' (d := [d]) (by simp [D.tops]; exact td) (RepDs.one q2)⟩, ?_⟩
    simp [D.top, D.tops]; exact td
theorem px_enum {p tpos : Pos} {elts : List Expr} {kk : Nat} (hg : Gl X "enumerate") (hm : X.mg "enumerate" = none) (ha : PE X e (tE X.K E ma)) (hs : starEach [e] X.env = [(false, eval e X.env)]) :
    PI X (.Tuple elts kk tpos) (.Call (.Name "enumerate" p) [e] [] pos) (tI X.K E fun σ s => (ma σ s).bind fun x s => enumF x s) := by
  refine ⟨fun pn st σ H Rk I h => Call_ (ld_blt I hg hm boot_enumerate (PyProof.Rows.callWith_type1 (thn ((pa_cons ha pa_nil hs).run pos pn st σ H (fun vs H' => (∃ a xs, vs = [.ref a] ∧ SqL X.K H' a xs ∧ Rk (Itel X.K a) H') ∨ ∃ a xs, vs = [.ref a] ∧ SqT X.K H' a xs ∧ Rk (Itet X.K a) H') I ?_) ?_) hs rfl))⟩
  · refine tE.b1 (f := fun _ => enumF) h fun v H' α s σ' x m sl r t o => ?_
    unfold enumF at o
    split at o
    · simp only [RepD] at r
      obtain ⟨a, vs, rfl, ta, r⟩ := r
      rw [D.top] at t
      exact .inr ⟨a, vs, rfl, ta.sq, OutG.now (rep := rpI X.K) m (it_enumT m ta r t) o⟩
    · simp only [RepD] at r
      subst r
      split at o
      · rename_i xs hx
        obtain ⟨vs, hv, r⟩ := m.list hx
        exact .inl ⟨_, vs, rfl, SqL.of hv, OutG.now (rep := rpI X.K) m (it_enum m hx) o⟩
      · exact o.elim
    · exact o.elim
  · rintro us s1 ⟨vs, H1, I1, r1, q⟩
    have new : ∀ {b : Addr}, b ∈ [s1.heap.objs.size + 1, s1.heap.objs.size] → s1.heap.objs.size ≤ b := fun {b} hb => by
      rcases List.mem_cons.mp hb with z | z
      · rw [z]; exact Nat.le_succ _
      · rw [List.mem_singleton.mp z]; exact Nat.le_refl _
    rcases q with ⟨a, xs, rfl, hq, q⟩ | ⟨a, xs, rfl, hq, q⟩
    · rw [Vals.ref1 r1]
      obtain ⟨its, rv, pl, hz⟩ := I1.list hq
      exact call_enumerate_list pl.isList fun h' he hit hsz hk => wpAny_pyIter_enum he ⟨_, [s1.heap.objs.size + 1, s1.heap.objs.size], _, _, H1, rfl, I1.kept (t' := s1.toks) hk, turn_enumL a _ _, ⟨⟨.none, he⟩, hit, Nat.succ_ne_self _⟩, fun b hb => I1.fpOk (new hb) (I1.hok.fresh (new hb)), q⟩
    · rw [Vals.ref1 r1]
      obtain ⟨its, rv, tp, hz⟩ := I1.tuple hq
      have la : a < s1.heap.objs.size := let ⟨_, z, _⟩ := tp; Heap.lt_size z
      exact call_enumT (begins_tuple a its.toArray) tp fun h' he hit hk => wpAny_pyIter_enum he ⟨_, [s1.heap.objs.size + 1, s1.heap.objs.size], _, _, H1, rfl, I1.kept (t' := s1.toks) hk,
        turn_enumT a _ _ (Nat.ne_of_lt la) (Nat.ne_of_gt (Nat.lt_succ_of_lt la)), ⟨⟨.none, he⟩, ⟨_, hit, rfl, rfl⟩, Nat.succ_ne_self _⟩, fun b hb => I1.fpOk (new hb) (I1.hok.fresh (new hb)), q⟩
/-! ### statements -/
def OutS (K : PySem.W.Frag) (E : XK) (α : Nat → Addr) (s : S) (H : Hp) (De : Ends) : R (Fl × Sl) → Prop
  | .ok p s' => ∀ α' H' σ, Sim K α' s' H' → Post α s H α' s' H' → Slt K α' s' H' p.2 σ → match p.1 with
    | .nx => De.nx σ H'
    | .bk => De.bk σ H'
    | .ct => De.ct σ H'
    | .rt d => ∀ v, RepD K H' α' d v → d.top ≤ s'.h.length → De.rt v H'
  | .exc e s' => ∀ α' H' c d, Sim K α' s' H' → Post α s H α' s' H' → ExRep K H' α' e c d → E c d H'
  | .bad => False
abbrev Ms := Sl → S → R (Fl × Sl)
def tS (K : PySem.W.Frag) (E : XK) (m : Ms) : TS := fun De σ H => ∃ α s σ', Sim K α s H ∧ Slt K α s H σ' σ ∧ OutS K E α s H De (m σ' s)
theorem OutS.post {α1 : Nat → Addr} {s1 : S} {H1 : Hp} {De : Ends} {r : R (Fl × Sl)} (m : Sim K α1 s1 H1) (p : Post α s H α1 s1 H1) (h : OutS K E α s H De r) : OutS K E α1 s1 H1 De r := by
  cases r with
  | ok d s' => exact fun α' H' σ m' q r => h α' H' σ m' (p.trans m q) r
  | exc e s' => exact fun α' H' c d m' q r => h α' H' c d m' (p.trans m q) r
  | bad => exact h
theorem OutS.bind {β γ : Type} {rep : Rp β γ} {r : R β} {f : β → S → R (Fl × Sl)} {De : Ends} (m0 : Sim K α s H) (sl : Slt K α s H σ' σ) (h : OutS K E α s H De (r.bind f)) :
    OutG K E rep α s H (fun g H' => ∃ α' s' b, Sim K α' s' H' ∧ Slt K α' s' H' σ' σ ∧ Post α s H α' s' H' ∧ rep α' s' H' b g ∧ OutS K E α' s' H' De (f b s')) r := by
  cases r with
  | ok b s1 => exact fun α' g H' m p r => ⟨α', s1, b, m, sl.post m0 p, p, r, OutS.post m p h⟩
  | exc e s1 => exact h
  | bad => exact h
theorem OutS.now {p : Sl} {De : Ends} (m : Sim K α s H) (sl : Slt K α s H p σ) (h : OutS K E α s H De (.ok (.nx, p) s)) : De.nx σ H := h α H σ m .refl sl
theorem OutS.ends {De De' : Ends} {r : R (Fl × Sl)} (h : OutS K E α s H De r) (hn : ∀ σ H, De.nx σ H → De'.nx σ H) (hb : ∀ σ H, De.bk σ H → De'.bk σ H) (hc : ∀ σ H, De.ct σ H → De'.ct σ H) (hr : ∀ v H, De.rt v H → De'.rt v H) : OutS K E α s H De' r := by
  cases r with
  | ok p s1 =>
    intro α' H' σ m q sl
    have := h α' H' σ m q sl
    match e : p.1 with
    | .nx => simp only [e] at this; exact hn _ _ this
    | .bk => simp only [e] at this; exact hb _ _ this
    | .ct => simp only [e] at this; exact hc _ _ this
    | .rt d => simp only [e] at this; exact fun v r t => hr _ _ (this v r t)
  | exc e s1 => exact h
  | bad => exact h
theorem tS.b1 {ma : Mo D} {f : Sl → D → S → R (Fl × Sl)} {De : Ends} {R0 : V → Hp → Prop} (h : tS K E (fun σ' s => (ma σ' s).bind (f σ')) De σ H)
    (k : ∀ v H' α s σ' x, Sim K α s H' → Slt K α s H' σ' σ → RepD K H' α x v → x.top ≤ s.h.length → OutS K E α s H' De (f σ' x s) → R0 v H') : tE K E ma σ H R0 := by
  obtain ⟨α, s, σ', m0, sl, o⟩ := h
  exact ⟨α, s, σ', m0, sl, (OutS.bind m0 sl o).imp fun g H' ⟨α1, s1, b, m1, sl1, p, r, o1⟩ => k g H' α1 s1 σ' b m1 sl1 r.1 r.2 o1⟩
theorem tS.bT {ma : Mo Bool} {f : Sl → Bool → S → R (Fl × Sl)} {De : Ends} {R0 : Bool → Hp → Prop} (h : tS K E (fun σ' s => (ma σ' s).bind (f σ')) De σ H)
    (k : ∀ x H' α s σ', Sim K α s H' → Slt K α s H' σ' σ → OutS K E α s H' De (f σ' x s) → R0 x H') : tT K E ma σ H R0 := by
  obtain ⟨α, s, σ', m0, sl, o⟩ := h
  exact ⟨α, s, σ', m0, sl, (OutS.bind m0 sl o).imp fun g H' ⟨α1, s1, b, m1, sl1, p, r, o1⟩ => by
    obtain rfl : b = g := r
    exact k b H' α1 s1 σ' m1 sl1 o1⟩
theorem _root_.L2.PS.imp {st : Stmt} {t t' : TS} (h : PS X st t) (i : ∀ De σ H, t' De σ H → t De σ H) : PS X st t' := ⟨fun pins s σ H De I q => h.run pins s σ H De I (i De σ H q)⟩
theorem _root_.L2.PSs.imp {st : List Stmt} {t t' : TS} (h : PSs X st t) (i : ∀ De σ H, t' De σ H → t De σ H) : PSs X st t' := ⟨fun pins s σ H De I q => h.run pins s σ H De I (i De σ H q)⟩

def asgM (t : Tg) (ma : Mo D) : Ms := fun σ s => (ma σ s).bind fun d s => match t.set d σ with
  | some σ' => .ok (.nx, σ') s
  | none => .bad
theorem asg_tg {De : Ends} {t : Tg} {x : D} {v : V} (m : Sim K α s H) (sl : Slt K α s H σ' σ) (r : RepD K H α x v) (tp : x.top ≤ s.h.length) (o : OutS K E α s H De (match t.set x σ' with
    | some σ' => .ok (.nx, σ') s
    | none => .bad)) : tTg K t v σ H De.nx := by
  refine ⟨α, s, σ', x, m, sl, r, tp, ?_⟩
  cases e : t.set x σ' with
  | none => rw [e] at o; exact o.elim
  | some σ2 =>
    rw [e] at o
    exact fun σ3 sl3 _ => o.now m sl3
theorem px_asg {t : Tg} (he : PE X e (tE X.K E ma)) (hg : PG X tg (tTg X.K t)) (hs : swapsWithSole [tg] e pos.line X.env = pure false) (hw : swappedStores [tg] e X.env = pure none) (h1 : (assignEach [tg] X.env).map (·.2) = [assign tg X.env]) :
    PS X (.Assign [tg] e pos) (tS X.K E (asgM t ma)) :=
  (ps_asg he hg hs hw h1).imp fun De σ H h => tS.b1 h fun v H' α s σ' x m sl r tp o => asg_tg m sl r tp o
theorem px_set {i : Nat} {x : Str} {pos' : Pos} (hN : X.N.Nodup) (hi : X.N[i]? = some x) (hx : Loc X.env.scope x) (he : PE X e (tE X.K E ma)) (hs : swapsWith e (some (.Name x pos')) pos.line X.env = pure false) (hf : X.fn x = true ∨ X.env.scope.names.lookup x = some .local) :
    PS X (.Assign [.Name x pos'] e pos) (tS X.K E (asgM (.nm i) ma)) :=
  (ps_set hN hi hx he hs hf).imp fun De σ H h => tS.b1 h fun v H' α s σ' x m sl r tp o => o.now m (sl.set i r tp)
theorem px_ex (he : PE X e (tE X.K E ma)) (hs : swapsWith e none pos.line X.env = pure false) : PS X (.Expr e pos) (tS X.K E fun σ s => (ma σ s).bind fun _ s => .ok (.nx, σ) s) :=
  (ps_expr he hs).imp fun De σ H h => tS.b1 h fun v H' α s σ' x m sl r tp o => o.now m sl
theorem px_doc {x : Str} {j pos'} : PS X (.Expr (.Constant (.str x) j pos) pos') (tS X.K E fun σ s => .ok (.nx, σ) s) :=
  ps_doc.imp fun De σ H ⟨α, s, σ', m, sl, o⟩ => o.now m sl
theorem px_ret (he : PE X e (tE X.K E ma)) : PS X (.Return (some e) pos) (tS X.K E fun σ s => (ma σ s).bind fun d s => .ok (.rt d, σ) s) :=
  (ps_ret he).imp fun De σ H h => tS.b1 h fun v H' α s σ' x m sl r tp o => o α H' σ m .refl sl v r tp
theorem px_retN : PS X (.Return none pos) (tS X.K E fun σ s => .ok (.rt .non, σ) s) :=
  ps_retN.imp fun De σ H ⟨α, s, σ', m, sl, o⟩ => o α H σ m .refl sl .non rfl (by simp [D.top])
theorem px_pass : PS X (.Pass pos) (tS X.K E fun σ s => .ok (.nx, σ) s) := ps_pass.imp fun De σ H ⟨α, s, σ', m, sl, o⟩ => o.now m sl
theorem px_brk : PS X (.Break pos) (tS X.K E fun σ s => .ok (.bk, σ) s) := ps_break.imp fun De σ H ⟨α, s, σ', m, sl, o⟩ => o α H σ m .refl sl
theorem px_cnt : PS X (.Continue pos) (tS X.K E fun σ s => .ok (.ct, σ) s) := ps_continue.imp fun De σ H ⟨α, s, σ', m, sl, o⟩ => o α H σ m .refl sl
def seqM (ma mb : Ms) : Ms := fun σ s => (ma σ s).bind fun p s => match p with
  | (.nx, σ') => mb σ' s
  | p => .ok p s
theorem px_snil : PSs X [] (tS X.K E fun σ s => .ok (.nx, σ) s) := pss_nil.imp fun De σ H ⟨α, s, σ', m, sl, o⟩ => o.now m sl
theorem px_scons {st : Stmt} {sts : List Stmt} {m1 m2 : Ms} (h1 : PS X st (tS X.K E m1)) (h2 : PSs X sts (tS X.K E m2)) : PSs X (st :: sts) (tS X.K E (seqM m1 m2)) := by
  refine (pss_cons h1 h2).imp fun De σ H ⟨α, s, σ', m, sl, o⟩ => ⟨α, s, σ', m, sl, ?_⟩
  unfold seqM at o
  cases e : m1 σ' s with
  | ok p s1 =>
    rw [e] at o
    intro α1 H1 σ1 m1 q sl1
    obtain ⟨fl, σ2⟩ := p
    cases fl with
    | nx => exact ⟨α1, s1, σ2, m1, sl1, OutS.post m1 q o⟩
    | bk => exact o α1 H1 σ1 m1 q sl1
    | ct => exact o α1 H1 σ1 m1 q sl1
    | rt d => exact o α1 H1 σ1 m1 q sl1
  | exc e1 s1 => rw [e] at o; exact o
  | bad => rw [e] at o; exact o
def ifS (mc : Mo D) (ma mb : Ms) : Ms := fun σ s => (mc σ s).bind fun x s => (testD x s).bind fun t s => match t with
  | true => ma σ s
  | false => mb σ s
theorem ifS_eq (mc : Mo D) (ma mb : Ms) : ifS mc ma mb = fun σ s => (tst mc σ s).bind fun t s => match t with
  | true => ma σ s
  | false => mb σ s := by
  funext σ s
  unfold tst ifS
  rw [R.bind_assoc]
theorem px_if {c : Expr} {sa sb : List Stmt} {mc : Mo D} {ma mb : Ms} (hc : PT X c (tT X.K E (tst mc))) (ha : PSs X sa (tS X.K E ma)) (hb : PSs X sb (tS X.K E mb)) : PS X (.If c sa sb pos) (tS X.K E (ifS mc ma mb)) := by
  refine (ps_if hc ha hb).imp fun De σ H h => ?_
  rw [ifS_eq] at h
  refine tS.bT h fun x H' α s σ' m sl o => ?_
  cases x with
  | true => exact ⟨α, s, σ', m, sl, o⟩
  | false => exact ⟨α, s, σ', m, sl, o⟩
theorem setItem_noexc {o i d : D} {s s' : S} {e : Ex} : setItem o i d s ≠ .exc e s' := by
  unfold setItem
  repeat' split
  all_goals exact fun h => by cases h
def subM (mo mi me : Mo D) : Ms := fun σ s => (me σ s).bind fun d s => (mo σ s).bind fun x s => (mi σ s).bind fun y s => (setItem x y d s).bind fun _ s => .ok (.nx, σ) s
theorem px_sub {o i : Expr} {p : Pos} {mo mi me : Mo D} (hu : X.A.units + 150 < cLine) (he : PE X e (tE X.K E me)) (ho : PE X o (tE X.K E mo)) (hi : PE X i (tE X.K E mi)) (hs : swapsWithSole [.Subscript o i p] e pos.line X.env = pure false) (hw : swappedStores [.Subscript o i p] e X.env = pure none)
    (ha : ∀ v, assign (.Subscript o i p) X.env v = (do
      let ov ← holding [v] (eval o X.env)
      let iv ← holding [v, ov] (eval i X.env)
      standAt p
      holding [v, ov, iv] (PySem.setItem ov iv v)
      release [v, ov, iv] [])) : PS X (.Assign [.Subscript o i p] e pos) (tS X.K E (subM mo mi me)) := by
  refine (ps_asg he (pg_sub ho hi (set_ok hu) ha) hs hw rfl).imp fun De σ H h => tS.b1 h fun v H' α s σ' x m sl r tp o => ⟨α, s, σ', m, sl, (OutS.bind m sl o).imp fun ov H2 ⟨α2, s2, y, m2, sl2, p2, r2, o2⟩ =>
    ⟨α2, s2, σ', m2, sl2, (OutS.bind m2 sl2 o2).imp fun iv H3 ⟨α3, s3, z, m3, sl3, p3, r3, o3⟩ => ⟨α3, s3, y, z, x, m3, p3.rep m2 r2.2 r2.1, r3.1, p3.rep m2 (Nat.le_trans tp p2.len) (p2.rep m tp r), Nat.le_trans (Nat.le_trans tp p2.len) p3.len, ?_⟩⟩⟩
  unfold OutU
  cases e : setItem y z x s3 with
  | ok u s4 =>
    rw [e] at o3
    exact fun α4 H4 m4 p4 => o3 α4 H4 σ m4 p4 (sl3.post m3 p4)
  | exc e1 s4 => exact absurd e setItem_noexc
  | bad => rw [e] at o3; exact o3
end
end Dv
end

section
/-! Dv13 -/
/-! Dv13: for, while, comprehensions. -/
namespace Dv
open PySem PySem.Spec PyProof.Rows
open L2 hiding It

section
variable {K : PySem.W.Frag} {E : XK} {α : Nat → Addr} {s : S} {H : Hp} {σ' : Sl} {σ : L2.St} {X : Cx} {pos : Pos} {a b e : Expr} {tg iter : Expr}
def bodyM (t : Tg) (mb : Ms) : D → Sl → S → R (Fl × Sl) := fun d σ s => match t.set d σ with
  | some σ' => mb σ' s
  | none => .bad
def forM (w : Nat) (mi : Mo It) (t : Tg) (mb : Ms) : Ms := fun σ s => (mi σ s).bind fun j s => forL j (bodyM t mb) w 0 σ s
theorem px_for {t : Tg} {mi : Mo It} {mb : Ms} {w : Nat} {body : List Stmt} (hx : X.xe = fun _ _ => False) (hc : X.calm = true) (hi : PI X tg iter (tI X.K E mi)) (hg : PG X tg (tTg X.K t)) (hb : PSs X body (tS X.K E mb)) (hs : ∀ x, foldedSetIterable iter X.env x = pure x) :
    PS X (.For tg iter body [] pos) (tS X.K E (forM w mi t mb)) := by
  refine (ps_for (by rw [hx]; exact PassesOwn.never) hc hi hg hb hs).imp fun De σ H ⟨α, s, σ', m, sl, o⟩ => ⟨α, s, σ', m, sl, ?_⟩
  refine (OutS.bind m sl o).imp fun J H1 ⟨α1, s1, j, m1, sl1, p1, rj, o1⟩ => ?_
  refine ⟨fun i n σ H => ∃ α s σ', Sim X.K α s H ∧ Slt X.K α s H σ' σ ∧ rpI X.K α s H j J ∧ OutS X.K E α s H De (forL j (bodyM t mb) n i σ' s), ⟨w, α1, s1, σ', m1, sl1, rj, o1⟩, ?_⟩
  rintro i n σ H ⟨α, s, σ', m, sl, rj, o⟩
  cases n with
  | zero => exact o.elim
  | succ n =>
    unfold forL at o
    have r0 := rj α s H m .refl i
    cases e : j.at i s with
    | none => simp only [e] at o; exact o.elim
    | some od =>
      cases od with
      | none =>
        simp only [e] at o r0
        exact .inl ⟨r0, o.now m sl⟩
      | some d =>
        simp only [e] at o r0
        obtain ⟨g, y⟩ := r0
        refine .inr ⟨g, fun σ H => ∃ α s σ', Sim X.K α s H ∧ Slt X.K α s H σ' σ ∧ rpI X.K α s H j J ∧ OutS X.K E α s H De (forL j (bodyM t mb) n (i + 1) σ' s), fun σ' H' h => ⟨n, Nat.lt_succ_self n, h⟩, fun x H' hy => ?_⟩
        obtain ⟨m2, p2, rd, td⟩ := y x H' hy
        refine ⟨α, s, σ', d, m2, sl.post m p2, rd, td, ?_⟩
        unfold bodyM at o
        cases e2 : t.set d σ' with
        | none => simp only [e2] at o; exact o.elim
        | some σ2' =>
          simp only [e2] at o
          intro σ2 sl2 _
          refine ⟨α, s, σ2', m2, sl2, ?_⟩
          have o' := OutS.post m2 p2 o
          cases e3 : mb σ2' s with
          | ok q s3 =>
            obtain ⟨fl, σ3'⟩ := q
            simp only [e3] at o'
            intro α3 H3 σ3 m3 p3 sl3
            have rj3 := rpI.kp m3 p3 (rpI.kp m2 p2 rj)
            cases fl with
            | nx => exact ⟨α3, s3, σ3', m3, sl3, rj3, OutS.post m3 p3 o'⟩
            | ct => exact ⟨α3, s3, σ3', m3, sl3, rj3, OutS.post m3 p3 o'⟩
            | bk => exact o' α3 H3 σ3 m3 p3 sl3
            | rt d => exact o' α3 H3 σ3 m3 p3 sl3
          | exc e4 s3 => simp only [e3] at o'; exact o'
          | bad => simp only [e3] at o'; exact o'
def whlM (w : Nat) (mc : Mo D) (mb : Ms) : Ms := fun σ s => whlL (tst mc) mb w σ s
theorem px_whl {mc : Mo D} {mb : Ms} {w : Nat} {c : Expr} {body : List Stmt} (hx : X.xe = fun _ _ => False) (hc : PT X c (tT X.K E (tst mc))) (hb : PSs X body (tS X.K E mb)) : PS X (.While c body [] pos) (tS X.K E (whlM w mc mb)) := by
  refine (ps_while (by rw [hx]; exact PassesOwn.never) hc hb).imp fun De σ H ⟨α, s, σ', m, sl, o⟩ => ?_
  refine ⟨fun n σ H => ∃ α s σ', Sim X.K α s H ∧ Slt X.K α s H σ' σ ∧ OutS X.K E α s H De (whlL (tst mc) mb n σ' s), ⟨w, α, s, σ', m, sl, o⟩, ?_⟩
  rintro n σ H ⟨α, s, σ', m, sl, o⟩
  cases n with
  | zero => exact o.elim
  | succ n =>
    unfold whlL at o
    refine ⟨α, s, σ', m, sl, ?_⟩
    cases e : tst mc σ' s with
    | bad => simp only [e] at o; exact o
    | exc e1 s1 => simp only [e] at o; exact o
    | ok k s1 =>
      simp only [e] at o
      intro α1 g H1 m1 p1 r1
      obtain rfl : k = g := r1
      have sl1 := sl.post m p1
      cases k with
      | false => exact (OutS.post m1 p1 o).now m1 sl1
      | true =>
        rw [if_pos rfl]
        refine ⟨fun σ H => ∃ α s σ', Sim X.K α s H ∧ Slt X.K α s H σ' σ ∧ OutS X.K E α s H De (whlL (tst mc) mb n σ' s), fun σ' H' h => ⟨n, Nat.lt_succ_self n, h⟩, α1, s1, σ', m1, sl1, ?_⟩
        have o' := OutS.post m1 p1 o
        cases e3 : mb σ' s1 with
        | ok q s3 =>
          obtain ⟨fl, σ3'⟩ := q
          simp only [e3] at o'
          intro α3 H3 σ3 m3 p3 sl3
          cases fl with
          | nx => exact ⟨α3, s3, σ3', m3, sl3, OutS.post m3 p3 o'⟩
          | ct => exact ⟨α3, s3, σ3', m3, sl3, OutS.post m3 p3 o'⟩
          | bk => exact o' α3 H3 σ3 m3 p3 sl3
          | rt d => exact o' α3 H3 σ3 m3 p3 sl3
        | exc e4 s3 => simp only [e3] at o'; exact o'
        | bad => simp only [e3] at o'; exact o'
/-! ### comprehensions -/
/-- the object at D, nobody's yet, taken in -/
theorem Sim.join {p : Addr} {u : HO} {o : Ob} (m : Sim K α s H) (hp : H p = some u) (ni : ∀ i, i < s.h.length → α i ≠ p) (ht : o.top ≤ s.h.length) (r : RepO K H α o (some u)) : Sim K (ext α s.h.length p) { s with h := s.h ++ [o] } H where
  inj := fun i j hi hj e => by
    simp only [List.length_append, List.length_singleton] at hi hj
    by_cases h1 : i < s.h.length
    · by_cases h2 : j < s.h.length
      · rw [ext_lt h1, ext_lt h2] at e; exact m.inj i j h1 h2 e
      · have : j = s.h.length := by omega
        subst this
        rw [ext_lt h1, ext_self] at e; exact absurd e (ni i h1)
    · have : i = s.h.length := by omega
      subst this
      by_cases h2 : j < s.h.length
      · rw [ext_lt h2, ext_self] at e; exact absurd e.symm (ni j h2)
      · omega
  obj := fun i o' e => by
    have ag : ∀ i, i < s.h.length → ext α s.h.length p i = α i := fun i hi => ext_lt hi
    rcases get_snoc e with e | ⟨rfl, rfl⟩
    · have hi := (List.getElem?_eq_some_iff.mp e).1
      rw [ext_lt hi]
      exact (m.obj i o' e).mono (fun _ _ _ h => h) ag (m.top e)
    · rw [ext_self, hp]
      exact r.mono (fun _ _ _ h => h) ag ht
  wf := fun i o' e => by
    rcases get_snoc e with e | ⟨rfl, rfl⟩
    · exact m.wf i o' e
    · show o'.top ≤ max (s.h.length + 1) s.k
      omega
  kle := by
    show s.k ≤ (s.h ++ [o]).length
    have := m.kle
    simp only [List.length_append, List.length_singleton]
    omega
theorem Sim.bump {p : Addr} {u v : HO} (m : Sim K α s H) (hp : H p = some u) (hs : ¬ Stay u) (ni : ∀ i, i < s.h.length → α i ≠ p) : Sim K α s (upd H p v) where
  inj := m.inj
  obj := fun i o e => by
    have hi := (List.getElem?_eq_some_iff.mp e).1
    rw [upd_ne (ni i hi)]
    exact (m.obj i o e).mono (n := o.top) (fun a u' st h => by rw [upd_ne (fun e => by rw [e, hp] at h; cases h; exact hs st)]; exact h) (fun _ _ => rfl) (Nat.le_refl _)
  wf := m.wf
  kle := m.kle
theorem Sim.kp {p : Addr} {u v : HO} (hp : H p = some u) (hs : ¬ Stay u) : ∀ a u', Stay u' → H a = some u' → (upd H p v) a = some u' := fun a u' st h => by rw [upd_ne (fun e => by rw [e, hp] at h; cases h; exact hs st)]; exact h
section
variable {α0 α1 : Nat → Addr} {s0 s1 : S} {H0 H1 : Hp} {p : Addr}
theorem Post.upd {v : HO} (h : Post α0 s0 H0 α s H) (hp : H0 p = none) : Post α0 s0 H0 α s (upd H p v) :=
  ⟨fun a o e ni => by rw [upd_ne (fun q => by rw [q, hp] at e; cases e)]; exact h.frame a o e ni, h.agree, h.len, h.fresh⟩
theorem Post.join {o : Ob} (h : Post α0 s0 H0 α s H) (hp : H0 p = none) : Post α0 s0 H0 (ext α s.h.length p) { s with h := s.h ++ [o] } H where
  frame := h.frame
  agree := fun i hi => by rw [ext_lt (Nat.lt_of_lt_of_le hi h.len)]; exact h.agree i hi
  len := by have := h.len; simp only [List.length_append, List.length_singleton]; omega
  fresh := fun i h1 h2 => by
    simp only [List.length_append, List.length_singleton] at h2
    by_cases q : i < s.h.length
    · rw [ext_lt q]; exact h.fresh i h1 q
    · have : i = s.h.length := by omega
      subst this
      rw [ext_self]; exact hp
/-- nobody's object stays nobody's, and as it is -/
theorem Post.apart {u : HO} (h : Post α s H α1 s1 H1) (hp : H p = some u) (ni : ∀ i, i < s.h.length → α i ≠ p) : H1 p = some u ∧ ∀ i, i < s1.h.length → α1 i ≠ p :=
  ⟨h.frame p u hp ni, fun i hi => by
    by_cases q : i < s.h.length
    · rw [h.agree i q]; exact ni i q
    · intro e
      have := h.fresh i (by omega) hi
      rw [e, hp] at this
      cases this⟩
/-- a part, the whole's base kept -/
theorem OutG.bindB {β γ β' γ' : Type} {rep : Rp β γ} {rep' : Rp β' γ'} {r : R β} {f : β → S → R β'} {Q : γ' → Hp → Prop} (m : Sim K α s H) (p : Post α0 s0 H0 α s H) (h : OutG K E rep' α0 s0 H0 Q (r.bind f)) :
    OutG K E rep α s H (fun g H' => ∃ α' s' b, Sim K α' s' H' ∧ Post α s H α' s' H' ∧ Post α0 s0 H0 α' s' H' ∧ rep α' s' H' b g ∧ OutG K E rep' α0 s0 H0 Q (f b s')) r := by
  cases r with
  | ok b s1 => exact fun α' g H' m' p' r => ⟨α', s1, b, m', p', p.trans m p', r, h⟩
  | exc e s1 => exact fun α' H' c d m' q r => h α' H' c d m' (p.trans m q) r
  | bad => exact h
end
theorem wipe_wipe : ∀ {us : List Nat} {vs : List Nat} {σ : L2.St}, (∀ u ∈ us, u ∈ vs) → L2.wipe (L2.wipe σ us) vs = L2.wipe σ vs
  | [], _, _, _ => rfl
  | u :: us, vs, σ, h => by
    show L2.wipe ((L2.wipe σ us).set u none) vs = _
    rw [wipe_set (β := Nat), if_pos (h u List.mem_cons_self)]
    exact wipe_wipe fun v hv => h v (List.mem_cons_of_mem _ hv)
/-- a turn's value -/
def turnM (t : Tg) (mt : Mo Bool) (me : Mo D) (σ : Sl) : D → S → R (Option D) := fun d s => match t.set d σ with
  | some σ' => (mt σ' s).bind fun c s => match c with
    | true => (me σ' s).bind fun y s => .ok (some y) s
    | false => .ok none s
  | none => .bad
def lcM (w : Nat) (mi : Mo It) (t : Tg) (mt : Mo Bool) (me : Mo D) : Mo D := fun σ s => (mi σ s).bind fun j s => (lcL j (turnM t mt me σ) w 0 [] s).bind fun ds s => s.new (.list ds)
theorem lc_of {t : Tg} {mi : Mo It} {mt : Mo Bool} {me : Mo D} {w : Nat} {vs : List Nat} (hv : ∀ v ∈ vs, v ∈ t.ixs) (hv2 : ∀ v ∈ t.ixs, v ∈ vs) {Q : VK} (h : tE K E (lcM w mi t mt me) σ H Q) :
    tLc (tI K E mi) (tTg K t) (tT K E mt) (tE K E me) vs σ H Q := by
  obtain ⟨α, s, σ', m, sl, o⟩ := h
  refine ⟨α, s, σ', m, sl, (OutG.bind m sl o).imp fun J H1 ⟨α0, s0, j, m0, sl0, p0, rj, o0⟩ => ?_⟩
  intro Da hD
  refine ⟨fun i n H => ∃ α s accd acc, Sim K α s H ∧ Post α0 s0 H1 α s H ∧ H Da = some (.lst acc) ∧ (∀ i, i < s.h.length → α i ≠ Da) ∧ RepDs K H α accd acc ∧ D.tops accd ≤ s.h.length ∧
    OutG K E (rpV K) α0 s0 H1 Q ((lcL j (turnM t mt me σ') n i accd s).bind fun ds s => s.new (.list ds)), ⟨w, α0, s0, [], [], m0.aside hD, .aside hD, upd_same, fun i hi e => ?_, rfl, by simp [D.tops], o0⟩, ?_⟩
  · obtain ⟨u, hu, _⟩ := m0.there hi
    rw [e, hD] at hu; cases hu
  rintro i n H ⟨α, s, accd, acc, m, p, hH, ni, ra, ta, o⟩
  cases n with
  | zero => exact o.elim
  | succ n =>
    unfold lcL at o
    have r0 := rj α s H m p i
    cases e : j.at i s with
    | none => simp only [e] at o; exact o.elim
    | some od =>
      cases od with
      | none =>
        simp only [e] at o r0
        refine .inl ⟨r0, ?_⟩
        exact o (ext α s.h.length Da) (.ref Da) H (m.join hH ni ta ⟨acc, rfl, ra⟩) (p.join hD) ⟨by rw [RepD, ext_self], by simp [D.top]⟩
      | some d =>
        simp only [e] at o r0
        obtain ⟨g, y⟩ := r0
        refine .inr ⟨g, fun H => ∃ α s accd acc, Sim K α s H ∧ Post α0 s0 H1 α s H ∧ H Da = some (.lst acc) ∧ (∀ i, i < s.h.length → α i ≠ Da) ∧ RepDs K H α accd acc ∧ D.tops accd ≤ s.h.length ∧
          OutG K E (rpV K) α0 s0 H1 Q ((lcL j (turnM t mt me σ') n (i + 1) accd s).bind fun ds s => s.new (.list ds)), fun H' h => ⟨n, Nat.lt_succ_self n, h⟩, fun x H' hy => ?_⟩
        obtain ⟨m2, p2, rd, td⟩ := y x H' hy
        obtain ⟨hH', ni'⟩ := p2.apart hH ni
        have p' := p.trans m p2
        have ra' := p2.reps m ta ra
        refine ⟨α, s, wipeS σ' vs, d, m2, (sl0.post m0 p').wipe vs, rd, td, ?_⟩
        rw [Tg.set_wipe hv]
        unfold turnM at o
        cases e2 : t.set d σ' with
        | none => simp only [e2] at o; exact o.elim
        | some σ2' =>
          simp only [e2, R.bind_assoc] at o
          intro σ2 sl2 hw
          refine ⟨by rw [hw vs hv2, wipe_wipe fun u hu => hu], α, s, σ2', m2, sl2, (OutG.bindB (rep := rpB) m2 p' o).imp fun b H3 ⟨α3, s3, b', m3, q3, p3, rb, o3⟩ => ?_⟩
          obtain rfl : b' = b := rb
          obtain ⟨hH3, ni3⟩ := q3.apart hH' ni'
          have ra3 := q3.reps m2 ta ra'
          have ta3 := Nat.le_trans ta q3.len
          cases b' with
          | false => exact ⟨α3, s3, accd, acc, m3, p3, hH3, ni3, ra3, ta3, o3⟩
          | true =>
            rw [if_pos rfl]
            simp only [R.bind_assoc] at o3
            refine ⟨α3, s3, σ2', m3, sl2.post m2 q3, (OutG.bindB (rep := rpV K) m3 p3 o3).imp fun y H4 ⟨α4, s4, yd, m4, q4, p4, ry, o4⟩ => ?_⟩
            obtain ⟨hH4, ni4⟩ := q4.apart hH3 ni3
            have ra4 := q4.reps m3 ta3 ra3
            have ta4 := Nat.le_trans ta3 q4.len
            simp only [R.bind_ok] at o4
            split at o4
            · rename_i hz
              refine ⟨acc, hH4, by rw [ra4.length]; exact hz, α4, s4, accd ++ [yd], acc ++ [y], m4.bump hH4 (fun h => h.elim) ni4, p4.upd hD, upd_same, ni4, ?_, ?_, o4⟩
              · exact (ra4.append (RepDs.one ry.1)).mono (n := D.tops (accd ++ [yd])) (Sim.kp hH4 fun h => h.elim) (fun _ _ => rfl) _ _ (Nat.le_refl _)
              · rw [tops_append]
                exact Nat.max_le.mpr ⟨ta4, by simp [D.tops]; exact ry.2⟩
            · exact o4.elim
end
end Dv
end

section
/-! Dv14 -/
/-! Dv14: comprehensions as expressions and as stored values; dict displays; stores in pairs. -/
namespace Dv
open PySem PySem.Spec PyProof.Rows
open L2 hiding It

section
variable {K : PySem.W.Frag} {E : XK} {α : Nat → Addr} {s : S} {H : Hp} {σ' : Sl} {σ : L2.St} {X : Cx} {pos spos : Pos} {a b e : Expr} {tg iter : Expr}
/-! ### tests of a comprehension -/
def tsM : List (Mo D) → Mo Bool
  | [] => fun _ s => .ok true s
  | m :: r => fun σ s => (m σ s).bind fun x s => (testD x s).bind fun b s => match b with
    | true => tsM r σ s
    | false => .ok false s
theorem tsM_one (m : Mo D) : tsM [m] = tst m := by
  funext σ s
  unfold tsM tst
  congr 1
  funext x s1
  unfold testD
  cases truthy x s1 with
  | none => rfl
  | some b => cases b <;> rfl
theorem px_ts0 : PTs X [] (tT X.K E (tsM [])) := ⟨fun pins st σ H Q I ⟨α, s, σ', m, sl, o⟩ => pts_nil.run pins st σ H Q I (OutG.now (rep := rpB) (b := true) m rfl o)⟩
theorem px_ts1 {c : Expr} {m : Mo D} (h : PT X c (tT X.K E (tst m))) : PTs X [c] (tT X.K E (tsM [m])) := by rw [tsM_one]; exact pts_one h
/-! ### [ .. for .. ] -/
section
variable {elt : Expr} {ifs : List Expr} {scope : Scope} {own : List (Str × Nat)} {t : Tg} {mi : Mo It} {mt : Mo Bool} {me : Mo D} {w : Nat}
theorem px_lc (hc : X.calm = true) (hN : X.N.Nodup) (hi : PI X tg iter (tI X.K E mi)) (ok : BlkOk X.N X.env.scope scope own) (hv : own.map (·.2) = t.ixs)
    (hg : ∀ (s : Shared) (H : Hp) (C : Addr) (cl : List (Str × Addr)) (fp : List Addr), PG (X.blk s H scope (compEnvC scope cl C X.env) fp) tg (tTg X.K t))
    (ht : ∀ (s : Shared) (H : Hp) (C : Addr) (cl : List (Str × Addr)) (fp : List Addr), PTs (X.blk s H scope (compEnvC scope cl C X.env) fp) ifs (tT X.K E mt))
    (he : ∀ (s : Shared) (H : Hp) (C : Addr) (cl : List (Str × Addr)) (fp : List Addr), PE (X.blk s H scope (compEnvC scope cl C X.env) fp) elt (tE X.K E me)) (hs : ∀ x, foldedSetIterable iter X.env x = pure x) :
    PE X (.ListComp elt [⟨tg, iter, ifs, 0⟩] scope pos) (tE X.K E (lcM w mi t mt me)) :=
  (pe_lc hc hN hi ok hg ht he hs).imp fun σ H Q h => lc_of (by rw [hv]; exact fun _ h => h) (by rw [hv]; exact fun _ h => h) h
theorem px_setLc {i : Nat} {y : Str} {py : Pos} (hc : X.calm = true) (hN : X.N.Nodup) (hy : X.N[i]? = some y) (hyl : X.env.scope.names.lookup y = some .local)
    (hsw : swapsWith (.ListComp elt [⟨tg, iter, ifs, 0⟩] scope pos) (some (.Name y py)) spos.line X.env = pure true) (hi : PI X tg iter (tI X.K E mi)) (ok : BlkOk X.N X.env.scope scope own) (hv : own.map (·.2) = t.ixs)
    (hg : ∀ (s : Shared) (H : Hp) (C : Addr) (cl : List (Str × Addr)) (fp : List Addr), PG (X.blk s H scope (compEnvC scope cl C X.env) fp) tg (tTg X.K t))
    (ht : ∀ (s : Shared) (H : Hp) (C : Addr) (cl : List (Str × Addr)) (fp : List Addr), PTs (X.blk s H scope (compEnvC scope cl C X.env) fp) ifs (tT X.K E mt))
    (he : ∀ (s : Shared) (H : Hp) (C : Addr) (cl : List (Str × Addr)) (fp : List Addr), PE (X.blk s H scope (compEnvC scope cl C X.env) fp) elt (tE X.K E me)) (hs : ∀ x, foldedSetIterable iter X.env x = pure x) :
    PS X (.Assign [.Name y py] (.ListComp elt [⟨tg, iter, ifs, 0⟩] scope pos) spos) (tS X.K E (asgM (.nm i) (lcM w mi t mt me))) :=
  (ps_setLc hc hN hy hyl hsw hi ok hg ht he hs).imp fun De σ H h => lc_of (by rw [hv]; exact fun _ h => h) (by rw [hv]; exact fun _ h => h) (tS.b1 h fun v H' α s σ' x m sl r tp o => o.now m (sl.set i r tp))
end
/-! ### {k: v for ..} -/
def turnD (t : Tg) (mt : Mo Bool) (mk mv : Mo D) (σ : Sl) : D → S → R (Option (D × D)) := fun d s => match t.set d σ with
  | some σ' => (mt σ' s).bind fun c s => match c with
    | true => (mk σ' s).bind fun x s => (mv σ' s).bind fun y s => .ok (some (x, y)) s
    | false => .ok none s
  | none => .bad
def dcM (w : Nat) (mi : Mo It) (t : Tg) (mt : Mo Bool) (mk mv : Mo D) : Mo D := fun σ s => (mi σ s).bind fun j s => (dcL j (turnD t mt mk mv σ) w 0 [] s).bind fun kvs s => s.new (.dict kvs)
theorem dc_of {t : Tg} {mi : Mo It} {mt : Mo Bool} {mk mv : Mo D} {w : Nat} {vs : List Nat} (hv : ∀ v ∈ vs, v ∈ t.ixs) (hv2 : ∀ v ∈ t.ixs, v ∈ vs) {Q : VK} (h : tE K E (dcM w mi t mt mk mv) σ H Q) :
    tDc (tI K E mi) (tTg K t) (tT K E mt) (tE K E mk) (tE K E mv) vs σ H Q := by
  obtain ⟨α, s, σ', m, sl, o⟩ := h
  refine ⟨α, s, σ', m, sl, (OutG.bind m sl o).imp fun J H1 ⟨α0, s0, j, m0, sl0, p0, rj, o0⟩ => ?_⟩
  intro Da hD
  refine ⟨fun i n H => ∃ α s kd kv, Sim K α s H ∧ Post α0 s0 H1 α s H ∧ H Da = some (.dK kv) ∧ (∀ i, i < s.h.length → α i ≠ Da) ∧ RepKv K H α kd kv ∧ topKv kd ≤ s.h.length ∧
    OutG K E (rpV K) α0 s0 H1 Q ((dcL j (turnD t mt mk mv σ') n i kd s).bind fun kvs s => s.new (.dict kvs)), ⟨w, α0, s0, [], [], m0.aside hD, .aside hD, upd_same, fun i hi e => ?_, rfl, by simp [topKv], o0⟩, ?_⟩
  · obtain ⟨u, hu, _⟩ := m0.there hi
    rw [e, hD] at hu; cases hu
  rintro i n H ⟨α, s, kd, kv, m, p, hH, ni, ra, ta, o⟩
  cases n with
  | zero => exact o.elim
  | succ n =>
    unfold dcL at o
    have r0 := rj α s H m p i
    cases e : j.at i s with
    | none => simp only [e] at o; exact o.elim
    | some od =>
      cases od with
      | none =>
        simp only [e] at o r0
        refine .inl ⟨r0, ?_⟩
        exact o (ext α s.h.length Da) (.ref Da) H (m.join hH ni ta ⟨kv, rfl, ra⟩) (p.join hD) ⟨by rw [RepD, ext_self], by simp [D.top]⟩
      | some d =>
        simp only [e] at o r0
        obtain ⟨g, y⟩ := r0
        refine .inr ⟨g, fun H => ∃ α s kd kv, Sim K α s H ∧ Post α0 s0 H1 α s H ∧ H Da = some (.dK kv) ∧ (∀ i, i < s.h.length → α i ≠ Da) ∧ RepKv K H α kd kv ∧ topKv kd ≤ s.h.length ∧
          OutG K E (rpV K) α0 s0 H1 Q ((dcL j (turnD t mt mk mv σ') n (i + 1) kd s).bind fun kvs s => s.new (.dict kvs)), fun H' h => ⟨n, Nat.lt_succ_self n, h⟩, fun x H' hy => ?_⟩
        obtain ⟨m2, p2, rd, td⟩ := y x H' hy
        obtain ⟨hH', ni'⟩ := p2.apart hH ni
        have p' := p.trans m p2
        have kvp : ∀ {α s H α' s' H'}, Sim K α s H → Post α s H α' s' H' → topKv kd ≤ s.h.length → RepKv K H α kd kv → RepKv K H' α' kd kv := fun m p t r => RepKv.mono (p.keep m) p.agree kd kv t r
        have ra' := kvp m p2 ta ra
        refine ⟨α, s, wipeS σ' vs, d, m2, (sl0.post m0 p').wipe vs, rd, td, ?_⟩
        rw [Tg.set_wipe hv]
        unfold turnD at o
        cases e2 : t.set d σ' with
        | none => simp only [e2] at o; exact o.elim
        | some σ2' =>
          simp only [e2, R.bind_assoc] at o
          intro σ2 sl2 hw
          refine ⟨by rw [hw vs hv2, wipe_wipe fun u hu => hu], α, s, σ2', m2, sl2, (OutG.bindB (rep := rpB) m2 p' o).imp fun b H3 ⟨α3, s3, b', m3, q3, p3, rb, o3⟩ => ?_⟩
          obtain rfl : b' = b := rb
          obtain ⟨hH3, ni3⟩ := q3.apart hH' ni'
          have ra3 := kvp m2 q3 ta ra'
          have ta3 := Nat.le_trans ta q3.len
          have sl3 := sl2.post m2 q3
          cases b' with
          | false => exact ⟨α3, s3, kd, kv, m3, p3, hH3, ni3, ra3, ta3, o3⟩
          | true =>
            rw [if_pos rfl]
            simp only [R.bind_assoc] at o3
            refine ⟨α3, s3, σ2', m3, sl3, (OutG.bindB (rep := rpV K) m3 p3 o3).imp fun y H4 ⟨α4, s4, yd, m4, q4, p4, ry, o4⟩ => ?_⟩
            obtain ⟨hH4, ni4⟩ := q4.apart hH3 ni3
            have ra4 := kvp m3 q4 ta3 ra3
            have ta4 := Nat.le_trans ta3 q4.len
            have sl4 := sl3.post m3 q4
            refine ⟨α4, s4, σ2', m4, sl4, (OutG.bindB (rep := rpV K) m4 p4 o4).imp fun z H5 ⟨α5, s5, zd, m5, q5, p5, rz, o5⟩ => ?_⟩
            obtain ⟨hH5, ni5⟩ := q5.apart hH4 ni4
            have ra5 := kvp m4 q5 ta4 ra4
            have ta5 := Nat.le_trans ta4 q5.len
            simp only [R.bind_ok] at o5
            cases ek : key? yd with
            | none => simp only [ek] at o5; exact o5.elim
            | some k =>
              simp only [ek] at o5
              split at o5
              · rename_i hz
                have eky : y = kV k := key_kV ek ry.1
                refine ⟨kv, k, eky, hH5, by rw [ra5.length]; exact hz, α5, s5, kput kd k zd, putK kv k z, m5.bump hH5 (fun h => h.elim) ni5, p5.upd hD, upd_same, ni5, ?_, ?_, o5⟩
                · exact RepKv.mono (n := topKv (kput kd k zd)) (Sim.kp hH5 fun h => h.elim) (fun _ _ => rfl) _ _ (Nat.le_refl _) (ra5.put rz.1)
                · exact Nat.le_trans (topKv_put kd k zd) (Nat.max_le.mpr ⟨ta5, rz.2⟩)
              · exact o5.elim
end
end Dv
end

section
/-! Dv15 -/
/-! Dv15: dict comprehensions, stores in pairs and triples, dict displays. -/
namespace Dv
open PySem PySem.Spec PyProof.Rows
open L2 hiding It

section
variable {K : PySem.W.Frag} {E : XK} {α : Nat → Addr} {s : S} {H : Hp} {σ' : Sl} {σ : L2.St} {X : Cx} {pos spos : Pos} {a b c e : Expr} {tg iter kx vx : Expr}
section
variable {ifs : List Expr} {scope : Scope} {own : List (Str × Nat)} {t : Tg} {mi : Mo It} {mt : Mo Bool} {mk mv : Mo D} {w : Nat}
theorem px_dc (hc : X.calm = true) (hN : X.N.Nodup) (hi : PI X tg iter (tI X.K E mi)) (ok : BlkOk X.N X.env.scope scope own) (hv : own.map (·.2) = t.ixs)
    (hg : ∀ (s : Shared) (H : Hp) (C : Addr) (cl : List (Str × Addr)) (fp : List Addr), PG (X.blk s H scope (compEnvC scope cl C X.env) fp) tg (tTg X.K t))
    (ht : ∀ (s : Shared) (H : Hp) (C : Addr) (cl : List (Str × Addr)) (fp : List Addr), PTs (X.blk s H scope (compEnvC scope cl C X.env) fp) ifs (tT X.K E mt))
    (hk : ∀ (s : Shared) (H : Hp) (C : Addr) (cl : List (Str × Addr)) (fp : List Addr), PE (X.blk s H scope (compEnvC scope cl C X.env) fp) kx (tE X.K E mk))
    (he : ∀ (s : Shared) (H : Hp) (C : Addr) (cl : List (Str × Addr)) (fp : List Addr), PE (X.blk s H scope (compEnvC scope cl C X.env) fp) vx (tE X.K E mv)) (hs : ∀ x, foldedSetIterable iter X.env x = pure x) :
    PE X (.DictComp kx vx [⟨tg, iter, ifs, 0⟩] scope pos) (tE X.K E (dcM w mi t mt mk mv)) :=
  (pe_dc hc hN hi ok hg ht hk he hs).imp fun σ H Q h => dc_of (by rw [hv]; exact fun _ h => h) (by rw [hv]; exact fun _ h => h) h
theorem px_setDc {i : Nat} {y : Str} {py : Pos} (hc : X.calm = true) (hN : X.N.Nodup) (hy : X.N[i]? = some y) (hyl : X.env.scope.names.lookup y = some .local)
    (hsw : swapsWith (.DictComp kx vx [⟨tg, iter, ifs, 0⟩] scope pos) (some (.Name y py)) spos.line X.env = pure true) (hi : PI X tg iter (tI X.K E mi)) (ok : BlkOk X.N X.env.scope scope own) (hv : own.map (·.2) = t.ixs)
    (hg : ∀ (s : Shared) (H : Hp) (C : Addr) (cl : List (Str × Addr)) (fp : List Addr), PG (X.blk s H scope (compEnvC scope cl C X.env) fp) tg (tTg X.K t))
    (ht : ∀ (s : Shared) (H : Hp) (C : Addr) (cl : List (Str × Addr)) (fp : List Addr), PTs (X.blk s H scope (compEnvC scope cl C X.env) fp) ifs (tT X.K E mt))
    (hk : ∀ (s : Shared) (H : Hp) (C : Addr) (cl : List (Str × Addr)) (fp : List Addr), PE (X.blk s H scope (compEnvC scope cl C X.env) fp) kx (tE X.K E mk))
    (he : ∀ (s : Shared) (H : Hp) (C : Addr) (cl : List (Str × Addr)) (fp : List Addr), PE (X.blk s H scope (compEnvC scope cl C X.env) fp) vx (tE X.K E mv)) (hs : ∀ x, foldedSetIterable iter X.env x = pure x) :
    PS X (.Assign [.Name y py] (.DictComp kx vx [⟨tg, iter, ifs, 0⟩] scope pos) spos) (tS X.K E (asgM (.nm i) (dcM w mi t mt mk mv))) := by
  constructor
  intro pn st σ H De I h0
  have h : tDc (tI X.K E mi) (tTg X.K t) (tT X.K E mt) (tE X.K E mk) (tE X.K E mv) (own.map (·.2)) σ H fun x H1 => gName i x σ H1 De.nx :=
    dc_of (by rw [hv]; exact fun _ h => h) (by rw [hv]; exact fun _ h => h) (tS.b1 h0 fun v H' α s σ' x m sl r tp o => o.now m (sl.set i r tp))
  rw [exec_Assign_Name_used _ _ _ _ hsw]
  refine wpAny_bind (wpAny_standAt (wpAny_bind ?_))
  show wpAny _ X.A (comprehension (.DictComp kx vx [⟨tg, iter, ifs, 0⟩] scope pos) scope X.env (firstIterPos [⟨tg, iter, ifs, 0⟩] pos) newDict false (eval iter X.env) (some (assign (.Name y py) X.env)) >>= _) _ _ st
  refine wpAny_bind (thn (dc_core (Qf := fun _ z => SP X pn De .next z) hc hN I hi ok hg ht hk he hs h ?_) fun _ z hq => wpAny_pure (wpAny_pure hq))
  intro L C z mm H' I' q hn f
  show wpAny _ _ (assign (.Name y py) X.env (.ref L)) _ _ _
  refine wpAny_assign_Name (store_ok2 (v := V.ref L) I' hN hy (.inl hyl) rfl (fun s2 I2 ⟨d, sb, hd⟩ => ?_) (.inr hyl))
  obtain ⟨f0, f1, f2, f3, f4, f5⟩ := f
  have ne : C ≠ d := hd.elim (fun z => by rw [z]; exact f1) fun z e => f4 y d z e.symm
  exact ⟨mm, hn.sameBut sb ne, fun h3 sb3 => ⟨_, H', I2.turned (t' := s2.toks) (fun b o hb e => (sb3.2 b hb).trans e) f0 f1 f3 f4 f5, q⟩⟩
end

/-! ### x, y = a, b stored name by name -/
def tupM (ms : Mo (List D)) : Mo D := fun σ s => (ms σ s).bind fun ds s => .ok (.tup ds) s
section
variable {ms : Mo (List D)}
theorem px_par {i j : Nat} {x y : Str} {px py pt : Pos} {kt k2 pt2} (hc : X.calm = true) (hN : X.N.Nodup) (hi : X.N[i]? = some x) (hj : X.N[j]? = some y) (hij : i ≠ j)
    (hx : X.env.scope.names.lookup x = some .local) (hy : X.env.scope.names.lookup y = some .local) (ha : PA X [a, b] (tA X.K E ms))
    (hw : swappedStores [.Tuple [.Name x px, .Name y py] kt pt] (.Tuple [a, b] k2 pt2) X.env = pure (some [x, y]))
    (hs : swapsWithSole [.Tuple [.Name x px, .Name y py] kt pt] (.Tuple [a, b] k2 pt2) pos.line X.env = pure false) :
    PS X (.Assign [.Tuple [.Name x px, .Name y py] kt pt] (.Tuple [a, b] k2 pt2) pos) (tS X.K E (asgM (.tp [i, j]) (tupM ms))) := by
  refine (ps_par hc hN hi hj hij hx hy ha hw hs).imp fun De σ H ⟨α, s, σ', m, sl, o⟩ => ⟨α, s, σ', m, sl, ?_⟩
  unfold asgM tupM at o
  simp only [R.bind_assoc] at o
  refine (OutS.bind (rep := rpVs X.K) m sl o).imp fun vs H2 ⟨α2, s2, ds, m2, sl2, p2, r2, o2⟩ => ?_
  simp only [R.bind_ok, Tg.set] at o2
  split at o2
  · rename_i σ3 e
    split at e
    · rename_i hl
      match ds, hl with
      | [d1, d2], _ =>
        cases e
        have rr := r2.1
        have tt := r2.2
        rw [RepDs] at rr
        obtain ⟨v, w, rfl, r1, rr⟩ := rr
        obtain ⟨v2, rfl, r2'⟩ := reps_one rr
        simp only [D.tops] at tt
        exact ⟨v, v2, rfl, o2.now m2 ((sl2.set i r1 (by omega)).set j r2' (by omega))⟩
    · cases e
  · exact o2.elim
theorem px_par3 {i j l : Nat} {x y z : Str} {px py pz pt : Pos} {kt k2 pt2} (hc : X.calm = true) (hN : X.N.Nodup) (hi : X.N[i]? = some x) (hj : X.N[j]? = some y) (hl : X.N[l]? = some z) (hij : i ≠ j) (hil : i ≠ l) (hjl : j ≠ l)
    (hx : X.env.scope.names.lookup x = some .local) (hy : X.env.scope.names.lookup y = some .local) (hz : X.env.scope.names.lookup z = some .local) (ha : PA X [a, b, c] (tA X.K E ms))
    (hw : swappedStores [.Tuple [.Name x px, .Name y py, .Name z pz] kt pt] (.Tuple [a, b, c] k2 pt2) X.env = pure (some [x, y, z]))
    (hs : swapsWithSole [.Tuple [.Name x px, .Name y py, .Name z pz] kt pt] (.Tuple [a, b, c] k2 pt2) pos.line X.env = pure false) :
    PS X (.Assign [.Tuple [.Name x px, .Name y py, .Name z pz] kt pt] (.Tuple [a, b, c] k2 pt2) pos) (tS X.K E (asgM (.tp [i, j, l]) (tupM ms))) := by
  refine (ps_par3 hc hN hi hj hl hij hil hjl hx hy hz ha hw hs).imp fun De σ H ⟨α, s, σ', m, sl, o⟩ => ⟨α, s, σ', m, sl, ?_⟩
  unfold asgM tupM at o
  simp only [R.bind_assoc] at o
  refine (OutS.bind (rep := rpVs X.K) m sl o).imp fun vs H2 ⟨α2, s2, ds, m2, sl2, p2, r2, o2⟩ => ?_
  simp only [R.bind_ok, Tg.set] at o2
  split at o2
  · rename_i σ3 e
    split at e
    · rename_i hl
      match ds, hl with
      | [d1, d2, d3], _ =>
        cases e
        have rr := r2.1
        have tt := r2.2
        rw [RepDs] at rr
        obtain ⟨v, w, rfl, r1, rr⟩ := rr
        rw [RepDs] at rr
        obtain ⟨v2, w, rfl, r2', rr⟩ := rr
        obtain ⟨v3, rfl, r3'⟩ := reps_one rr
        simp only [D.tops] at tt
        exact ⟨v, v2, v3, rfl, o2.now m2 (((sl2.set i r1 (by omega)).set j r2' (by omega)).set l r3' (by omega))⟩
    · cases e
  · exact o2.elim
/-! ### dict displays -/
def msOf : List (Ke × Mo D) → Mo (List D)
  | [] => fun _ s => .ok [] s
  | p :: r => fun σ s => (p.2 σ s).bind fun x s => (msOf r σ s).bind fun xs s => .ok (x :: xs) s
def trsOf (K : PySem.W.Frag) (E : XK) (l : List (Ke × Mo D)) : List (TE × TE) := l.map fun p => (tE K E (fun _ s => .ok (keyD p.1) s), tE K E p.2)
theorem keyD_rep {k : Ke} {v : V} (r : RepD K H α (keyD k) v) : v = kV k := by
  cases k with
  | inl i => simp only [keyD, RepD] at r; exact r
  | inr x => simp only [keyD, RepD] at r; exact r.1
theorem dct_pairs {Da : Addr} {Q : VK} {α0 : Nat → Addr} {s0 : S} {H0 : Hp} {R0 : List (V × V) → Hp → Prop} : ∀ (l : List (Ke × Mo D)) {F : List D → S → R D} {α : Nat → Addr} {s : S} {H : Hp}, Sim K α s H → Slt K α s H σ' σ → Post α0 s0 H0 α s H → H Da = some (.dK []) → (∀ i, i < s.h.length → α i ≠ Da) →
    OutG K E (rpV K) α0 s0 H0 Q ((msOf l σ' s).bind F) →
    (∀ α' s' H' ds vs, Sim K α' s' H' → Post α0 s0 H0 α' s' H' → Post α s H α' s' H' → H' Da = some (.dK []) → (∀ i, i < s'.h.length → α' i ≠ Da) → RepDs K H' α' ds vs → D.tops ds ≤ s'.h.length → ds.length = l.length → OutG K E (rpV K) α0 s0 H0 Q (F ds s') → R0 (((l.map (·.1)).zip vs).map fun kv => (kV kv.1, kv.2)) H') →
    tPairs (trsOf K E l) σ H R0
  | [], F, α, s, H, m, sl, p, hH, ni, o, k => k α s H [] [] m p .refl hH ni rfl (by simp [D.tops]) rfl o
  | q :: l, F, α, s, H, m, sl, p, hH, ni, o, k => by
    refine ⟨α, s, σ', m, sl, fun α1 x H1 m1 p1 r1 => ?_⟩
    obtain ⟨hH1, ni1⟩ := p1.apart hH ni
    have ex : x = kV q.1 := keyD_rep r1.1
    unfold msOf at o
    rw [R.bind_assoc] at o
    refine ⟨α1, s, σ', m1, sl.post m p1, (OutG.bindB (rep := rpV K) m1 (p.trans m p1) o).imp fun y H2 ⟨α2, s2, d, m2, q2, p2, r2, o2⟩ => ?_⟩
    obtain ⟨hH2, ni2⟩ := q2.apart hH1 ni1
    rw [R.bind_assoc] at o2
    refine dct_pairs l m2 ((sl.post m p1).post m1 q2) p2 hH2 ni2 o2 fun α3 s3 H3 ds vs m3 p3 q3 hH3 ni3 r3 t3 hl o3 => ?_
    rw [ex]
    exact k α3 s3 H3 (d :: ds) (y :: vs) m3 p3 ((p1.trans m1 q2).trans m2 q3) hH3 ni3 ⟨y, vs, rfl, q3.rep m2 r2.2 r2.1, r3⟩ (by rw [D.tops]; exact Nat.max_le.mpr ⟨Nat.le_trans r2.2 q3.len, t3⟩) (by simp [hl]) o3
def dctM (ks : List Ke) (ms : Mo (List D)) : Mo D := fun σ s => (ms σ s).bind fun ds s => if ks.length = ds.length ∧ ks.length ≤ 15 ∧ ks.Nodup then s.new (.dict (ks.zip ds)) else .bad
theorem merge_zip : ∀ {ks : List Ke} {vs : List V} {acc : List (Key × V)}, (∀ k ∈ ks, ∀ p ∈ acc, p.1 ≠ k) → ks.Nodup → ks.length = vs.length → mergeK acc (ks.zip vs) = acc ++ ks.zip vs
  | [], [], acc, _, _, _ => by simp [mergeK]
  | [], _ :: _, _, _, _, h => by cases h
  | _ :: _, [], _, _, _, h => by cases h
  | k :: ks, v :: vs, acc, h, nd, hl => by
    have e : putK acc k v = acc ++ [(k, v)] := by
      unfold putK
      rw [if_neg]
      intro hh
      obtain ⟨p, hp, q⟩ := List.any_eq_true.mp hh
      exact h k List.mem_cons_self p hp (of_decide_eq_true q)
    show mergeK (putK acc k v) (ks.zip vs) = _
    rw [e, merge_zip (fun k' hk p hp => ?_) (List.nodup_cons.mp nd).2 (by simpa using hl)]
    · simp
    · rcases List.mem_append.mp hp with hp | hp
      · exact h k' (List.mem_cons_of_mem _ hk) p hp
      · obtain rfl : p = (k, v) := by simpa using hp
        exact fun e => (List.nodup_cons.mp nd).1 (by have e' : k = k' := e; rw [e']; exact hk)
theorem RepKv.zip : ∀ {ks : List Ke} {ds : List D} {vs : List V}, RepDs K H α ds vs → ks.length = ds.length → RepKv K H α (ks.zip ds) (ks.zip vs)
  | [], _, _, _, _ => rfl
  | k :: ks, [], _, _, h => by cases h
  | k :: ks, d :: ds, vs, r, h => by
    rw [RepDs] at r
    obtain ⟨v, w, rfl, r1, r2⟩ := r
    exact ⟨v, ks.zip w, rfl, r1, RepKv.zip r2 (by simpa using h)⟩
theorem topKv_zip : ∀ {ks : List Ke} {ds : List D} {n : Nat}, D.tops ds ≤ n → topKv (ks.zip ds) ≤ n
  | [], _, n, _ => by simp [topKv]
  | k :: ks, [], n, _ => by simp [topKv]
  | k :: ks, d :: ds, n, h => by
    rw [D.tops] at h
    show max d.top (topKv (ks.zip ds)) ≤ n
    exact Nat.max_le.mpr ⟨by omega, topKv_zip (by omega)⟩
theorem px_dct0 {ms : Mo (List D)} (hm : ms = fun _ s => .ok [] s) : PE X (.Dict [] [] pos) (tE X.K E (dctM [] ms)) := by
  subst hm
  refine pe_dnewK.imp fun σ H Q ⟨α, s, σ', m, sl, o⟩ p hp => ?_
  have o' : OutG X.K E (rpV X.K) α s H Q (s.new (.dict [])) := o
  exact o' (ext α s.h.length p) (.ref p) _ (m.new hp (by simp [Ob.top, topKv]) ⟨[], rfl, rfl⟩) (Post.new m hp) ⟨by rw [RepD, ext_self], by simp [D.top]⟩
theorem px_dct {keys : List (Option Expr)} {values : List Expr} {l : List (Ke × Mo D)} (h : PPs X pos keys values (trsOf X.K E l)) (hall : keys.all (·.isSome) = true) (hl : keys.length = values.length) (h0 : keys ≠ []) (h15 : keys.length ≤ 15) :
    PE X (.Dict keys values pos) (tE X.K E (dctM (l.map (·.1)) (msOf l))) := by
  refine (pe_disp h hall hl h0 h15).imp fun σ H Q ⟨α, s, σ', m, sl, o⟩ p hp => ?_
  refine dct_pairs l (α0 := α) (s0 := s) (H0 := H) (Q := Q) (m.aside hp) ?_ (.aside hp) upd_same (fun i hi e => ?_) o fun α1 s1 H1 ds vs m1 p1 _ hH ni r t hl o1 => ⟨hH, (l.map (·.1)).zip vs, rfl, ?_⟩
  · exact sl.post m (.aside hp)
  · obtain ⟨u, hu, _⟩ := m.there hi
    rw [e, hp] at hu; cases hu
  · split at o1
    · rename_i hh
      obtain ⟨e1, e2, e3⟩ := hh
      have ev : (l.map (·.1)).length = vs.length := by rw [r.length]; exact e1
      refine ⟨by rw [List.length_zip]; omega, ?_⟩
      rw [merge_zip (fun _ _ _ hq => by cases hq) e3 ev, List.nil_append]
      have m2 := m1.bump (v := .dK ((l.map (·.1)).zip vs)) hH (fun h => h.elim) ni
      have r2 : RepDs X.K (upd H1 p (.dK ((l.map (·.1)).zip vs))) α1 ds vs := r.mono (n := D.tops ds) (Sim.kp hH fun h => h.elim) (fun _ _ => rfl) _ _ (Nat.le_refl _)
      exact o1 (ext α1 s1.h.length p) (.ref p) _ (m2.join upd_same ni (topKv_zip t) ⟨_, rfl, RepKv.zip r2 e1⟩) ((p1.upd hp).join hp) ⟨by rw [RepD, ext_self], by simp [D.top]⟩
    · exact o1.elim
end
end
end Dv
end

section
/-! Dv16 -/
/-! Dv16: from the program's text to the evaluator's. -/
namespace Dv
open PySem PySem.Spec PyProof.Rows
open L2 hiding It

structure G where
  N : List Str
  sc : Scope
  fn : Str → Bool
  glo : Str → Option Nat
  blt : Str → Bool
  cst : Str → Option Ke
def visB (sc : Scope) (x : Str) : Bool := match sc.names.lookup x with
  | some .local => true
  | some .cell => true
  | some .free => true
  | _ => false
def ownB (fn : Str → Bool) (sc : Scope) (x : Str) : Bool := match sc.names.lookup x with
  | some .local => true
  | some .cell => fn x
  | _ => false
def glbB (sc : Scope) (x : Str) : Bool := match sc.names.lookup x with
  | some .globalImplicit => true
  | _ => false
def locB (sc : Scope) (x : Str) : Bool := match sc.names.lookup x with
  | some .local => true
  | _ => false
def plainN (x : Str) : Bool := !(x == ("__debug__" : Str)) && !(x == ("__classdict__" : Str)) && !(x == ("__name__" : Str))
def G.ix (g : G) (x : Str) : Option Nat := match g.N.findIdx? (fun y => y == x) with
  | some i => if g.N[i]? = some x then some i else none
  | none => none
def G.loc (g : G) (x : Str) : Option Nat := if visB g.sc x && plainN x then g.ix x else none
def G.own (g : G) (x : Str) : Option Nat := if ownB g.fn g.sc x && plainN x then g.ix x else none
def G.blk (g : G) (scope : Scope) : G := { g with sc := relS scope g.sc, fn := fun x => scope.names.lookup x == some .cell }

def cCst : Const → Option D
  | .int i => some (.int i)
  | .bool b => some (.bl b)
  | .none => some .non
  | .str x => if x.length ≤ 16777216 then some (.str x) else none
  | _ => none
def cBO : Operator → Option BO
  | .Add => some .add | .Sub => some .sub | .Mult => some .mul | .Mod => some .mod | .FloorDiv => some .fdiv | .Pow => some .pow
  | _ => none
def cCO : CmpOp → CO
  | .Eq => .eq | .NotEq => .ne | .Lt => .lt | .LtE => .le | .Gt => .gt | .GtE => .ge | .In => .in_ | .NotIn => .nin | .Is => .is_ | .IsNot => .isn
def notStar : Expr → Bool
  | .Starred _ _ => false
  | _ => true
def notSlice : Expr → Bool
  | .Slice _ _ _ _ => false
  | _ => true
def notComp : Expr → Bool
  | .ListComp _ _ _ _ => false
  | .SetComp _ _ _ _ => false
  | .DictComp _ _ _ _ _ => false
  | _ => true
def notSet : Expr → Bool
  | .Set _ _ _ => false
  | _ => true
def noBase : Expr → Bool
  | .Call _ _ _ _ => false
  | _ => true
def isTup : Expr → Bool
  | .Tuple _ _ _ => true
  | _ => false
def isDisp : Expr → Bool
  | .Tuple _ _ _ => true
  | .List _ _ => true
  | _ => false
def C.noIt : C → Bool
  | .rng _ => false
  | .enum _ => false
  | _ => true
section
variable (r : Expr → Option C)
def cL : List Expr → Option (List C)
  | [] => some []
  | e :: es => match notStar e, r e, cL es with
    | true, some c, some cs => some (c :: cs)
    | _, _, _ => none
/-- tests: none or one -/
def cTs : List Expr → Option (List C)
  | [] => some []
  | [e] => match r e with
    | some c => some [c]
    | none => none
  | _ => none
def cO : Option Expr → Option C
  | none => some (.cst .non)
  | some e => match r e with
    | some c => some (.bnd c)
    | none => none
def cKs : List (Option Expr) → Option (List Ke)
  | [] => some []
  | some (.Constant (.int i) _ _) :: es => match cKs es with
    | some l => some (.inl i :: l)
    | none => none
  | some (.Constant (.str x) _ _) :: es => match cKs es with
    | some l => if x.length ≤ 16777216 then some (.inr x :: l) else none
    | none => none
  | _ => none
end
def Bi.nm : Bi → Str
  | .len => "len" | .sum => "sum" | .any => "any" | .all => "all" | .tuple => "tuple" | .list => "list" | .sorted => "sorted" | .repr => "repr" | .sset => "" | .inst _ => "" | .mm true => "max" | .mm false => "min" | .rev => "" | .rev0 => "" | .lset => "" | .mmd _ => "" | .mm2 _ => "" | .trange => ""
def cBi (x : Str) : Option Bi := [Bi.len, .sum, .any, .all, .tuple, .list, .sorted, .repr].find? fun b => b.nm == x
def Me.nm : Me → Str
  | .append => "append" | .extend => "extend" | .pop => "pop"
def cMe (x : Str) : Option Me := [Me.append, .extend, .pop].find? fun b => b.nm == x
/-- sorted(set(e)) -/
def cSset (g : G) (r : Expr → Option C) (x : Str) (args : List Expr) : Option C := match args with
  | [.Call (.Name y _) [e] [] _] => if x == ("sorted" : Str) && y == ("set" : Str) && glbB g.sc x && glbB g.sc y && g.blt x && g.blt y && notStar e then match r e with
      | some c => some (.bi .sset [c])
      | none => none
    else none
  | _ => none
def Ki.nm : Ki → Str
  | .int => "int" | .bool => "bool" | .str => "str" | .tuple => "tuple" | .list => "list"
def cKi (x : Str) : Option Ki := [Ki.int, .bool, .str, .tuple, .list].find? fun b => b.nm == x
/-- isinstance(e, T) -/
def cInst (g : G) (r : Expr → Option C) (x : Str) (args : List Expr) : Option C := match args with
  | [e, .Name y _] => if x == ("isinstance" : Str) && glbB g.sc x && glbB g.sc y && g.blt x && g.blt y && notStar e then match cKi y, r e with
      | some k, some c => some (.bi (.inst k) [c])
      | _, _ => none
    else none
  | _ => none
/-- len(set(e)) -/
def cLset (g : G) (r : Expr → Option C) (x : Str) (args : List Expr) : Option C := match args with
  | [.Call (.Name y _) [e] [] _] => if x == ("len" : Str) && y == ("set" : Str) && glbB g.sc x && glbB g.sc y && g.blt x && g.blt y && notStar e then match r e with
      | some c => some (.bi .lset [c])
      | none => none
    else none
  | _ => none
/-- min(a), min(a, b), max(a), max(a, b) -/
def cMm (g : G) (r : Expr → Option C) (x : Str) (args : List Expr) : Option C := if (x == ("min" : Str) || x == ("max" : Str)) && glbB g.sc x && g.blt x then match args with
  | [a] => match notStar a, r a with
    | true, some c => some (.bi (.mm (x == ("max" : Str))) [c])
    | _, _ => none
  | [a, b] => match notStar a, notStar b, r a, r b with
    | true, true, some c, some d => some (.bi (.mm2 (x == ("max" : Str))) [c, d])
    | _, _, _, _ => none
  | _ => none
  else none
/-- tuple(range(a, b)) -/
def cTrg (g : G) (r : Expr → Option C) (x : Str) (args : List Expr) : Option C := match args with
  | [.Call (.Name y _) as [] _] => if x == ("tuple" : Str) && y == ("range" : Str) && glbB g.sc x && glbB g.sc y && g.blt x && g.blt y then match as with
      | [a] => match notStar a, r a with
        | true, some c => some (.bi .trange [.cst (.int 0), c])
        | _, _ => none
      | [a, b] => match notStar a, notStar b, r a, r b with
        | true, true, some c, some d => some (.bi .trange [c, d])
        | _, _, _, _ => none
      | _ => none
    else none
  | _ => none
def orElse (a b : Option C) : Option C := match a with
  | some c => some c
  | none => b
def cCall (g : G) (r : Expr → Option C) (x : Str) (args : List Expr) : Option C := if glbB g.sc x && plainN x then match cL r args with
    | some cs => match g.glo x with
      | some k => some (.call k cs)
      | none => if g.blt x && !args.isEmpty then match cBi x with
        | some b => some (.bi b cs)
        | none => none
      else none
    | none => none
  else none
def Mr.nm : Mr → Str
  | .index => "index"
def cMr (x : Str) : Option Mr := [Mr.index].find? fun b => b.nm == x
/-- o.m(e), one argument -/
def cMet (r : Expr → Option C) (o : Expr) (m : Str) (args : List Expr) (apos cpos : Pos) : Option C := match args with
  | [e] => match cMr m, r o, r e with
    | some m, some o', some c => if noBase o && (apos.endLine == cpos.line) && notStar e then some (.met m o' [c]) else none
    | _, _, _ => none
  | _ => none
def cMeth (g : G) (r : Expr → Option C) (o : Expr) (m : Str) (args : List Expr) (apos cpos : Pos) : Option C := match cMe m, r o, cL r args with
  | some m, some o', some cs => if noBase o && (apos.endLine == cpos.line) && decide (args.length < 30) then some (.me m o' cs) else none
  | _, _, _ => none
/-! ### targets -/
def ixL (g : G) : List Expr → Option (List Nat)
  | [] => some []
  | .Name x _ :: es => match g.own x, ixL g es with
    | some i, some is => some (i :: is)
    | _, _ => none
  | _ => none
def cTg (g : G) : Expr → Option Tg
  | .Name x _ => (g.own x).map .nm
  | .Tuple es _ _ => (ixL g es).map .tp
  | _ => none
def tgNames : Expr → List Str
  | .Name x _ => [x]
  | .Tuple es _ _ => es.filterMap fun e => match e with
    | .Name x _ => some x
    | _ => none
  | _ => []
def ownOf (g : G) : List Str → Option (List (Str × Nat))
  | [] => some []
  | x :: xs => match g.ix x, ownOf g xs with
    | some i, some l => some ((x, i) :: l)
    | _, _ => none
def cBlk (g : G) (scope : Scope) (tg : Expr) : Option (Tg × List (Str × Nat)) := match ownOf g (tgNames tg), cTg (g.blk scope) tg with
  | some own, some t => if blkC g.N g.sc scope own && decide (own.map (·.2) = t.ixs) then some (t, own) else none
  | _, _ => none
/-- what is walked -/
def cIt (g : G) (r : Expr → Option C) (tg : Expr) (e : Expr) : Option C := match e with
  | .Call (.Name x _) args [] _ =>
    if x == ("range" : Str) then if glbB g.sc x && plainN x && g.blt x && (decide (args.length = 1) || decide (args.length = 2)) then match cL r args with
        | some cs => some (.rng cs)
        | none => none
      else none
    else if x == ("enumerate" : Str) then if glbB g.sc x && plainN x && g.blt x && isTup tg then match args with
        | [a] => if notStar a then match r a with
            | some c => some (.enum c)
            | none => none
          else none
        | _ => none
      else none
    else match r e with
      | some c => if c.noIt then some c else none
      | none => none
  | e => match r e with
    | some c => if c.noIt && notSet e then some c else none
    | none => none
def cE : Nat → G → Expr → Option C
  | 0, _, _ => none
  | n + 1, g, e => match e with
    | .Name x _ => match g.loc x with
      | some i => some (.loc i)
      | none => if glbB g.sc x && plainN x then match g.cst x with
        | some k => if keySz k = true then some (.cst (keyD k)) else none
        | none => none
        else none
    | .Constant v _ _ => match cCst v with
      | some d => some (.cst d)
      | none => none
    | .BinOp a o b _ => match cBO o, cE n g a, cE n g b with
      | some o', some a', some b' => some (.bin o' a' b')
      | _, _, _ => none
    | .UnaryOp .USub a _ => match cE n g a with
      | some a' => some (.neg a')
      | none => none
    | .UnaryOp .Not a _ => match cE n g a with
      | some a' => some (.not a')
      | none => none
    | .BoolOp .And es _ => match cL (cE n g) es with
      | some (c :: cs) => some (.and (c :: cs))
      | _ => none
    | .BoolOp .Or es _ => match cL (cE n g) es with
      | some (c :: cs) => some (.or (c :: cs))
      | _ => none
    | .IfExp c a b _ => match cE n g c, cE n g a, cE n g b with
      | some c', some a', some b' => some (.ife c' a' b')
      | _, _, _ => none
    | .Compare a [o] [b] _ => match cE n g a, cE n g b with
      | some a', some b' => if behindInMarks o b = false then some (.cmp (cCO o) a' b') else none
      | _, _ => none
    | .Compare a [o1, o2] [b, c] _ => match cE n g a, cE n g b, cE n g c with
      | some a', some b', some c' => if lastMarks [o1, o2] [b, c] = false then some (.chain (cCO o1) (cCO o2) a' b' c') else none
      | _, _, _ => none
    | .Subscript a (.Slice lo hi none _) _ => match cE n g a, cO (cE n g) lo, cO (cE n g) hi with
      | some a', some l, some h => some (.slc a' l h)
      | _, _, _ => none
    | .Subscript a (.Slice none none (some (.UnaryOp .USub (.Constant (.int 1) _ _) _)) _) _ => match cE n g a with
      | some a' => some (.bi .rev [a'])
      | none => none
    | .Subscript a (.Slice none (some (.Constant (.int 0) _ _)) (some (.UnaryOp .USub (.Constant (.int 1) _ _) _)) _) _ => match cE n g a with
      | some a' => some (.bi .rev0 [a'])
      | none => none
    | .Subscript a b _ => match cE n g a, cE n g b with
      | some a', some b' => if notSlice b then some (.ix a' b') else none
      | _, _ => none
    | .Tuple es _ _ => match cL (cE n g) es with
      | some cs => if es.length ≤ 1000 then some (.tup cs) else none
      | none => none
    | .List es _ => match cL (cE n g) es with
      | some cs => if es.length ≤ 1000 then some (.lst cs) else none
      | none => none
    | .Dict keys values _ => match cKs keys, cL (cE n g) values with
      | some ks, some cs => if keys.length = values.length ∧ keys.length ≤ 15 then some (.dct ks cs) else none
      | _, _ => none
    | .Call (.Name x _) args [] _ => orElse (cSset g (cE n g) x args) (orElse (cInst g (cE n g) x args) (orElse (cLset g (cE n g) x args) (orElse (cMm g (cE n g) x args) (orElse (cTrg g (cE n g) x args) (cCall g (cE n g) x args)))))
    | .Call (.Attribute o m apos) args [] cpos => match cMet (cE n g) o m args apos cpos with
      | some c => some c
      | none => cMeth g (cE n g) o m args apos cpos
    | .ListComp elt [⟨tg, it, ifs, k⟩] scope _ => match cBlk g scope tg, cIt g (cE n g) tg it, cTs (cE n (g.blk scope)) ifs, cE n (g.blk scope) elt with
      | some (t, _), some i, some cs, some c => if k = 0 ∧ notSet it = true then some (.lc c t i cs) else none
      | _, _, _, _ => none
    | .DictComp kx vx [⟨tg, it, ifs, k⟩] scope _ => match cBlk g scope tg, cIt g (cE n g) tg it, cTs (cE n (g.blk scope)) ifs, cE n (g.blk scope) kx, cE n (g.blk scope) vx with
      | some (t, _), some i, some cs, some c, some v => if k = 0 ∧ notSet it = true then some (.dc c v t i cs) else none
      | _, _, _, _, _ => none
    | _ => none
/-- name = comprehension: stored ahead of the block's end -/
def swB (sc : Scope) (value : Expr) (t : Str) (p : Pos) : Bool := match value with
  | .ListComp _ _ s q => locB sc t && (p.line == q.line) && !(s.names.any fun (n, k) => n == t && (k == .local || k == .cell))
  | .DictComp _ _ _ s q => locB sc t && (p.line == q.line) && !(s.names.any fun (n, k) => n == t && (k == .local || k == .cell))
  | _ => false
def locAll (g : G) (ts : List Expr) (l : Nat) : Bool := ts.all fun e => match e with
  | .Name x p => locB g.sc x && (p.line == l)
  | _ => false
def cSs (r : Stmt → Option T) : List Stmt → Option (List T)
  | [] => some []
  | s :: l => match r s, cSs r l with
    | some t, some ts => some (t :: ts)
    | _, _ => none
def cS : Nat → G → Stmt → Option T
  | 0, _, _ => none
  | n + 1, g, st => match st with
    | .Assign [.Name x p] e _ => match g.own x, cE n g e with
      | some i, some c => if swB g.sc e x p || notComp e || !(locB g.sc x) then some (.asg (.nm i) c) else none
      | _, _ => none
    | .Assign [.Tuple ts k p] e _ => match cTg g (.Tuple ts k p), cE n g e with
      | some t, some c => if !(isDisp e) then some (.asg t c) else match ts with
        | [.Name x px, .Name y py] => if locB g.sc x && locB g.sc y && (py.line == px.line) && !(x == y) then match e with
            | .Tuple [a, b] _ _ => if !(foldedForSure 8 a && foldedForSure 8 b) && (constantsAlone 8 a && constantsAlone 8 b) then none else some (.asg t c)
            | _ => none
          else if locB g.sc x && locB g.sc y then none else match e with
            | .Tuple [_, _] _ _ => some (.asg t c)
            | _ => none
        | [.Name x px, .Name y py, .Name z pz] => if locB g.sc x && locB g.sc y && locB g.sc z && (py.line == px.line) && (pz.line == px.line) && !(x == y) && !(x == z) && !(y == z) then match e with
            | .Tuple [a, b, d] _ _ => if !(foldedForSure 8 a && foldedForSure 8 b && foldedForSure 8 d) && (constantsAlone 8 a && constantsAlone 8 b && constantsAlone 8 d) then none else some (.asg t c)
            | _ => none
          else if locB g.sc x && locB g.sc y && locB g.sc z then none else match e with
            | .Tuple [_, _, _] _ _ => some (.asg t c)
            | _ => none
        | _ => none
      | _, _ => none
    | .Assign [.Subscript o i _] e _ => match cE n g e, cE n g o, cE n g i with
      | some c, some o', some i' => if notSlice i then some (.sub o' i' c) else none
      | _, _, _ => none
    | .Expr (.Constant (.str _) _ _) _ => some .pass
    | .Expr e _ => match cE n g e with
      | some c => if notComp e then some (.ex c) else none
      | none => none
    | .Return (some e) _ => match cE n g e with
      | some c => some (.ret c)
      | none => none
    | .Return none _ => some (.ret (.cst .non))
    | .If c a b _ => match cE n g c, cSs (cS n g) a, cSs (cS n g) b with
      | some c', some a', some b' => some (.ifs c' a' b')
      | _, _, _ => none
    | .For tg it b [] _ => match cTg g tg, cIt g (cE n g) tg it, cSs (cS n g) b with
      | some t, some i, some b' => if notSet it then some (.for_ t i b') else none
      | _, _, _ => none
    | .While c b [] _ => match cE n g c, cSs (cS n g) b with
      | some c', some b' => some (.whl c' b')
      | _, _ => none
    | .Pass _ => some .pass
    | .Break _ => some .brk
    | .Continue _ => some .cnt
    | _ => none
end Dv
end

section
/-! Dv17 -/
/-! Dv17: what is compiled is what the text does. -/
namespace Dv
open PySem PySem.Spec PyProof.Rows
open L2 hiding It

abbrev E0 : XK := fun _ _ _ => False
/-- a def of the text does what f does -/
def FnG (P : Program) (w : World) (K : PySem.W.Frag) (mg : Str → Option Value) (base : Heap) (k : Nat) (fa : Addr) (f : List D → S → R D) : Prop :=
  ∀ (A : Around) (outer : List Env) (st : Shared) (H : Hp) (us : List Value) (vs : List V) (Q : VK), Room k A → A.guards = some [] → Env0 P w K mg base A outer st H → Vals vs us → rCF K E0 f vs H Q →
    codeAny (model P w) A (.call (.ref fa) ⟨us, []⟩) (fun r s' => match r with
      | .ok (.ret u) => CE outer P w H st Q u s'
      | _ => False) st
theorem FnG.callR {X : Cx} {k : Nat} {fa : Addr} {f : List D → S → R D} (F : FnG X.prog X.w X.K X.mg X.base k fa f) (hr : Room k X.A) (hg : X.A.guards = some []) : CallR X (.ref fa) (rCF X.K E0 f) := by
  intro pn st σ H vs us Q I r h
  refine wpAny_call (codeAny_mono (F X.A X.stack st H us vs Q hr hg I.env0 r h) fun q s' hq => ?_)
  match q, hq with
  | .ok (.ret u), hq => exact I.after hq
/-- what is known where a piece of text stands -/
structure Ctx (X : Cx) (g : G) (f : CallT) : Prop where
  N : X.N = g.N
  sc : X.env.scope = g.sc
  kind : g.sc.kind = .function
  fn : X.fn = g.fn
  nd : g.N.Nodup
  calm : X.calm = true
  xe : X.xe = fun _ _ => False
  gd : X.A.guards = some []
  un : X.A.units + 200 < cLine
  call : ∀ x k, g.glo x = some k → ∃ a j, X.mg x = some (.ref a) ∧ PySem.W.keepIn X.K (.ref a) = true ∧ Room j X.A ∧ FnG X.prog X.w X.K X.mg X.base j a (f k)
  blt : ∀ x, g.blt x = true → X.mg x = none
  cst : ∀ x k, g.cst x = some k → ∃ u, X.mg x = some u ∧ RelV (kV k) u

section
variable {X : Cx} {g : G} {f : CallT} {x : Str} {i : Nat}
theorem G.ix_ok (h : g.ix x = some i) : g.N[i]? = some x := by
  unfold G.ix at h
  split at h
  · split at h
    · rename_i e
      cases h
      exact e
    · cases h
  · cases h
theorem plainN_ok (h : plainN x = true) : (x == ("__debug__" : Str)) = false ∧ (x == ("__classdict__" : Str)) = false ∧ x ≠ ("__name__" : Str) := by
  unfold plainN at h
  simp only [Bool.and_eq_true, Bool.not_eq_true'] at h
  exact ⟨h.1.1, h.1.2, fun e => by rw [e] at h; simp at h⟩
theorem loc_ok (C : Ctx X g f) (h : g.loc x = some i) : X.N[i]? = some x ∧ Vis X.env.scope x ∧ (x == ("__debug__" : Str)) = false ∧ (x == ("__classdict__" : Str)) = false := by
  unfold G.loc at h
  split at h
  · rename_i e
    rw [Bool.and_eq_true] at e
    obtain ⟨p1, p2, _⟩ := plainN_ok e.2
    refine ⟨by rw [C.N]; exact G.ix_ok h, ?_, p1, p2⟩
    rw [C.sc]
    have := e.1
    unfold visB at this
    unfold Vis
    split at this
    · exact .inl ‹_›
    · exact .inr (.inl ‹_›)
    · exact .inr (.inr ‹_›)
    · cases this
  · cases h
theorem own_ok (C : Ctx X g f) (h : g.own x = some i) : X.N[i]? = some x ∧ Loc X.env.scope x ∧ (X.fn x = true ∨ X.env.scope.names.lookup x = some .local) := by
  unfold G.own at h
  split at h
  · rename_i e
    rw [Bool.and_eq_true] at e
    refine ⟨by rw [C.N]; exact G.ix_ok h, ?_⟩
    rw [C.sc, C.fn]
    have := e.1
    unfold ownB at this
    unfold L2.Loc
    split at this
    · rename_i q; exact ⟨.inl q, .inr q⟩
    · rename_i q; exact ⟨.inr q, .inl this⟩
    · cases this
  · cases h
theorem glb_ok (C : Ctx X g f) (h : glbB g.sc x = true) : Gl X x := by
  unfold Gl Env.kindOf
  rw [C.sc]
  unfold glbB at h
  split at h
  · assumption
  · cases h
theorem locB_ok (C : Ctx X g f) (h : locB g.sc x = true) : X.env.scope.names.lookup x = some .local := by
  rw [C.sc]
  unfold locB at h
  split at h
  · assumption
  · cases h
/-- .. within a comprehension -/
theorem Ctx.blk (C : Ctx X g f) (scope : Scope) (hk : scope.kind = .function) (s : Shared) (H : Hp) (Ca : Addr) (cl : List (Str × Addr)) (fp : List Addr) : Ctx (X.blk s H scope (compEnvC scope cl Ca X.env) fp) (g.blk scope) f where
  N := C.N
  sc := by
    show relabel scope X.env = relS scope g.sc
    rw [← C.sc]
    rfl
  kind := hk
  fn := rfl
  nd := C.nd
  calm := C.calm
  xe := rfl
  gd := C.gd
  un := C.un
  call := C.call
  blt := C.blt
  cst := C.cst
/-! ### static facts -/
theorem star_ok {e : Expr} {es : List Expr} {env : Env} (h : notStar e = true) : starEach (e :: es) env = (false, eval e env) :: starEach es env := by
  cases e <;> first | rfl | cases h
theorem cBO_ok {o : Operator} {o' : BO} (h : cBO o = some o') : o'.op = o := by
  cases o <;> cases h <;> rfl
theorem cCO_ok (o : CmpOp) : (cCO o).op = o := by cases o <;> rfl
theorem slice_ok {b : Expr} (h : notSlice b = true) : PlainIx b := by
  cases b <;> first | (exact fun _ _ => rfl) | cases h
theorem base_ok {o : Expr} {m : Str} {env : Env} {w : Sem Value} (h : noBase o = true) : attributeBase o m env w = w := by
  cases o <;> first | rfl | cases h
theorem set_no {e : Expr} {env : Env} (h : notSet e = true) : ∀ x, foldedSetIterable e env x = pure x := by
  intro x
  cases e <;> first | rfl | cases h
theorem comp_no {e : Expr} {t : Option Expr} {l : Nat} {env : Env} (h : notComp e = true) : swapsWith e t l env = pure false := by
  cases e <;> first | rfl | cases h
theorem sw_other {e t : Expr} {l : Nat} {env : Env} (h : ∀ x p, t ≠ .Name x p) : swapsWith e (some t) l env = pure false := by
  cases t with
  | Name x p => exact absurd rfl (h x p)
  | _ => cases e <;> rfl
end
end Dv
end

section
/-! De2 -/
/-! De2: isinstance. -/
namespace Dv
open PySem PySem.Spec PyProof.Rows
open L2 hiding It

def Ki.id : Ki → String
  | .int => "int" | .bool => "bool" | .str => "str" | .tuple => "tuple" | .list => "list"
section
variable {K : PySem.W.Frag} {H : Hp} {α : Nat → Addr} {s : S}
theorem tup_ty {a : Addr} {vs : List V} (h : TupAt K H a vs) : TyX K H (.ref a) (.type "tuple") := by
  rcases h with ⟨o, h, _⟩ | ⟨o, its, n, h1, h2, h3⟩
  · exact .fTuple h
  · exact .kTuple h1 h2
theorem ty_of {d : D} {v : V} {j : Option Ki} {k : Ki} (m : Sim K α s H) (r : RepD K H α d v) (h : kindD d s = some j) : ∃ t : Value, TyX K H v t ∧ PySem.W.kitOne K t (.type k.id) = some (kiOf k j) := by
  cases d with
  | non => cases h; obtain rfl : v = .non := r; exact ⟨_, .base .non, kit_ty (by cases k <;> decide +kernel)⟩
  | bl b => cases h; obtain rfl : v = .bl b := r; exact ⟨_, .base (.bl b), kit_ty (by cases k <;> decide +kernel)⟩
  | int i => cases h; obtain rfl : v = .int i := r; exact ⟨_, .base (.int i), kit_ty (by cases k <;> decide +kernel)⟩
  | str x => cases h; obtain rfl : v = .str x := r.1; exact ⟨_, .base (.str x), kit_ty (by cases k <;> decide +kernel)⟩
  | tup xs =>
    cases h
    rw [RepD] at r
    obtain ⟨a, vs, rfl, ta, _⟩ := r
    exact ⟨_, tup_ty ta, kit_ty (by cases k <;> decide +kernel)⟩
  | ref i =>
    rw [RepD] at r
    subst r
    unfold kindD at h
    simp only at h
    split at h
    · rename_i xs e
      cases h
      obtain ⟨vs, hv, _⟩ := m.obj i _ e
      exact ⟨_, .base (.lst hv), kit_ty (by cases k <;> decide +kernel)⟩
    · rename_i kvs e
      cases h
      obtain ⟨ws, hv, _⟩ := m.obj i _ e
      exact ⟨_, .base (.dK hv), kit_ty (by cases k <;> decide +kernel)⟩
    · cases h
  | fn _ => cases h
  | ro _ => cases h
end
theorem px_glob {X : Cx} {E : XK} {x : Str} {k : Ke} {u : Value} {pos : Pos} (hg : Gl X x) (hm : X.mg x = some u) (r : RelV (kV k) u) (hz : keySz k = true) (hd : (x == ("__debug__" : Str)) = false) : PE X (.Name x pos) (tE X.K E fun _ s => .ok (keyD k) s) :=
  (pe_glob hg hm r hd).imp fun σ H Q ⟨α, s, σ', m, sl, o⟩ => by
    cases k with
    | inl i => exact o.now m ⟨rfl, top_int⟩
    | inr z => exact o.now m ⟨⟨rfl, by rw [sizeLine_eq]; exact of_decide_eq_true hz⟩, top_str⟩
end Dv
end

section
/-! De3 -/
/-! De3: x.index(y) of lists and tuples. -/
namespace Dv
open PySem PySem.Spec PyProof.Rows
open L2 hiding It

/-- the receiver's type, as it is met -/
def tyS (K : PySem.W.Frag) (T : String) (x : V) (H : Hp) : Prop := ∃ p, x = .ref p ∧ ((T = "list" ∧ ∃ xs, SqL K H p xs) ∨ (T = "tuple" ∧ ∃ xs, TupAt K H p xs))
section
variable {X : Cx} {pins : List (Addr × Obj)} {σ : L2.St} {H : Hp} {s : Shared}
theorem tyS_is {T : String} {x : V} {v : Value} (I : Inv X pins σ H s) (r : RelV x v) (ty : tyS X.K T x H) : s.TypeIs v T ∧ ∀ a, v = .ref a → ∃ ob, s.heap.get? a = some ob ∧ ob.dict = none := by
  obtain ⟨p, rfl, h | ⟨rfl, xs, h⟩⟩ := ty
  · exact tyV_is I r (.inl h)
  · cases r
    rcases h with ⟨o, h, hd⟩ | ⟨o, its, n, e, c, hd, _⟩
    · obtain ⟨e, _, _, _, o2, e2, c, _⟩ := (show ObjOk X.prog X.w H s.heap p (.frz o (.tup xs)) from I.hok p _ h)
      exact ⟨⟨o2, e2, c⟩, fun a q => by cases q; exact ⟨o, e, hd⟩⟩
    · exact tyV_is I (x := .ref p) (show RelV (.ref p) (.ref p) from rfl) (.inr (.inl ⟨rfl, o, e, c, hd⟩))
def rIndexU (K : PySem.W.Frag) : V → List V → Hp → VK → Prop := fun x xs H Q => ∃ (a : Addr) (y : V) (d : PyData) (ds : List PyData) (j : Nat) (z : PyData), x = V.ref a ∧ xs = [y] ∧ Dp K H (V.ref a) (.tuple ds) ∧ Dp K H y d ∧
  SeqAt.shaped (.list ds) = true ∧ SeqAt.shaped d = true ∧ ds[j]? = some z ∧ PyData.eqv z d = true ∧ (∀ (m : Nat) (z' : PyData), m < j → ds[m]? = some z' → PyData.eqv z' d = false) ∧ Q (.int (j : Nat)) H
theorem mt_indexT (hu : X.A.units + 65 < cLine) : MtR X "tuple.index" (rIndexU X.K) := by
  intro pn st σ H x xs v us Q I rx rxs ⟨a, y, d, ds, j, z, ex, exs, hl, hy, sl, sd, hz, hzj, hno, q⟩
  subst ex exs
  cases rx
  obtain ⟨uy, eu, ry⟩ := vals1 rxs
  subst eu
  obtain ⟨bs, r1⟩ := Dp.reads I d y uy hy ry
  have lay : PyData.canLayAll0 ds = true := SeqAt.canLay_of_shaped sl
  have room : X.A.units + 1 + min (PyData.depthAll ds) d.depth < cLine := room_in_shaped sd hu
  cases hl with
  | tup hs ha =>
    obtain ⟨its, rv, ⟨⟨oc, od, odata, osl⟩, ho, hc, n, hd⟩, hlen⟩ := I.tuple hs
    obtain rfl : oc = .type "tuple" := hc
    obtain rfl : odata = .seq its.toArray n := hd
    obtain ⟨as, rd⟩ := Dp.readsAll I ds _ its ha rv
    have eqs : its.map (SeqAt.readOf st.heap) = ds := SeqAt.readsAll_map ds its as lay rd
    have len : its.length = ds.length := by rw [← eqs, List.length_map]
    have get : ∀ (m : Nat) (hm : m < its.toArray.size), ds[m]? = some (SeqAt.readOf st.heap its.toArray[m]) := fun m hm => by
      have h2 : m < its.length := by simpa using hm
      rw [← eqs, List.getElem?_map, List.getElem?_eq_getElem h2]
      simp
    have hj : j < its.toArray.size := by
      have := (List.getElem?_eq_some_iff.mp hz).1
      simp only [List.size_toArray]
      omega
    refine call_meets PySem.F.slot_tuple_index ⟨_, ho, rfl⟩ PySem.F.entry_tuple_index (PySem.F.args_tuple_index_2 _ _) (TI.tuple_indexAt a its.toArray n od osl uy (fun u => PyData.eqv (SeqAt.readOf st.heap u) d) j hj ?_ fun m hm lt => hno m _ lt (get m hm))
      ⟨ho, SeqAt.items_eqAt (vs := its.toArray) (show ReadsAll st.heap its.toArray.toList ds as from rd) r1 lay (SeqAt.canLay_of_shaped sd) room, .int (j : Nat), H, I.tok _, ⟨_, rfl⟩, q⟩
    have := get j hj
    rw [hz] at this
    cases this
    exact hzj
end
section
variable {X : Cx} {o e : Expr} {to t : TE} {apos cpos : Pos}
def one1 (p : V → Prop) : List V → Prop
  | [y] => p y
  | _ => False
theorem one1_ok {p : V → Prop} {l : List V} (h : one1 p l) : ∃ y, l = [y] ∧ p y := by
  match l, h with
  | [y], h => exact ⟨y, rfl, h⟩
theorem pe_index (hu : X.A.units + 65 < cLine) (ho : PE X o to) (he : PE X e t) (hbase : attributeBase o "index" X.env (eval o X.env) = eval o X.env) (hs : starEach [e] X.env = [(false, eval e X.env)]) (hline : (apos.endLine == cpos.line) = true) :
    PE X (.Call (.Attribute o "index" apos) [e] [] cpos) (fun σ H Q => to σ H fun x H1 => ∃ T, tyS X.K T x H1 ∧ t σ H1 fun y H2 => (T = "list" → rIndexD X.K x [y] H2 Q) ∧ (T = "tuple" → rIndexU X.K x [y] H2 Q)) := by
  refine ⟨fun pn st σ H Q I h => ?_⟩
  have few : ((backTo cpos (starEach [e] X.env)).all (fun x => !x.1) && (backToKw cpos (keywordEach [] X.env)).all (fun x => x.1.isSome) && decide ([e].length + ([] : List Keyword).length + (if ([] : List Keyword).isEmpty then 0 else 1) < 30)) = true := by
    rw [hs]; rfl
  refine wpAny_Call_method_late hbase few hline rfl (thn (ho.run pn st σ H _ I h) fun v s1 ⟨x, H1, I1, r1, T, ty, q1⟩ => ?_)
  obtain ⟨h1, h2⟩ := tyS_is I1 r1 ty
  have args := (pa_cons he pa_nil hs).run cpos pn s1 σ H1 (fun vs H2 => one1 (fun y => (T = "list" → rIndexD X.K x [y] H2 Q) ∧ (T = "tuple" → rIndexU X.K x [y] H2 Q)) vs) I1 q1
  have run : ∀ {id : String}, MtR X id (fun x ys H2 Q => one1 (fun y => (T = "list" → rIndexD X.K x [y] H2 Q) ∧ (T = "tuple" → rIndexU X.K x [y] H2 Q)) ys) → wpAny (model X.prog X.w) X.A (callWith cpos (.builtin id) [v] (backTo cpos (starEach [e] X.env)) []) (EP X pn σ Q) X.xe s1 := fun {id} hm => by
    rw [hs] at args ⊢
    refine Calls.callWith_builtin (by rfl) (Calls.evalArgs_plain ?_)
    exact thn args fun us s2 ⟨vs, H2, I2, r2, q2⟩ => hm pn s2 σ H2 x vs v us Q I2 r1 r2 q2
  obtain ⟨p, rfl, ⟨rfl, xs, hx⟩ | ⟨rfl, xs, hx⟩⟩ := ty
  · exact ⟨"list", "list.index", F.plainAttrs_list, F.slot_list_index, F.type_list_index, h1, h2, run fun pn st σ H x xs v us Q I rx rxs h => by
    obtain ⟨y, rfl, q, _⟩ := one1_ok h
    exact mt_indexD hu pn st σ H x _ v us Q I rx rxs (q rfl)⟩
  · exact ⟨"tuple", "tuple.index", F.plainAttrs_tuple, F.slot_tuple_index, F.type_tuple_index, h1, h2, run fun pn st σ H x xs v us Q I rx rxs h => by
    obtain ⟨y, rfl, _, q⟩ := one1_ok h
    exact mt_indexT hu pn st σ H x _ v us Q I rx rxs (q rfl)⟩
theorem seq_ty {K : PySem.W.Frag} {α : Nat → Addr} {s : S} {H : Hp} {d : D} {v : V} (m : Sim K α s H) (r : RepD K H α d v) (h : (seqD d s).isSome = true) : ∃ T, tyS K T v H ∧ ((∃ xs, d = .tup xs ∧ T = "tuple") ∨ ∃ i, d = .ref i ∧ T = "list") := by
  unfold seqD at h
  split at h
  · rename_i xs
    rw [RepD] at r
    obtain ⟨a, vs, rfl, ta, _⟩ := r
    exact ⟨"tuple", ⟨a, rfl, .inr ⟨rfl, vs, ta⟩⟩, .inl ⟨xs, rfl, rfl⟩⟩
  · rename_i i
    rw [RepD] at r
    subst r
    split at h
    · rename_i xs e
      obtain ⟨vs, hv, _⟩ := m.obj _ _ e
      exact ⟨"list", ⟨_, rfl, .inl ⟨rfl, vs, SqL.of hv⟩⟩, .inr ⟨i, rfl, rfl⟩⟩
    · cases h
  · cases h
end
end Dv
end

section
/-! De4 -/
/-! De4: slices backwards, len(set(x)), min and max. -/
namespace Dv
open PySem PySem.Spec PyProof.Rows
open L2 hiding It

/-! ### t[::-1], t[:0:-1] -/
/-- the items behind, backwards -/
def rev0 {α : Type} (xs : List α) : List α := (xs.drop 1).reverse
theorem pick_back (xs : Array Value) : ∀ k, k ≤ xs.size → ((List.range k).filterMap fun (m : Nat) => xs[(((xs.size : Nat) : Int) - 1 + (m : Int) * (-1)).toNat]?) = xs.toList.reverse.take k
  | 0, _ => by simp
  | k + 1, h => by
    have e : (((xs.size : Nat) : Int) - 1 + (k : Int) * (-1)).toNat = xs.size - 1 - k := by omega
    have hk : xs.size - 1 - k < xs.size := by omega
    rw [List.range_succ, List.filterMap_append, pick_back xs k (by omega), List.take_add_one, List.getElem?_reverse (by rw [Array.length_toList]; omega), List.filterMap_cons, e, Array.getElem?_eq_getElem hk]
    simp [List.getElem?_eq_getElem hk]
theorem adjust_rev (n : Nat) : Builtin.Slice.sliceAdjust none none (-1) (n : Int) = (((n : Nat) : Int) - 1, -1) := by
  simp [Builtin.Slice.sliceAdjust]
theorem adjust_rev0 (n : Nat) : Builtin.Slice.sliceAdjust none (some 0) (-1) (n : Int) = (((n : Nat) : Int) - 1, min 0 (((n : Nat) : Int) - 1)) := by
  simp [Builtin.Slice.sliceAdjust]
theorem places_rev (n : Nat) : Builtin.Slice.slicePlaces (((n : Nat) : Int) - 1) (-1) (-1) = n := by
  unfold Builtin.Slice.slicePlaces
  rw [if_neg (by decide)]
  split
  · have : (-(-1) : Int) = 1 := by decide
    rw [this, Int.ediv_one]
    omega
  · omega
theorem places_rev0 (n : Nat) : Builtin.Slice.slicePlaces (((n : Nat) : Int) - 1) (min 0 (((n : Nat) : Int) - 1)) (-1) = n - 1 := by
  unfold Builtin.Slice.slicePlaces
  rw [if_neg (by decide)]
  split
  · have : (-(-1) : Int) = 1 := by decide
    rw [this, Int.ediv_one]
    omega
  · omega
section
variable {prog : Program} {w : World} {A : Around} {E : Value → Shared → Prop} {s : Shared}
theorem sliceApplied_back {sl : Addr} {vl vu vs : Value} {hi : Option Int} {n : Nat} {Q : Int × Int × Nat → Shared → Prop} (hs : s.heap.IsSliceOf sl vl vu vs) (pl : IsPart vl none) (pu : IsPart vu hi) (ps : IsPart vs (some (-1)))
    (h : Q ((Builtin.Slice.sliceAdjust none hi (-1) (n : Int)).1, -1, Builtin.Slice.slicePlaces (Builtin.Slice.sliceAdjust none hi (-1) (n : Int)).1 (Builtin.Slice.sliceAdjust none hi (-1) (n : Int)).2 (-1)) s) : wpAny (model prog w) A (Builtin.Slice.sliceApplied (.ref sl) (pure (n : Int))) Q E s := by
  obtain ⟨os, hos, hcs, hds⟩ := id hs
  unfold Builtin.Slice.sliceApplied Builtin.Slice.sliceFields
  refine wpAny_bind (wpAny_bind (wpAny_field hos hds (x := vl) rfl (wpAny_bind (wpAny_field hos hds (x := vu) rfl (wpAny_bind (wpAny_field hos hds (x := vs) rfl (wpAny_pure ?_)))))))
  refine wpAny_bind (HT.slicePart_ ps ?_)
  show wpAny _ _ (if ((-1 : Int) == 0) = true then _ else _) _ _ s
  rw [if_neg (by decide)]
  exact wpAny_bind (HT.slicePart_ pl (wpAny_bind (HT.slicePart_ pu (wpAny_bind (wpAny_pure (wpAny_pure h))))))
theorem getItem_tuple_back {t sl : Addr} {items : Array Value} {vl vu vs : Value} {hi : Option Int} {out : List Value} {Q : Value → Shared → Prop} (ht : IsTup s.heap t items) (hs : s.heap.IsSliceOf sl vl vu vs) (pl : IsPart vl none) (pu : IsPart vu hi) (ps : IsPart vs (some (-1)))
    (ho : ((List.range (Builtin.Slice.slicePlaces (Builtin.Slice.sliceAdjust none hi (-1) (items.size : Int)).1 (Builtin.Slice.sliceAdjust none hi (-1) (items.size : Int)).2 (-1))).filterMap fun (m : Nat) => items[((Builtin.Slice.sliceAdjust none hi (-1) (items.size : Int)).1 + (m : Int) * (-1)).toNat]?) = out)
    (hz : out.length ≤ sizeLine)
    (h : Q (.ref s.heap.objs.size) { s with heap := s.heap.push { cls := .type "tuple", data := .seq out.toArray } }) : wpAny (model prog w) A (getItem (.ref t) (.ref sl)) Q E s := by
  have htake : sizeOk (.seq out.toArray) := by
    show out.toArray.size ≤ sizeLine
    rw [List.size_toArray]
    exact hz
  obtain ⟨os, hos, hcs, hds⟩ := id hs
  have hTs : s.TypeIs (.ref sl) "slice" := ⟨os, hos, hcs⟩
  unfold getItem
  try with_reducible refine wpAny_holding ?_
  first | refine wpAny_bind (wpAny_pure ?_) | skip
  refine wpAny_bind (wpAny_sequenceKey ht.typeIs (by decide) ?_)
  refine wpAny_bind (wpAny_callSpecial?_slot (name := Str.ofString "__getitem__") ht.typeIs PyProof.Rows.slot_tuple_getitem
    (wpAny_call_entry PyProof.Rows.slot_tuple_getitem ht.typeIs entry_tuple_getitem ?_ (args_tuple_getitem _ _)))
  show wpAny _ _ (Builtin.Tuple.tupleItemsOf (.ref t) >>= _) _ _ s
  refine wpAny_bind (tupleItemsOf_ ht ?_)
  refine wpAny_bind (wpAny_typeOf hTs ?_)
  rw [if_pos (by decide)]
  refine wpAny_bind (sliceApplied_back hs pl pu ps ?_)
  generalize (Builtin.Slice.sliceAdjust none hi (-1) (items.size : Int)).1 = lo at *
  generalize Builtin.Slice.slicePlaces lo (Builtin.Slice.sliceAdjust none hi (-1) (items.size : Int)).2 (-1) = k at *
  have hno : ¬ ((lo == 0 && (-1 : Int) == 1 && k == items.size) = true) := by
    intro q
    rw [Bool.and_eq_true, Bool.and_eq_true] at q
    exact absurd q.1.2 (by decide)
  show wpAny _ _ (if (lo == 0 && (-1 : Int) == 1 && k == items.size) = true then _ else _) _ _ s
  rw [if_neg hno]
  try rw [ho]
  first
    | exact wpAny_bind (m := Builtin.Tuple.tupleExact _) (wpAny_newObj_type (wpAny_pure ⟨_, rfl, wpAny_pure h⟩) htake)
    | exact wpAny_bind (m := Builtin.Tuple.tupleExact _) (wpAny_newObj_type (wpAny_bind (wpAny_pure (wpAny_pure ⟨_, rfl, wpAny_pure h⟩))) htake)
    | exact wpAny_bind (wpAny_bind (m := Builtin.Tuple.tupleExact _) (wpAny_newObj_type (wpAny_pure (wpAny_pure ⟨_, rfl, wpAny_pure h⟩)) htake))
    | exact wpAny_bind (wpAny_bind (m := Builtin.Tuple.tupleExact _) (wpAny_newObj_type (wpAny_pure ⟨_, rfl, wpAny_pure h⟩) htake))
end
section
variable {X : Cx}
/-- a slice by -1 -/
def tBack (K : PySem.W.Frag) (f : List V → List V) (te : TE) : TE := fun σ H Q => te σ H fun x H1 => ∃ a xs, x = .ref a ∧ ((SqL K H1 a xs ∧ ∀ p, H1 p = none → Q (.ref p) (upd H1 p (.lst (f xs)))) ∨ (SqT K H1 a xs ∧ FrT Q (f xs) H1))
theorem pe_back {e : Expr} {te : TE} {k : Nat} {p1 p2 p3 pos : Pos} (he : PE X e te) : PE X (.Subscript e (.Slice none none (some (.UnaryOp .USub (.Constant (.int 1) k p1) p2)) p3) pos) (tBack X.K List.reverse te) := by
  refine ⟨fun pins s σ H Q I h => ?_⟩
  refine Subscript_ (thn (he.run pins s σ H _ I h) fun v s1 ⟨x, H1, I1, r1, q1⟩ => ?_)
  obtain ⟨a, xs, ex, q⟩ := q1
  subst ex
  cases r1
  have hst : PO X (some (.UnaryOp .USub (.Constant (.int 1) k p1) p2)) (tPart (tUn (rU fun i => .int (-i)) (tC (.int 1)))) := po_some (pe_un un_neg pe_int)
  refine wpAny_Slice (thn (po_none.run pins s1 σ H1 (fun o H2 => o = none ∧ H2 = H1) I1 ⟨rfl, rfl⟩) fun vl s2 ⟨l, H2, I2, pl, el, e2⟩ => ?_)
  subst el e2
  refine thn (po_none.run pins s2 σ H2 (fun o H3 => o = none ∧ H3 = H2) I2 ⟨rfl, rfl⟩) fun vu s3 ⟨u, H3, I3, pu, eu, e3⟩ => ?_
  subst eu e3
  refine thn (hst.run pins s3 σ H3 (fun o H4 => o = some (-1) ∧ H4 = H3) I3 ⟨1, rfl, -1, rfl, rfl, rfl⟩) fun vs s4 ⟨o, H4, I4, ps, eo, e4⟩ => ?_
  subst eo e4
  have I5 : Inv X pins σ H4 { s4 with heap := s4.heap.push { cls := .type "slice", data := .fields #[vl, vu, vs] } } := I4.kept (t' := s4.toks) fun b ob q => Heap.get?_push_of_some _ q
  show wpAny (model X.prog X.w) X.A (subscriptTail e (.Slice none none (some (.UnaryOp .USub (.Constant (.int 1) k p1) p2)) p3) (.ref a) (.ref s4.heap.objs.size)) (EP X pins σ Q) X.xe { s4 with heap := s4.heap.push { cls := .type "slice", data := .fields #[vl, vu, vs] } }
  rcases q with ⟨hx, q⟩ | ⟨hx, q⟩
  · obtain ⟨its, r, ht, hz⟩ := I5.list hx
    have hlen := r.length
    refine tail_any (ops := [.ref a, .ref s4.heap.objs.size]) ht.isList.typeIs (PySem.slot_list_getitem.lookup) ?_ (by with_unfolding_all rfl)
    refine wpAny_getItem_list_slice ht.isList (Heap.IsSliceOf.new _ vl vu vs) pl pu ps (by decide) ?_ (by rw [List.size_toArray]; omega)
    rw [PySem.W.krv_pick]
    refine ⟨.ref _, _, I5.laid (t' := s4.toks) (o := .lst xs.reverse) (fun b ob q => Heap.get?_push_of_some _ q) (Nat.le_refl _) ?_, rfl, q _ (I5.hok.fresh (Nat.le_refl _))⟩
    exact ⟨by rw [List.length_reverse]; exact hz, _, 0, r.reverse, Heap.get?_push_size _ rfl⟩
  · obtain ⟨its, r, ht, hz⟩ := I5.tuple hx
    have hlen := r.length
    refine tail_any (ops := [.ref a, .ref s4.heap.objs.size]) ht.typeIs (PyProof.Rows.slot_tuple_getitem.lookup) ?_ (by with_unfolding_all rfl)
    refine getItem_tuple_back (out := its.reverse) ht (Heap.IsSliceOf.new _ vl vu vs) pl pu ps ?_ (by rw [List.length_reverse, ← hlen]; exact hz) (push_tup I5 rfl rfl rfl rfl r.reverse (by rw [List.length_reverse]; exact hz) q)
    rw [adjust_rev, places_rev]
    have := pick_back its.toArray its.toArray.size (Nat.le_refl _)
    rw [this, List.take_of_length_le (by simp)]
theorem pe_back0 {e : Expr} {te : TE} {k k0 : Nat} {p0 p1 p2 p3 pos : Pos} (he : PE X e te) : PE X (.Subscript e (.Slice none (some (.Constant (.int 0) k0 p0)) (some (.UnaryOp .USub (.Constant (.int 1) k p1) p2)) p3) pos)
    (fun σ H Q => te σ H fun x H1 => ∃ a xs, x = .ref a ∧ SqT X.K H1 a xs ∧ FrT Q (rev0 xs) H1) := by
  refine ⟨fun pins s σ H Q I h => ?_⟩
  refine Subscript_ (thn (he.run pins s σ H _ I h) fun v s1 ⟨x, H1, I1, r1, q1⟩ => ?_)
  obtain ⟨a, xs, ex, hx, q⟩ := q1
  subst ex
  cases r1
  have hst : PO X (some (.UnaryOp .USub (.Constant (.int 1) k p1) p2)) (tPart (tUn (rU fun i => .int (-i)) (tC (.int 1)))) := po_some (pe_un un_neg pe_int)
  have hup : PO X (some (.Constant (.int 0) k0 p0)) (tPart (tC (.int 0))) := po_some pe_int
  refine wpAny_Slice (thn (po_none.run pins s1 σ H1 (fun o H2 => o = none ∧ H2 = H1) I1 ⟨rfl, rfl⟩) fun vl s2 ⟨l, H2, I2, pl, el, e2⟩ => ?_)
  subst el e2
  refine thn (hup.run pins s2 σ H2 (fun o H3 => o = some 0 ∧ H3 = H2) I2 ⟨0, rfl, rfl, rfl⟩) fun vu s3 ⟨u, H3, I3, pu, eu, e3⟩ => ?_
  subst eu e3
  refine thn (hst.run pins s3 σ H3 (fun o H4 => o = some (-1) ∧ H4 = H3) I3 ⟨1, rfl, -1, rfl, rfl, rfl⟩) fun vs s4 ⟨o, H4, I4, ps, eo, e4⟩ => ?_
  subst eo e4
  have I5 : Inv X pins σ H4 { s4 with heap := s4.heap.push { cls := .type "slice", data := .fields #[vl, vu, vs] } } := I4.kept (t' := s4.toks) fun b ob q => Heap.get?_push_of_some _ q
  show wpAny (model X.prog X.w) X.A (subscriptTail e (.Slice none (some (.Constant (.int 0) k0 p0)) (some (.UnaryOp .USub (.Constant (.int 1) k p1) p2)) p3) (.ref a) (.ref s4.heap.objs.size)) (EP X pins σ Q) X.xe { s4 with heap := s4.heap.push { cls := .type "slice", data := .fields #[vl, vu, vs] } }
  obtain ⟨its, r, ht, hz⟩ := I5.tuple hx
  have hlen := r.length
  have zl : (rev0 its).length ≤ its.length := by simp [rev0]
  refine tail_any (ops := [.ref a, .ref s4.heap.objs.size]) ht.typeIs (PyProof.Rows.slot_tuple_getitem.lookup) ?_ (by with_unfolding_all rfl)
  refine getItem_tuple_back (out := rev0 its) ht (Heap.IsSliceOf.new _ vl vu vs) pl pu ps ?_ (by omega) (push_tup I5 rfl rfl rfl rfl (r.drop 1).reverse (by simp [rev0]; omega) q)
  rw [adjust_rev0, places_rev0]
  have := pick_back its.toArray (its.toArray.size - 1) (Nat.sub_le _ _)
  rw [this]
  simp only [List.size_toArray, rev0]
  cases its with
  | nil => rfl
  | cons a l =>
    rw [List.take_reverse]
    congr 2
    simp
end
end Dv
end

section
/-! De5 -/
/-! De5: sets of a tuple, len(set(x)), min and max. -/
namespace Dv
open PySem PySem.Spec PyProof.Rows
open L2 hiding It

section
variable {P : Program} {w : World} {A : Around} {E : Value → Shared → Prop} {st : Shared}
set_option maxHeartbeats 3200000 in
theorem set_of_tuple {l : Addr} {items : Array Value} {ks : List Key} {Q : Value → Shared → Prop} (hh : A.handled = none) (hl : st.heap.IsTuple l items) (hit : Vals (ks.map kV) items.toList) (room : ks.length + 1 < scanBound)
    (h : ∀ (h' : Heap) (tk : Nat), SetM w h' st.heap.objs.size (met ks ks.length) → (∀ b o, st.heap.get? b = some o → h'.get? b = some o) → Q (.ref st.heap.objs.size) { st with heap := h', toks := tk }) :
    wpAny (model P w) A (call (.type "set") [.ref l]) Q E st := by
  have sz : ks.length = items.size := by have q := hit.length; rw [List.length_map, Array.length_toList] at q; exact q
  obtain ⟨c, tl, mro⟩ := F.called_set.mro
  have k1 := F.called_set.made; have k2 := F.called_set.sub
  refine wpAny_call (codeAny_of_tree ?_); show wpAny _ _ (callAny (.type "set") _) _ _ _
  refine wpAny_pure ⟨Code.quiet_builtin _ (by decide +kernel), codeAny_builtin F.entry_type_call ?_⟩; rw [Around.under_plain (weight_type_call_type "set" [.ref l] []) rfl]
  have k3 := F.called_set.notType; have k4 := F.called_set.canCreate; have k5 := F.typeCall_set_1 (.ref l)
  repeat (any_goals (first | assumption | wp_step))
  refine codeAny_mono (code_set_led1 (.ref l) (E := E) (Q₁ := fun obj s₁ => obj = .ref st.heap.objs.size ∧ s₁ = { st with heap := st.heap.push (freshSet w) }) ⟨rfl, rfl⟩) fun r s₁ hr => ?_
  cases r with
  | error e => exact hr
  | ok fl =>
    cases fl with
    | next => exact hr.elim
    | brk => exact hr.elim
    | cont => exact hr.elim
    | ret obj =>
      obtain ⟨rfl, rfl⟩ := hr
      have hS : (st.heap.push (freshSet w)).get? st.heap.objs.size = some (freshSet w) := Heap.get?_push_size _ rfl
      have hT : Shared.TypeIs { st with heap := st.heap.push (freshSet w) } (.ref st.heap.objs.size) "set" := ⟨_, hS, rfl⟩
      have k6 := F.called_set.init.lookup; have k7 := F.called_set.init.bind (.ref st.heap.objs.size)
      repeat (any_goals (first | assumption | wp_step))
      refine codeAny_mono (codeAny_call_builtin (R := wants (fun r s₂ => r = .none ∧ ∃ h' tk, s₂ = { st with heap := h', toks := tk } ∧ SetM w h' st.heap.objs.size (met ks ks.length) ∧ ∀ b o, st.heap.get? b = some o → h'.get? b = some o) E) F.called_set.init.plain F.entry_set_init (check_set_init_1 hT ?_)) fun r₂ s₂ hr₂ => ?_
      · obtain ⟨ol, hol, hcl, nl, hdl⟩ := hl
        obtain ⟨ocls, odict, odata, oslots⟩ := ol
        simp only at hcl hdl; subst hcl; subst hdl
        have hol' : (st.heap.push (freshSet w)).get? l = some { cls := .type "tuple", dict := odict, data := .seq items nl, slots := oslots } := Heap.get?_push_of_some _ hol
        have m1 := F.sub_tuple_set; have m2 := F.sub_tuple_frozenset
        have m3 : (Value.type "tuple" == Value.type "dict") = false := by decide
        have hl1 : (st.heap.push (freshSet w)).IsTuple l items := ⟨_, hol', rfl, nl, rfl⟩
        have big : l < st.heap.objs.size := Heap.lt_size hol
        have zp : (st.heap.push (freshSet w)).objs.size = st.heap.objs.size + 1 := Heap.size_push ..
        unfold Builtin.«set.__init__» noKeywords Builtin.Frozenset.updateFrom; generalize hPI : pyIter = PI; wp_walk; subst hPI
        refine wpAny_pyIter_tuple hl1 (wpAny_bind (wpAny_runValue ?_))
        have neI : l ≠ (st.heap.push (freshSet w)).objs.size := by rw [zp]; exact Nat.ne_of_lt (Nat.lt_succ_of_lt big)
        have nin : st.heap.objs.size ∉ [(st.heap.push (freshSet w)).objs.size, l] := fun z => by
          rcases List.mem_cons.mp z with e | e
          · rw [zp] at e; exact Nat.ne_of_lt (Nat.lt_succ_self _) e
          · exact Nat.ne_of_gt big (List.mem_singleton.mp e)
        have hin : A.in1.in1.in1.handled = none := by simp [hh]
        have val : ∀ (i : Nat) (v : Value), items[i]? = some v → ∃ k, ks[i]? = some k ∧ RelV (kV k) v := fun i v hv => by
          have e : items.toList[i]? = some v := by rw [Array.getElem?_toList]; exact hv
          have hi : i < ks.length := by rw [sz]; exact (Array.getElem?_eq_some_iff.mp hv).1
          obtain ⟨u, q1, q2⟩ := hit.get (i := i) (x := kV ks[i]) (by rw [List.getElem?_map, List.getElem?_eq_getElem hi]; rfl)
          rw [e] at q1; cases q1
          exact ⟨ks[i], List.getElem?_eq_getElem hi, q2⟩
        refine set_loop ((Walks.tuple hin _ l neI items).toS) st.heap.objs.size nin ks sz (by rw [← sz]; exact room) val items.size 0 _ (Nat.zero_add _) ⟨⟨_, Heap.get?_push_size _ rfl, rfl, rfl⟩, hl1.push _⟩ (setM_fresh (Heap.get?_push_of_some _ hS)) fun z mv m => ?_
        obtain ⟨h', g', d', tk', os'⟩ := z
        obtain rfl : g' = st.gens := mv.gens
        obtain rfl : d' = st.drawn := mv.drawn
        obtain rfl : os' = st.os := mv.os
        refine wpAny_pure (wpAny_pure ⟨rfl, h', tk', rfl, by rw [sz]; exact m, fun b o e => ?_⟩)
        have lt := Heap.lt_size e
        exact mv.heap b o (fun z => by
          rcases List.mem_cons.mp z with e | e
          · exact Nat.ne_of_lt lt e
          · rw [List.mem_singleton.mp e, zp] at lt
            exact Nat.lt_irrefl _ (Nat.lt_trans (Nat.lt_succ_self _) lt)) (Heap.get?_push_of_some _ (Heap.get?_push_of_some _ e))
      · cases r₂ with
        | error e => exact hr₂
        | ok fl₂ =>
          cases fl₂ with
          | ret r =>
            obtain ⟨rfl, h', tk, rfl, m, kp⟩ := hr₂
            repeat (any_goals (first | assumption | wp_step))
            exact h _ _ m kp
          | next => exact hr₂.elim
          | brk => exact hr₂.elim
          | cont => exact hr₂.elim
end
/-! ### set(x), len(set(x)) -/
section
variable {X : Cx}
def rSetN (K : PySem.W.Frag) (w : World) : List V → Hp → VK → Prop := fun vs H Q => ∃ (a : Addr) (ks : List Ke), vs = [.ref a] ∧ (SqL K H a (ks.map kV) ∨ SqT K H a (ks.map kV)) ∧ ks.length < 4000 ∧ ∀ p, H p = none → Q (.ref p) (upd H p (SetO w p (met ks ks.length)))
theorem set_ok2 (hc : X.calm = true) : CallR X (.type "set") (rSetN X.K X.w) := by
  intro pn st σ H vs us Q I r h
  obtain ⟨a, ks, rfl, hs, hz, q⟩ := h
  rw [Vals.ref1 r]
  have fin : ∀ (h' : Heap) (tk : Nat), SetM X.w h' st.heap.objs.size (met ks ks.length) → (∀ b o, st.heap.get? b = some o → h'.get? b = some o) → EP X pn σ Q (.ref st.heap.objs.size) { st with heap := h', toks := tk } := fun h' tk m kp =>
    ⟨.ref st.heap.objs.size, _, I.laid (t' := tk) kp (Nat.le_refl _) (setO_ok m), rfl, q _ (I.hok.fresh (Nat.le_refl _))⟩
  rcases hs with hs | hs
  · obtain ⟨its, rv, pl, _⟩ := I.list hs
    exact set_of_list (I.ok.hd hc) pl.isList (by simpa using rv) (by unfold scanBound; omega) fin
  · obtain ⟨its, rv, pl, _⟩ := I.tuple hs
    exact set_of_tuple (I.ok.hd hc) pl (by simpa using rv) (by unfold scanBound; omega) fin
def rLenM (w : World) : List V → Hp → VK → Prop := fun vs H Q => ∃ (p : Addr) (L : List Ke), vs = [.ref p] ∧ H p = some (SetO w p L) ∧ L.length < 4000 ∧ Q (.int L.length) H
theorem len_ok2 : CallR X (.builtin "len") (rLenM X.w) := by
  intro pn st σ H vs us Q I r h
  obtain ⟨p, L, rfl, hp, hz, q⟩ := h
  have R : SetM X.w st.heap p L := (I.hok p _ hp).1
  obtain ⟨o, es, ep, t, ho', hx, hd, g, pm, nd, hb, hf, hr, hl⟩ := R
  have len : es.size = L.length := by rw [← keysOf_length, pm.length_eq]
  rw [Vals.ref1 r]
  exact call_len_set ho' hx hd hf (by omega) ⟨.int L.length, H, I.tok _, ⟨_, by rw [len]⟩, q⟩
end
end Dv
end

section
/-! De6 -/
/-! De6: min, max, tuple(range(a, b)). -/
namespace Dv
open PySem PySem.Spec PyProof.Rows
open L2 hiding It

/-! ### flat data are what they say -/
theorem hpy_list {h : List Ob} : ∀ {n a : Nat} {p : PyData}, hpy h n a = some p → ∃ xs, p = .list xs
  | 0, a, p, e => by simp [hpy] at e
  | n + 1, a, p, e => by
    simp only [hpy] at e
    split at e
    · rename_i o _
      cases o with
      | list xs => simp only [Ob.py, Option.map_eq_some_iff] at e; obtain ⟨ys, _, rfl⟩ := e; exact ⟨_, rfl⟩
      | dict _ => cases e
      | set _ => cases e
    · cases e
mutual
theorem ofPy_eq {g : Nat → Option PyData} (hg : ∀ a p, g a = some p → ∃ xs, p = .list xs) : ∀ {d d' : D} {p : PyData}, D.py g d = some p → ofPy p = some d' → d = d'
  | .non, d', p, h, e => by simp only [D.py, Option.some.injEq] at h; subst h; simpa [ofPy] using e
  | .bl b, d', p, h, e => by simp only [D.py, Option.some.injEq] at h; subst h; simpa [ofPy] using e
  | .int b, d', p, h, e => by simp only [D.py, Option.some.injEq] at h; subst h; simpa [ofPy] using e
  | .str b, d', p, h, e => by simp only [D.py, Option.some.injEq] at h; subst h; simpa [ofPy] using e
  | .tup xs, d', p, h, e => by
    simp only [D.py, Option.map_eq_some_iff] at h
    obtain ⟨ps, h, rfl⟩ := h
    simp only [ofPy, Option.map_eq_some_iff] at e
    obtain ⟨ds, e, rfl⟩ := e
    rw [ofPys_eq hg h e]
  | .ref a, d', p, h, e => by
    rw [D.py] at h
    obtain ⟨xs, rfl⟩ := hg a p h
    simp [ofPy] at e
  | .fn _, d', p, h, e => by simp [D.py] at h
  | .ro _, d', p, h, e => by simp [D.py] at h
theorem ofPys_eq {g : Nat → Option PyData} (hg : ∀ a p, g a = some p → ∃ xs, p = .list xs) : ∀ {ds ds' : List D} {ps : List PyData}, D.pys g ds = some ps → ofPy.ofPys ps = some ds' → ds = ds'
  | [], ds', ps, h, e => by simp only [D.pys, Option.some.injEq] at h; subst h; simpa [ofPy.ofPys] using e
  | d :: ds, ds', ps, h, e => by
    simp only [D.pys] at h
    split at h
    · rename_i a b h1 h2
      cases h
      simp only [ofPy.ofPys] at e
      split at e
      · rename_i x y e1 e2
        cases e
        rw [ofPy_eq hg h1 e1, ofPys_eq hg h2 e2]
      · cases e
    · cases h
end
mutual
theorem ofPy_top : ∀ {p : PyData} {d : D}, ofPy p = some d → d.top ≤ 0
  | .none, d, e => by simp [ofPy] at e; subst e; simp [D.top]
  | .bool b, d, e => by simp [ofPy] at e; subst e; simp [D.top]
  | .int b, d, e => by simp [ofPy] at e; subst e; simp [D.top]
  | .str b, d, e => by simp [ofPy] at e; subst e; simp [D.top]
  | .tuple xs, d, e => by
    simp only [ofPy, Option.map_eq_some_iff] at e
    obtain ⟨ds, e, rfl⟩ := e
    rw [D.top]
    exact ofPys_top e
  | .list _, d, e => by simp [ofPy] at e
  | .dict _, d, e => by simp [ofPy] at e
theorem ofPys_top : ∀ {ps : List PyData} {ds : List D}, ofPy.ofPys ps = some ds → D.tops ds ≤ 0
  | [], ds, e => by simp [ofPy.ofPys] at e; subst e; simp [D.tops]
  | p :: ps, ds, e => by
    simp only [ofPy.ofPys] at e
    split at e
    · rename_i a b h1 h2
      cases e
      rw [D.tops]
      exact Nat.max_le.mpr ⟨ofPy_top h1, ofPys_top h2⟩
    · cases e
end
theorem pys_get {g : Nat → Option PyData} : ∀ {ds : List D} {ps : List PyData} {i : Nat} {d : D}, D.pys g ds = some ps → ds[i]? = some d → ∃ p, ps[i]? = some p ∧ D.py g d = some p
  | [], ps, i, d, h, e => by simp at e
  | x :: ds, ps, i, d, h, e => by
    simp only [D.pys] at h
    split at h
    · rename_i a b h1 h2
      cases h
      cases i with
      | zero => cases e; exact ⟨a, rfl, h1⟩
      | succ i => exact pys_get (i := i) h2 (by simpa using e)
    · cases h
theorem reads_all_get {h : Heap} : ∀ {us : List Value} {ps : List PyData} {as : List Addr} {i : Nat} {u : Value}, ReadsAll h us ps as → us[i]? = some u → ∃ p bs, ps[i]? = some p ∧ Reads h u p bs
  | [], ps, as, i, u, r, e => by simp at e
  | v :: us, _, _, i, u, .cons a b, e => by
    cases i with
    | zero => cases e; exact ⟨_, _, rfl, a⟩
    | succ i => exact reads_all_get (i := i) b (by simpa using e)
theorem best_mem {mx : Bool} {p : PyData} {ps : List PyData} : (if mx then PySem.W.maxD p ps else PySem.W.minD p ps) ∈ p :: ps := by
  have key : ∀ (f : PyData → PyData → Bool) (ps : List PyData) (p : PyData), ps.foldl (fun a y => if f a y = true then y else a) p ∈ p :: ps := by
    intro f ps
    induction ps with
    | nil => intro p; simp
    | cons y ps ih =>
      intro p
      rw [List.foldl_cons]
      have := ih (if f p y = true then y else p)
      rcases List.mem_cons.mp this with e | h
      · rw [e]
        split <;> simp
      · exact List.mem_cons_of_mem _ (List.mem_cons_of_mem _ h)
  cases mx with
  | true => exact key (fun a y => PySem.W.dataLt a y) ps p
  | false => exact key (fun a y => PySem.W.dataLt y a) ps p
theorem alike_of {ps : List PyData} (h : sortable ps = true) : PySem.W.AlikeAll ps := by
  obtain ⟨h1, h2, _⟩ := sortable_iff h
  refine ⟨fun x hx y hy => h1 x hx y hy, fun x hx e => ?_⟩
  subst e
  unfold sortable at h
  simp only [Bool.and_eq_true, Bool.or_eq_true, List.all_eq_true] at h
  rcases h.1.2 with h | h
  · have := h _ hx; simp at this
  · have := h _ hx; simp at this
theorem depth_of {ps : List PyData} (h : sortable ps = true) : PyData.depthAll ps ≤ 64 := by
  have h3 := (sortable_iff h).2.2
  clear h
  induction ps with
  | nil => simp [PyData.depthAll]
  | cons p ps ih =>
    rw [PyData.depthAll]
    exact Nat.max_le.mpr ⟨h3 p List.mem_cons_self, ih fun q hq => h3 q (List.mem_cons_of_mem _ hq)⟩
section
variable {X : Cx} {E : XK} {pins : List (Addr × Obj)} {σ : L2.St} {H : Hp} {st : Shared} {α : Nat → Addr} {s : S}
/-- the items of a list or a tuple, as they lie -/
theorem seq_lies (I : L2.Inv X pins σ H st) (m : Sim X.K α s H) {d : D} {v : V} {u : Value} {xs : List D} (r : RepD X.K H α d v) (ru : RelV v u) (h : seqD d s = some xs) :
    ∃ (a : Addr) (vs : List V) (us : List Value), u = .ref a ∧ RepDs X.K H α xs vs ∧ Vals vs us ∧ us.length ≤ sizeLine ∧ (st.heap.IsList a us.toArray ∨ st.heap.IsTuple a us.toArray) ∧ (∀ n, d.top ≤ n → xs = [] ∨ True) := by
  unfold seqD at h
  split at h
  · cases h
    rw [RepD] at r
    obtain ⟨a, vs, rfl, ta, rr⟩ := r
    cases ru
    obtain ⟨its, rv, pl, hz⟩ := I.tuple ta.sq
    exact ⟨a, vs, its, rfl, rr, rv, by rw [← rv.length]; exact hz, .inr pl, fun _ _ => .inr trivial⟩
  · rw [RepD] at r
    subst r
    split at h
    · rename_i ys e
      cases h
      obtain ⟨vs, hv, rr⟩ := m.list e
      cases ru
      obtain ⟨its, rv, pl, hz⟩ := I.list (SqL.of hv)
      exact ⟨_, vs, its, rfl, rr, rv, by rw [← rv.length]; exact hz, .inl pl.isList, fun _ _ => .inr trivial⟩
    · cases h
  · cases h
theorem best_val (I : L2.Inv X pins σ H st) (m : Sim X.K α s H) {xs : List D} {vs : List V} {us : List Value} {ps : List PyData} {d : D} {p : PyData} (rr : RepDs X.K H α xs vs) (rv : Vals vs us) (hp : s.pys xs = some ps) (hs : sortable ps = true) (hd : ofPy p = some d)
    {i : Nat} {u : Value} {h' : Heap} {bs : List Addr} (hi : us[i]? = some u) (hr : Reads h' u p bs) (hk : ∀ b o, st.heap.get? b = some o → h'.get? b = some o) (pm : p ∈ ps) : ∃ v, RelV v u ∧ RepD X.K H α d v ∧ d.top ≤ 0 := by
  obtain ⟨as, ra⟩ := Dp.readsAll I ps vs us (m.dps rr hp) rv
  obtain ⟨q, bs', hq, rq⟩ := reads_all_get ra hi
  have lay : ∀ z ∈ ps, z.canLay0 = true := fun z hz => by
    unfold sortable at hs
    simp only [Bool.and_eq_true, List.all_eq_true] at hs
    exact SeqAt.canLay_of_shaped (hs.2 z hz)
  have e : q = p := by
    have h1 := SeqAt.readOf_eq (lay q (List.mem_of_getElem? hq)) (PyProof.Rows.Reads.keeps hk rq)
    have h2 := SeqAt.readOf_eq (lay p pm) hr
    rw [← h1, h2]
  subst e
  have len : vs.length = xs.length := rr.length
  have hiv : i < vs.length := by
    rw [rv.length]
    exact (List.getElem?_eq_some_iff.mp hi).1
  obtain ⟨u', hu', ru⟩ := rv.get (i := i) (x := vs[i]) (List.getElem?_eq_getElem hiv)
  rw [hi] at hu'
  cases hu'
  have hix : i < xs.length := by omega
  obtain ⟨v', hv', rx⟩ := rr.get (i := i) (d := xs[i]) (List.getElem?_eq_getElem hix)
  rw [List.getElem?_eq_getElem hiv] at hv'
  cases hv'
  obtain ⟨p', hp', e2⟩ := pys_get hp (List.getElem?_eq_getElem hix)
  rw [hq] at hp'
  cases hp'
  have := ofPy_eq (fun a p h => hpy_list h) e2 hd
  rw [this] at rx
  exact ⟨_, ru, rx, ofPy_top hd⟩
variable (hc : X.calm = true) (hu : X.A.units + 150 < cLine)
include hc hu
theorem mm_ok (mx : Bool) : CallR X (.builtin (if mx then "max" else "min")) (rCF X.K E (mmF mx)) := by
  intro pn st σ H vs us Q I ru h
  obtain ⟨α, s, ds, m, rs, ts, out⟩ := h
  unfold mmF at out
  split at out
  · rename_i d
    obtain ⟨v, rfl, r⟩ := reps_one rs
    obtain ⟨u, rfl, ru1⟩ := vals1 ru
    split at out
    · rename_i xs hx
      split at out
      · rename_i ps hp
        unfold best at out
        split at out
        · exact out.elim
        · rename_i p qs
          split at out
          · rename_i hs
            cases hd : ofPy (if mx then PySem.W.maxD p qs else PySem.W.minD p qs) with
            | none => rw [hd] at out; exact out.elim
            | some b =>
              rw [hd] at out
              obtain ⟨a, ws, its, rfl, rr, rv, hz, li, _⟩ := seq_lies I m r ru1 hx
              obtain ⟨as, ra⟩ := Dp.readsAll I _ ws its (m.dps rr hp) rv
              have un : X.A.units + 1 + PyData.depthAll (p :: qs) < cLine := by have := depth_of hs; omega
              have fin : ∀ (i : Nat) (v : Value) (h' : Heap) (tk : Nat) (bs : List Addr), its.toArray[i]? = some v → Reads h' v (if mx then PySem.W.maxD p qs else PySem.W.minD p qs) bs → (∀ b o, st.heap.get? b = some o → h'.get? b = some o) → EP X pn σ Q v { st with heap := h', toks := tk } := fun i v h' tk bs hv hr hk => by
                obtain ⟨w, rw', rd, tp⟩ := best_val I m rr rv hp hs hd (i := i) (by simpa using hv) hr hk best_mem
                exact ⟨w, H, I.kept hk, rw', out.here m rd (Nat.le_trans tp (Nat.zero_le _))⟩
              cases mx with
              | false => rcases li with li | li
                         · exact PySem.W.min_list_data (I.ok.hd hc) li (by simpa using ra) (alike_of hs) un fin
                         · exact PySem.W.min_tuple_data (I.ok.hd hc) li (by simpa using ra) (alike_of hs) un fin
              | true => rcases li with li | li
                        · exact PySem.W.max_list_data (I.ok.hd hc) li (by simpa using ra) (alike_of hs) un fin
                        · exact PySem.W.max_tuple_data (I.ok.hd hc) li (by simpa using ra) (alike_of hs) un fin
          · exact out.elim
      · exact out.elim
    · exact out.elim
  · exact out.elim
omit hu in
theorem mm2_ok (mx : Bool) : CallR X (.builtin (if mx then "max" else "min")) (rCF X.K E (mm2F mx)) := by
  intro pn st σ H vs us Q I ru h
  obtain ⟨α, s, ds, m, rs, ts, out⟩ := h
  unfold mm2F at out
  split at out
  · rename_i i j
    rw [RepDs] at rs
    obtain ⟨v, w, rfl, r1, r2⟩ := rs
    rw [RepDs] at r2
    obtain ⟨v2, w2, rfl, r2, r3⟩ := r2
    cases r3
    simp only [RepD] at r1 r2
    subst r1 r2
    cases mx with
    | false => exact call_min2 hc pn st σ H _ us Q I ru ⟨i, j, rfl, out.here m rfl top_int⟩
    | true => exact call_max2 hc pn st σ H _ us Q I ru ⟨i, j, rfl, out.here m rfl top_int⟩
  · exact out.elim
end
/-! ### tuple(range(a, b)) -/
section
variable {X : Cx} {e : Expr} {te : L2.St → Hp → (Int → Int → Hp → Prop) → Prop}
theorem pe_tupRgF {p pos : Pos} (hc : X.calm = true) (hg : Gl X "tuple") (hm : X.mg "tuple" = none) (he : PRg X e te) (na : starEach [e] X.env = (false, eval e X.env) :: starEach [] X.env := by rfl) :
    PE X (.Call (.Name "tuple" p) [e] [] pos) (fun σ H Q => te σ H fun a b H1 => RgOk a b ∧ FrT Q (rgV a b) H1) := by
  refine ⟨fun pins s σ H Q I h => ?_⟩
  refine Call_ (ld_blt I hg hm boot_tuple (PyProof.Rows.callWith_type1 (args_cons (thn (he pins s σ H _ I h) fun x s1 ⟨r, a, b, t, u, v, H1, ex, hr, I1, ok, q⟩ => args_nil ?_) na) na))
  subst ex
  obtain ⟨b1, b2, b3, b4, b5⟩ := ok
  refine call_tuple_range (n := (b - a).toNat) (I1.ok.hd hc) hr (small_one b1 b2 b3 b4) (rangeSize_nat a b) b5 fun h' tk acc hk hi => ?_
  have I2 : Inv X pins σ H1 { s1 with heap := h', toks := tk } := I1.kept hk
  have := push_tup (o := { cls := .type "tuple", data := .seq acc }) (its := acc.toList) (n := 0) (t := tk) I2 rfl (by simp) rfl rfl (vals_rg hi) (by rw [rgV_length, sizeLine_eq]; omega) q
  exact this
end
end Dv
end

section
/-! Dv18 -/
/-! Dv18: the expressions. -/
namespace Dv
open PySem PySem.Spec PyProof.Rows
open L2 hiding It

theorem evEs_len {f : CallT} {w : Nat} : ∀ {cs : List C} {σ : Sl} {s s' : S} {ds : List D}, evEs f w cs σ s = .ok ds s' → ds.length = cs.length
  | [], σ, s, s', ds, h => by simp only [evEs] at h; cases h; rfl
  | c :: cs, σ, s, s', ds, h => by
    simp only [evEs] at h
    cases e1 : evE f w c σ s with
    | ok d s1 =>
      rw [e1] at h
      simp only [R.bind_ok] at h
      cases e2 : evEs f w cs σ s1 with
      | ok ds2 s2 =>
        rw [e2] at h
        simp only [R.bind_ok] at h
        cases h
        simp [evEs_len e2]
      | exc _ _ => rw [e2] at h; cases h
      | bad => rw [e2] at h; cases h
    | exc _ _ => rw [e1] at h; cases h
    | bad => rw [e1] at h; cases h
theorem star_any {env : Env} {pos : Pos} : ∀ {es : List Expr}, es.all notStar = true → (backTo pos (starEach es env)).any (·.1) = false
  | [], _ => rfl
  | e :: es, h => by
    rw [List.all_cons, Bool.and_eq_true] at h
    rw [star_ok h.1]
    have := star_any (env := env) (pos := pos) h.2
    unfold backTo at this ⊢
    simpa using this
theorem star_few {env : Env} {pos : Pos} : ∀ {es : List Expr}, es.all notStar = true → (backTo pos (starEach es env)).all (fun x => !x.1) = true
  | [], _ => rfl
  | e :: es, h => by
    rw [List.all_cons, Bool.and_eq_true] at h
    rw [star_ok h.1]
    have := star_few (env := env) (pos := pos) h.2
    unfold backTo at this ⊢
    simpa using this
section
variable {X : Cx} {g : G} {f : CallT} {w : Nat} {x : Str} {i : Nat} {pos : Pos} {r : Expr → Option C}
def Good (X : Cx) (f : CallT) (w : Nat) (r : Expr → Option C) : Prop := ∀ e c, r e = some c → PE X e (tE X.K E0 (evE f w c)) ∧ PT X e (tT X.K E0 (tst (evE f w c)))
theorem ev_nil : evEs f w [] = fun (_ : Sl) (s : S) => R.ok ([] : List D) s := by funext σ s; simp only [evEs]
theorem ev_cons (c : C) (cs : List C) : evEs f w (c :: cs) = fun σ s => (evE f w c σ s).bind fun x s => (evEs f w cs σ s).bind fun xs s => .ok (x :: xs) s := by funext σ s; simp only [evEs]
theorem cL_ok (ih : Good X f w r) : ∀ {es : List Expr} {cs : List C}, cL r es = some cs → PA X es (tA X.K E0 (evEs f w cs)) ∧ cs.length = es.length ∧ es.all notStar = true
  | [], cs, h => by cases h; exact ⟨by rw [ev_nil]; exact px_nil, rfl, rfl⟩
  | e :: es, cs, h => by
    unfold cL at h
    split at h
    · rename_i c cs' h1 h2 h3
      cases h
      obtain ⟨p1, p2, p3⟩ := cL_ok ih h3
      exact ⟨by rw [ev_cons]; exact px_cons (ih e c h2).1 p1 (star_ok h1), by simp [p2], by rw [List.all_cons, h1, p3]; rfl⟩
    · cases h
/-! ### and, or -/
theorem ev_and (c d : C) (cs : List C) : evAnd f w (c :: d :: cs) = andM (evE f w c) (evAnd f w (d :: cs)) := by
  funext σ s
  simp only [evAnd, andM]
  all_goals congr 1
theorem ev_or (c d : C) (cs : List C) : evOr f w (c :: d :: cs) = orM (evE f w c) (evOr f w (d :: cs)) := by
  funext σ s
  simp only [evOr, orM]
  all_goals congr 1
theorem ev_and1 (c : C) : evAnd f w [c] = evE f w c := by funext σ s; simp only [evAnd]
theorem ev_or1 (c : C) : evOr f w [c] = evE f w c := by funext σ s; simp only [evOr]
theorem cAnd_ok (ih : Good X f w r) : ∀ {es : List Expr} {c : C} {cs : List C}, cL r es = some (c :: cs) → PE X (.BoolOp .And es pos) (tE X.K E0 (evAnd f w (c :: cs))) ∧ PW X (.BoolOp .And es pos) (tT X.K E0 (tst (evAnd f w (c :: cs))))
  | [], _, _, h => by cases h
  | [e], c, cs, h => by
    unfold cL at h
    split at h
    · rename_i c' cs' h1 h2 h3
      cases h
      cases h3
      rw [ev_and1]
      exact ⟨pe_one (ih e _ h2).1, pw_and1 (ih e _ h2).2⟩
    · cases h
  | e :: e2 :: es, c, cs, h => by
    unfold cL at h
    split at h
    · rename_i c' cs' h1 h2 h3
      cases h
      match cs, h3 with
      | [], h3 => exact absurd (cL_ok ih h3).2.1 (by simp)
      | d :: cs, h3 =>
        have q := cAnd_ok (es := e2 :: es) ih h3
        rw [ev_and]
        exact ⟨px_and (ih e _ h2).1 q.1, px_andW (ih e _ h2).2 q.2⟩
    · cases h
theorem cOr_ok (ih : Good X f w r) : ∀ {es : List Expr} {c : C} {cs : List C}, cL r es = some (c :: cs) → PE X (.BoolOp .Or es pos) (tE X.K E0 (evOr f w (c :: cs))) ∧ PW X (.BoolOp .Or es pos) (tT X.K E0 (tst (evOr f w (c :: cs))))
  | [], _, _, h => by cases h
  | [e], c, cs, h => by
    unfold cL at h
    split at h
    · rename_i c' cs' h1 h2 h3
      cases h
      cases h3
      rw [ev_or1]
      exact ⟨pe_one (ih e _ h2).1, pw_or1 (ih e _ h2).2⟩
    · cases h
  | e :: e2 :: es, c, cs, h => by
    unfold cL at h
    split at h
    · rename_i c' cs' h1 h2 h3
      cases h
      match cs, h3 with
      | [], h3 => exact absurd (cL_ok ih h3).2.1 (by simp)
      | d :: cs, h3 =>
        have q := cOr_ok (es := e2 :: es) ih h3
        rw [ev_or]
        exact ⟨px_or (ih e _ h2).1 q.1, px_orW (ih e _ h2).2 q.2⟩
    · cases h
/-! ### calls -/
def Bi.odd : Bi → Bool
  | .len => false
  | .sum => false
  | .any => false
  | .all => false
  | .tuple => false
  | .list => false
  | .sorted => false
  | .repr => false
  | _ => true
theorem cBi_ok {b : Bi} (h : cBi x = some b) : x = b.nm ∧ b.odd = false := by
  have := List.find?_some h
  refine ⟨(beq_iff_eq.mp this).symm, ?_⟩
  have := List.mem_of_find?_eq_some h
  simp only [List.mem_cons, List.not_mem_nil, or_false] at this
  rcases this with rfl | rfl | rfl | rfl | rfl | rfl | rfl | rfl <;> rfl
theorem bi_ok {e : Expr} {es : List Expr} {p : Pos} {ms : Mo (List D)} (cx : Ctx X g f) (b : Bi) (hb : b.odd = false) (hg : Gl X b.nm) (hm : X.mg b.nm = none) (ha : PA X (e :: es) (tA X.K E0 ms)) (hs : (e :: es).all notStar = true) :
    PE X (.Call (.Name b.nm p) (e :: es) [] pos) (tE X.K E0 fun σ s => (ms σ s).bind fun ds s => biF b ds s) := by
  have hs' := hs
  rw [List.all_cons, Bool.and_eq_true] at hs'
  have h1 : starEach (e :: es) X.env = (false, eval e X.env) :: starEach es X.env := star_ok hs'.1
  have h2 : (backTo pos (starEach es X.env)).any (·.1) = false := star_any hs'.2
  have hu := cx.un
  cases b with
  | len => exact px_call (pe_callB len_ok hg hm boot_len ha (by decide) (by decide) h1 h2)
  | sum => exact px_call (pe_callB (sum_ok cx.calm) hg hm boot_sum ha (by decide) (by decide) h1 h2)
  | any => exact px_call (pe_callB (any_ok cx.calm) hg hm (by decide +kernel) ha (by decide) (by decide) h1 h2)
  | all => exact px_call (pe_callB (all_ok cx.calm) hg hm (by decide +kernel) ha (by decide) (by decide) h1 h2)
  | tuple => exact px_call (pe_callTy tuple_ok hg hm (by decide +kernel) ha (by decide) (by decide) h1 h2)
  | list => exact px_call (pe_callTy list_ok hg hm (by decide +kernel) ha (by decide) (by decide) h1 h2)
  | sorted => exact px_call (pe_callB (sorted_ok cx.calm hu) hg hm (by decide +kernel) ha (by decide) (by decide) h1 h2)
  | sset => cases hb
  | inst _ => cases hb
  | rev => cases hb
  | rev0 => cases hb
  | lset => cases hb
  | mm _ => cases hb
  | mmd _ => cases hb
  | mm2 _ => cases hb
  | trange => cases hb
  | repr => exact px_call (pe_callB (repr_ok cx.gd (by omega)) hg hm (by decide +kernel) ha (by decide) (by decide) h1 h2)
theorem keys_rep {K : PySem.W.Frag} {H : Hp} {α : Nat → Addr} : ∀ {xs : List D} {vs : List V} {ks : List Ke}, RepDs K H α xs vs → keys? xs = some ks → vs = ks.map kV ∧ ∀ k ∈ ks, ∀ x, k = .inr x → x.length ≤ sizeLine
  | [], vs, ks, r, h => by
    cases h
    exact ⟨r, fun k hk => by cases hk⟩
  | d :: xs, vs, ks, r, h => by
    rw [RepDs] at r
    obtain ⟨v, w, rfl, r1, r2⟩ := r
    unfold keys? at h
    split at h
    · rename_i k l h1 h2
      cases h
      obtain ⟨q1, q2⟩ := keys_rep r2 h2
      refine ⟨by rw [List.map_cons, q1, key_kV h1 r1], fun j hj x e => ?_⟩
      rcases List.mem_cons.mp hj with hj | hj
      · subst hj
        subst e
        cases d with
        | str z => cases h1; simp only [RepD] at r1; exact r1.2
        | _ => cases h1
      · exact q2 j hj x e
    · cases h
theorem keys_at {K : PySem.W.Frag} {α : Nat → Addr} {s : S} {H : Hp} (m : Sim K α s H) {d : D} {v : V} {xs : List D} {ks : List Ke} (r : RepD K H α d v) (hx : seqD d s = some xs) (hk : keys? xs = some ks) :
    ∃ a, v = .ref a ∧ (SqL K H a (ks.map kV) ∨ SqT K H a (ks.map kV)) ∧ ∀ k ∈ ks, ∀ x, k = .inr x → x.length ≤ sizeLine := by
  unfold seqD at hx
  split at hx
  · cases hx
    rw [RepD] at r
    obtain ⟨a, vs, rfl, ta, rr⟩ := r
    obtain ⟨rfl, hsz⟩ := keys_rep rr hk
    exact ⟨a, rfl, .inr ta.sq, hsz⟩
  · rw [RepD] at r
    subst r
    split at hx
    · rename_i ys e
      cases hx
      obtain ⟨vs, hv, rr⟩ := m.list e
      obtain ⟨rfl, hsz⟩ := keys_rep rr hk
      exact ⟨_, rfl, .inl (SqL.of hv), hsz⟩
    · cases hx
  · cases hx
theorem sset_seq {d : D} {s : S} {b : D} {s' : S} (h : ssetF [d] s = .ok b s') : True := trivial
theorem ssetF_eq (d : D) (s : S) : ssetF [d] s = match seqD d s with
    | some xs => match keys? xs with
      | some ks => if oneKind ks = true ∧ ks.all keyOk = true ∧ ks.length < 4000 then s.new (.list (((met ks ks.length).mergeSort keyLe).map keyD)) else .bad
      | none => .bad
    | none => .bad := by
  cases d with
  | tup xs => rfl
  | ref a =>
    simp only [ssetF, seqD]
    cases s.h[a]? with
    | none => rfl
    | some o => cases o <;> rfl
  | _ => rfl
theorem px_sset {e : Expr} {p1 p2 pos2 : Pos} {me : Mo D} (cx : Ctx X g f) (g1 : Gl X "sorted") (m1 : X.mg "sorted" = none) (g2 : Gl X "set") (m2 : X.mg "set" = none) (he : PE X e (tE X.K E0 me)) (hs : notStar e = true) :
    PE X (.Call (.Name "sorted" p1) [.Call (.Name "set" p2) [e] [] pos2] [] pos) (tE X.K E0 fun σ s => (me σ s).bind fun d s => ssetF [d] s) := by
  have inner := pe_callTy (pos := pos2) (p := p2) (set_ok2 (X := X) cx.calm) g2 m2 (by decide +kernel) (pa_cons he pa_nil (star_ok hs)) (by decide) (by decide) (star_ok hs) rfl
  refine (pe_callB (pos := pos) (p := p1) (sort_ok1 cx.calm cx.un) g1 m1 (by decide +kernel) (pa_cons inner pa_nil rfl) (by decide) (by decide) rfl rfl).imp fun σ H Q h => ?_
  refine tE.b1 (f := fun _ d s => ssetF [d] s) h fun v H' α s σ' x m sl r t o => ?_
  rw [ssetF_eq] at o
  split at o
  · rename_i xs hx
    split at o
    · rename_i ks hk
      split at o
      · rename_i hh
        obtain ⟨h1, h2, h3⟩ := hh
        obtain ⟨a, rfl, li, hsz⟩ := keys_at m r hx hk
        have ml : (met ks ks.length).length < 4000 := Nat.lt_of_le_of_lt (met_len ks _) h3
        refine ⟨_, ks, rfl, li, h3, fun p hp => ⟨p, met ks ks.length, rfl, upd_same, oneKind_sub h1 fun j hj => met_mem hj, keyOk_sub h2 fun j hj => met_mem hj, ml, fun k hk x e => hsz k (met_mem hk) x e, fun q hq => ?_⟩⟩
        have ma := m.aside (u := SetO X.w p (met ks ks.length)) hp
        have sz : ∀ k ∈ (met ks ks.length).mergeSort keyLe, ∀ x, k = .inr x → x.length ≤ sizeLine := fun k hk x e => hsz k (met_mem ((List.mergeSort_perm _ _).mem_iff.mp hk)) x e
        refine OutG.post ma (.aside hp) o (ext α s.h.length q) (.ref q) _ (ma.new hq (tops_flatl fun y hy => ?_) ⟨_, rfl, reps_keys sz⟩) (Post.new ma hq) ⟨by rw [RepD, ext_self], by simp [D.top]⟩
        obtain ⟨j, _, rfl⟩ := List.mem_map.mp hy
        cases j <;> simp [keyD, D.top]
      · exact o.elim
    · exact o.elim
  · exact o.elim
/-- len(set(e)) -/
theorem px_lset {e : Expr} {p1 p2 pos2 : Pos} {me : Mo D} (cx : Ctx X g f) (g1 : Gl X "len") (m1 : X.mg "len" = none) (g2 : Gl X "set") (m2 : X.mg "set" = none) (he : PE X e (tE X.K E0 me)) (hs : notStar e = true) :
    PE X (.Call (.Name "len" p1) [.Call (.Name "set" p2) [e] [] pos2] [] pos) (tE X.K E0 fun σ s => (me σ s).bind fun d s => lsetF [d] s) := by
  have inner := pe_callTy (pos := pos2) (p := p2) (set_ok2 (X := X) cx.calm) g2 m2 (by decide +kernel) (pa_cons he pa_nil (star_ok hs)) (by decide) (by decide) (star_ok hs) rfl
  refine (pe_callB (pos := pos) (p := p1) (len_ok2 (X := X)) g1 m1 boot_len (pa_cons inner pa_nil rfl) (by decide) (by decide) rfl rfl).imp fun σ H Q h => ?_
  refine tE.b1 (f := fun _ d s => lsetF [d] s) h fun v H' α s σ' x m sl r t o => ?_
  unfold lsetF at o
  simp only at o
  split at o
  · rename_i xs hx
    split at o
    · rename_i ks hk
      split at o
      · rename_i h3
        obtain ⟨a, rfl, li, hsz⟩ := keys_at m r hx hk
        have ml : (met ks ks.length).length < 4000 := Nat.lt_of_le_of_lt (met_len ks _) h3
        refine ⟨_, ks, rfl, li, h3, fun p hp => ⟨p, met ks ks.length, rfl, upd_same, ml, ?_⟩⟩
        exact o _ (.int _) _ (m.aside hp) (.aside hp) ⟨rfl, top_int⟩
      · exact o.elim
    · exact o.elim
  · exact o.elim
theorem px_mm {e : Expr} {p : Pos} {me : Mo D} (cx : Ctx X g f) (mx : Bool) (hg : Gl X (Bi.mm mx).nm) (hm : X.mg (Bi.mm mx).nm = none) (he : PE X e (tE X.K E0 me)) (hs : notStar e = true) :
    PE X (.Call (.Name (Bi.mm mx).nm p) [e] [] pos) (tE X.K E0 fun σ s => (me σ s).bind fun d s => mmF mx [d] s) := by
  have un := cx.un
  have pa := px_cons (X := X) (E := E0) he px_nil (star_ok hs)
  have q : PE X (.Call (.Name (Bi.mm mx).nm p) [e] [] pos) (tE X.K E0 fun σ s => ((me σ s).bind fun x s => R.bind (.ok [] s) fun xs s => .ok (x :: xs) s).bind fun ds s => mmF mx ds s) := by
    cases mx with
    | false => exact px_call (pe_callB (mm_ok (E := E0) cx.calm (by omega) false) hg hm (by decide +kernel) pa (by decide) (by decide) (star_ok hs) rfl)
    | true => exact px_call (pe_callB (mm_ok (E := E0) cx.calm (by omega) true) hg hm (by decide +kernel) pa (by decide) (by decide) (star_ok hs) rfl)
  simp only [R.bind_assoc, R.bind_ok] at q
  exact q
theorem px_mm2 {a b : Expr} {p : Pos} {ma mb : Mo D} (cx : Ctx X g f) (mx : Bool) (hg : Gl X (Bi.mm mx).nm) (hm : X.mg (Bi.mm mx).nm = none) (ha : PE X a (tE X.K E0 ma)) (hb : PE X b (tE X.K E0 mb)) (hs : notStar a = true) (hs2 : notStar b = true) :
    PE X (.Call (.Name (Bi.mm mx).nm p) [a, b] [] pos) (tE X.K E0 fun σ s => (ma σ s).bind fun x s => (mb σ s).bind fun y s => mm2F mx [x, y] s) := by
  have pa := px_cons (X := X) (E := E0) ha (px_cons hb px_nil (star_ok hs2)) (star_ok hs)
  have q : PE X (.Call (.Name (Bi.mm mx).nm p) [a, b] [] pos) (tE X.K E0 fun σ s => ((ma σ s).bind fun x s => ((mb σ s).bind fun y s => R.bind (.ok [] s) fun xs s => .ok (y :: xs) s).bind fun xs s => .ok (x :: xs) s).bind fun ds s => mm2F mx ds s) := by
    cases mx with
    | false => exact px_call (pe_callB (mm2_ok (E := E0) cx.calm false) hg hm (by decide +kernel) pa (by decide) (by decide) (star_ok hs) (by rw [star_ok hs2]; rfl))
    | true => exact px_call (pe_callB (mm2_ok (E := E0) cx.calm true) hg hm (by decide +kernel) pa (by decide) (by decide) (star_ok hs) (by rw [star_ok hs2]; rfl))
  simp only [R.bind_assoc, R.bind_ok] at q
  exact q
theorem _root_.Dv.RepDs.reverse {K : PySem.W.Frag} {H : Hp} {α : Nat → Addr} : ∀ {ds : List D} {vs : List V}, RepDs K H α ds vs → RepDs K H α ds.reverse vs.reverse
  | [], vs, h => by
    cases h
    exact RepDs.nil
  | d :: ds, vs, h => by
    rw [RepDs] at h
    obtain ⟨v, w, rfl, h1, h2⟩ := h
    rw [List.reverse_cons, List.reverse_cons]
    exact (RepDs.reverse h2).append ⟨_, _, rfl, h1, RepDs.nil⟩
theorem rg_rep {K : PySem.W.Frag} {H : Hp} {α : Nat → Addr} (a b : Int) : RepDs K H α ((List.range (b - a).toNat).map fun i => .int (a + (i : Nat))) (rgV a b) := by
  unfold rgV
  induction (b - a).toNat with
  | zero => exact RepDs.nil
  | succ n ih =>
    rw [List.range_succ, List.map_append, List.map_append]
    exact ih.append ⟨_, _, rfl, rfl, rfl⟩
theorem px_trg {a b : Expr} {p1 p2 pos2 : Pos} {ma mb : Mo D} (cx : Ctx X g f) (g1 : Gl X "tuple") (m1 : X.mg "tuple" = none) (g2 : Gl X "range") (m2 : X.mg "range" = none) (ha : PE X a (tE X.K E0 ma)) (hb : PE X b (tE X.K E0 mb)) (hs : notStar a = true) (hs2 : notStar b = true) :
    PE X (.Call (.Name "tuple" p1) [.Call (.Name "range" p2) [a, b] [] pos2] [] pos) (tE X.K E0 fun σ s => (ma σ s).bind fun x s => (mb σ s).bind fun y s => trangeF [x, y] s) := by
  refine (pe_tupRgF (pos := pos) (p := p1) cx.calm g1 m1 (prg_2 (pos := pos2) (p := p2) g2 m2 ha hb (by rw [star_ok hs]) (by rw [star_ok hs2]) (by rw [star_ok hs2]; rfl)) rfl).imp fun σ H Q h => ?_
  refine tE.b2 h fun v u H' α s σ' x y m sl rx ry tx ty o => ?_
  unfold trangeF at o
  split at o
  · rename_i i j hh
    cases hh
    simp only [RepD] at rx ry
    split at o
    · rename_i hh
      obtain ⟨h1, h2, h3, h4, h5⟩ := hh
      refine ⟨i, j, rx, ry, ⟨h1, h2, h3, h4, h5⟩, fun p ob ho hp => ?_⟩
      exact o α (.ref p) _ (m.aside hp) (.aside hp) ⟨⟨p, _, rfl, .inl ⟨_, upd_same, ho⟩, rg_rep i j⟩, by rw [D.top]; exact tops_flatl fun d hd => by obtain ⟨k, _, rfl⟩ := List.mem_map.mp hd; simp [D.top]⟩
    · exact o.elim
  · exact o.elim
theorem px_trg1 {b : Expr} {p1 p2 pos2 : Pos} {mb : Mo D} (cx : Ctx X g f) (g1 : Gl X "tuple") (m1 : X.mg "tuple" = none) (g2 : Gl X "range") (m2 : X.mg "range" = none) (hb : PE X b (tE X.K E0 mb)) (hs2 : notStar b = true) :
    PE X (.Call (.Name "tuple" p1) [.Call (.Name "range" p2) [b] [] pos2] [] pos) (tE X.K E0 fun σ s => (mb σ s).bind fun y s => trangeF [.int 0, y] s) := by
  refine (pe_tupRgF (pos := pos) (p := p1) cx.calm g1 m1 (prg_1 (pos := pos2) (p := p2) g2 m2 hb (by rw [star_ok hs2])) rfl).imp fun σ H Q h => ?_
  refine tE.b1 h fun u H' α s σ' y m sl ry ty o => ?_
  unfold trangeF at o
  split at o
  · rename_i i j hh
    cases hh
    simp only [RepD] at ry
    split at o
    · rename_i hh
      obtain ⟨h1, h2, h3, h4, h5⟩ := hh
      refine ⟨j, ry, ⟨h1, h2, h3, h4, h5⟩, fun p ob ho hp => ?_⟩
      exact o α (.ref p) _ (m.aside hp) (.aside hp) ⟨⟨p, _, rfl, .inl ⟨_, upd_same, ho⟩, rg_rep 0 j⟩, by rw [D.top]; exact tops_flatl fun d hd => by obtain ⟨k, _, rfl⟩ := List.mem_map.mp hd; simp [D.top]⟩
    · exact o.elim
  · exact o.elim
theorem px_rev {a : Expr} {k : Nat} {p1 p2 p3 : Pos} {ma : Mo D} (ha : PE X a (tE X.K E0 ma)) :
    PE X (.Subscript a (.Slice none none (some (.UnaryOp .USub (.Constant (.int 1) k p1) p2)) p3) pos) (tE X.K E0 fun σ s => (ma σ s).bind fun x s => revF [x] s) := by
  refine (pe_back ha).imp fun σ H Q h => ?_
  refine tE.b1 h fun v H' α s σ' x m sl r t o => ?_
  cases x with
  | tup xs =>
    rw [RepD] at r
    obtain ⟨a, vs, rfl, ta, rr⟩ := r
    rw [D.top] at t
    refine ⟨a, vs, rfl, .inr ⟨ta.sq, fun p ob ho hp => ?_⟩⟩
    exact o α (.ref p) _ (m.aside hp) (.aside hp) ⟨⟨p, _, rfl, .inl ⟨_, upd_same, ho⟩, ((Post.aside hp).reps m t rr).reverse⟩, by rw [D.top]; exact tops_le fun d hd => Nat.le_trans (top_mem (List.mem_reverse.mp hd)) t⟩
  | ref i =>
    simp only [RepD] at r
    subst r
    simp only [revF] at o
    split at o
    · rename_i xs e
      obtain ⟨vs, hv, rr⟩ := m.list e
      have tl : D.tops xs ≤ s.h.length := by have := m.top e; rwa [Ob.top] at this
      exact ⟨_, vs, rfl, .inl ⟨SqL.of hv, fun q hq => o _ (.ref q) _ (m.new hq (tops_le fun d hd => Nat.le_trans (top_mem (List.mem_reverse.mp hd)) tl) ⟨_, rfl, rr.reverse⟩) (Post.new m hq) ⟨by rw [RepD, ext_self], by simp [D.top]⟩⟩⟩
    · exact o.elim
  | _ => exact o.elim
theorem px_rev0 {a : Expr} {k k0 : Nat} {p0 p1 p2 p3 : Pos} {ma : Mo D} (ha : PE X a (tE X.K E0 ma)) :
    PE X (.Subscript a (.Slice none (some (.Constant (.int 0) k0 p0)) (some (.UnaryOp .USub (.Constant (.int 1) k p1) p2)) p3) pos) (tE X.K E0 fun σ s => (ma σ s).bind fun x s => rev0F [x] s) := by
  refine (pe_back0 ha).imp fun σ H Q h => ?_
  refine tE.b1 h fun v H' α s σ' x m sl r t o => ?_
  cases x with
  | tup xs =>
    rw [RepD] at r
    obtain ⟨a, vs, rfl, ta, rr⟩ := r
    rw [D.top] at t
    refine ⟨a, vs, rfl, ta.sq, fun p ob ho hp => ?_⟩
    exact o α (.ref p) _ (m.aside hp) (.aside hp) ⟨⟨p, _, rfl, .inl ⟨_, upd_same, ho⟩, (((Post.aside hp).reps m t rr).drop 1).reverse⟩, by rw [D.top]; exact tops_le fun d hd => Nat.le_trans (top_mem (List.mem_of_mem_drop (List.mem_reverse.mp hd))) t⟩
  | _ => exact o.elim
theorem cSset_ok (cx : Ctx X g f) (ih : Good X f w r) {args : List Expr} {p : Pos} {c : C} (h : cSset g r x args = some c) : PE X (.Call (.Name x p) args [] pos) (tE X.K E0 (evE f w c)) := by
  unfold cSset at h
  split at h
  · rename_i y p2 e pos2
    split at h
    · rename_i hh
      simp only [Bool.and_eq_true] at hh
      obtain ⟨⟨⟨⟨⟨⟨h1, h2⟩, h3⟩, h4⟩, h5⟩, h6⟩, h7⟩ := hh
      obtain rfl := beq_iff_eq.mp h1
      obtain rfl := beq_iff_eq.mp h2
      split at h
      · rename_i c' hc
        cases h
        have ev : evE f w (.bi .sset [c']) = fun σ s => (evE f w c' σ s).bind fun d s => ssetF [d] s := by
          funext σ s
          simp only [evE, evEs, R.bind_assoc, R.bind_ok]
          rfl
        rw [ev]
        exact px_sset cx (glb_ok cx h3) (cx.blt _ h5) (glb_ok cx h4) (cx.blt _ h6) (ih _ _ hc).1 h7
      · cases h
    · cases h
  · cases h
theorem cKi_ok {k : Ki} (h : cKi x = some k) : x = k.nm := by
  have := List.find?_some h
  exact (beq_iff_eq.mp this).symm
theorem boot_ki (k : Ki) : bootBuiltins k.nm = some (.type k.id) := by cases k <;> decide +kernel
theorem px_inst {e : Expr} {p1 p2 : Pos} {me : Mo D} (cx : Ctx X g f) (k : Ki) (g1 : Gl X "isinstance") (m1 : X.mg "isinstance" = none) (g2 : Gl X k.nm) (m2 : X.mg k.nm = none) (he : PE X e (tE X.K E0 me)) (hs : notStar e = true) :
    PE X (.Call (.Name "isinstance" p1) [e, .Name k.nm p2] [] pos) (tE X.K E0 fun σ s => (me σ s).bind fun d s => instF k [d] s) := by
  have nt : PE X (.Name k.nm p2) (tC (.ty k.id)) := by
    cases k <;> exact pe_bltn g2 m2 (by decide +kernel) rfl
  refine (pe_callB (pos := pos) (p := p1) (L2.call_isi (X := X)) g1 m1 (by decide +kernel) (pa_cons he (pa_cons nt pa_nil rfl) (star_ok hs)) (by decide) (by decide) (star_ok hs) rfl).imp fun σ H Q h => ?_
  refine tE.b1 (f := fun _ d s => instF k [d] s) h fun v H' α s σ' x m sl r t o => ?_
  unfold instF at o
  simp only at o
  split at o
  · rename_i j hj
    obtain ⟨tt, ty, ko⟩ := ty_of (k := k) m r hj
    exact ⟨v, .ty k.id, tt, .type k.id, kiOf k j, rfl, .ty _, ty, ko, o.v.here m rfl (by simp [D.top])⟩
  · exact o.elim
theorem cInst_ok (cx : Ctx X g f) (ih : Good X f w r) {args : List Expr} {p : Pos} {c : C} (h : cInst g r x args = some c) : PE X (.Call (.Name x p) args [] pos) (tE X.K E0 (evE f w c)) := by
  unfold cInst at h
  split at h
  · rename_i e y p2
    split at h
    · rename_i hh
      simp only [Bool.and_eq_true] at hh
      obtain ⟨⟨⟨⟨⟨h1, h3⟩, h4⟩, h5⟩, h6⟩, h7⟩ := hh
      obtain rfl := beq_iff_eq.mp h1
      split at h
      · rename_i k c' hk hc
        cases h
        obtain rfl := cKi_ok hk
        have ev : evE f w (.bi (.inst k) [c']) = fun σ s => (evE f w c' σ s).bind fun d s => instF k [d] s := by
          funext σ s
          simp only [evE, evEs, R.bind_assoc, R.bind_ok]
          rfl
        rw [ev]
        exact px_inst cx k (glb_ok cx h3) (cx.blt _ h5) (glb_ok cx h4) (cx.blt _ h6) (ih _ _ hc).1 h7
      · cases h
    · cases h
  · cases h
theorem ev1 {b : Bi} {c : C} : evE f w (.bi b [c]) = fun σ s => (evE f w c σ s).bind fun d s => biF b [d] s := by
  funext σ s
  simp only [evE, evEs, R.bind_assoc, R.bind_ok]
theorem ev2 {b : Bi} {c d : C} : evE f w (.bi b [c, d]) = fun σ s => (evE f w c σ s).bind fun x s => (evE f w d σ s).bind fun y s => biF b [x, y] s := by
  funext σ s
  simp only [evE, evEs, R.bind_assoc, R.bind_ok]
theorem cLset_ok (cx : Ctx X g f) (ih : Good X f w r) {args : List Expr} {p : Pos} {c : C} (h : cLset g r x args = some c) : PE X (.Call (.Name x p) args [] pos) (tE X.K E0 (evE f w c)) := by
  unfold cLset at h
  split at h
  · rename_i y p2 e pos2
    split at h
    · rename_i hh
      simp only [Bool.and_eq_true] at hh
      obtain ⟨⟨⟨⟨⟨⟨h1, h2⟩, h3⟩, h4⟩, h5⟩, h6⟩, h7⟩ := hh
      obtain rfl := beq_iff_eq.mp h1
      obtain rfl := beq_iff_eq.mp h2
      split at h
      · rename_i c' hc
        cases h
        rw [ev1]
        exact px_lset cx (glb_ok cx h3) (cx.blt _ h5) (glb_ok cx h4) (cx.blt _ h6) (ih _ _ hc).1 h7
      · cases h
    · cases h
  · cases h
theorem mm_nm {x : Str} (h : (x == ("min" : Str) || x == ("max" : Str)) = true) : x = (Bi.mm (x == ("max" : Str))).nm := by
  rw [Bool.or_eq_true] at h
  rcases h with h | h
  · obtain rfl := beq_iff_eq.mp h; rfl
  · obtain rfl := beq_iff_eq.mp h; rfl
theorem cMm_ok (cx : Ctx X g f) (ih : Good X f w r) {args : List Expr} {p : Pos} {c : C} (h : cMm g r x args = some c) : PE X (.Call (.Name x p) args [] pos) (tE X.K E0 (evE f w c)) := by
  unfold cMm at h
  split at h
  · rename_i hh
    rw [Bool.and_eq_true, Bool.and_eq_true] at hh
    obtain ⟨⟨h1, h2⟩, h3⟩ := hh
    have nm := mm_nm h1
    have hg := glb_ok cx h2
    have hm := cx.blt _ h3
    generalize (x == ("max" : Str)) = mx at *
    subst nm
    split at h
    · rename_i a
      split at h
      · rename_i c' h4 h5
        cases h
        rw [ev1]
        exact px_mm cx mx hg hm (ih _ _ h5).1 h4
      · cases h
    · rename_i a b
      split at h
      · rename_i c' d' h4 h5 h6 h7
        cases h
        rw [ev2]
        exact px_mm2 cx mx hg hm (ih _ _ h6).1 (ih _ _ h7).1 h4 h5
      · cases h
    · cases h
  · cases h
theorem cTrg_ok (cx : Ctx X g f) (ih : Good X f w r) {args : List Expr} {p : Pos} {c : C} (h : cTrg g r x args = some c) : PE X (.Call (.Name x p) args [] pos) (tE X.K E0 (evE f w c)) := by
  unfold cTrg at h
  split at h
  · rename_i y p2 as pos2
    split at h
    · rename_i hh
      simp only [Bool.and_eq_true] at hh
      obtain ⟨⟨⟨⟨⟨h1, h2⟩, h3⟩, h4⟩, h5⟩, h6⟩ := hh
      obtain rfl := beq_iff_eq.mp h1
      obtain rfl := beq_iff_eq.mp h2
      split at h
      · rename_i a
        split at h
        · rename_i c' h7 h8
          cases h
          rw [ev2]
          have e : (fun (σ : Sl) (s : S) => (evE f w (.cst (.int 0)) σ s).bind fun x s => (evE f w c' σ s).bind fun y s => biF .trange [x, y] s) = fun σ s => (evE f w c' σ s).bind fun y s => trangeF [.int 0, y] s := by
            funext σ s
            simp only [evE, R.bind_ok]
            rfl
          rw [e]
          exact px_trg1 cx (glb_ok cx h3) (cx.blt _ h5) (glb_ok cx h4) (cx.blt _ h6) (ih _ _ h8).1 h7
        · cases h
      · rename_i a b
        split at h
        · rename_i c' d' h7 h8 h9 h10
          cases h
          rw [ev2]
          exact px_trg cx (glb_ok cx h3) (cx.blt _ h5) (glb_ok cx h4) (cx.blt _ h6) (ih _ _ h9).1 (ih _ _ h10).1 h7 h8
        · cases h
      · cases h
    · cases h
  · cases h
theorem orElse_ok {P : C → Prop} {a b : Option C} {c : C} (h : orElse a b = some c) (h1 : a = some c → P c) (h2 : b = some c → P c) : P c := by
  cases a with
  | none => exact h2 h
  | some a => exact h1 h
theorem cCall_ok (cx : Ctx X g f) (ih : Good X f w r) {args : List Expr} {p : Pos} {c : C} (h : cCall g r x args = some c) : PE X (.Call (.Name x p) args [] pos) (tE X.K E0 (evE f w c)) := by
  unfold cCall at h
  split at h
  · rename_i hx
    rw [Bool.and_eq_true] at hx
    obtain ⟨n1, n2, n3⟩ := plainN_ok hx.2
    split at h
    · rename_i cs hcs
      obtain ⟨pa, hl, hst⟩ := cL_ok ih hcs
      split at h
      · rename_i k hk
        cases h
        obtain ⟨a, j, hm, kp, hr, F⟩ := cx.call x k hk
        have hc := F.callR hr cx.gd
        have e1 : evE f w (.call k cs) = fun σ s => (evEs f w cs σ s).bind fun ds s => f k ds s := by funext σ s; simp only [evE]
        rw [e1]
        cases args with
        | nil =>
          cases cs with
          | nil =>
            have e2 : evEs f w [] = fun (_ : Sl) (s : S) => R.ok ([] : List D) s := by funext σ s; simp only [evEs]
            rw [e2]
            exact px_call ((pe_callG0 hc (glb_ok cx hx.1) hm kp n1).imp fun σ H Q ⟨α, s, σ', m, sl, o⟩ => OutG.now (rep := rpVs X.K) m ⟨RepDs.nil, by simp [D.tops]⟩ o)
          | cons _ _ => cases hl
        | cons e es =>
          have hs' := hst
          rw [List.all_cons, Bool.and_eq_true] at hs'
          exact px_call (pe_callG hc (glb_ok cx hx.1) hm kp pa n1 (star_ok hs'.1) (star_any hs'.2))
      · split at h
        · rename_i hb
          rw [Bool.and_eq_true] at hb
          split at h
          · rename_i b hbi
            cases h
            obtain ⟨rfl, hns⟩ := cBi_ok hbi
            have e1 : evE f w (.bi b cs) = fun σ s => (evEs f w cs σ s).bind fun ds s => biF b ds s := by funext σ s; simp only [evE]
            rw [e1]
            cases args with
            | nil => exact absurd hb.2 (by simp)
            | cons e es => exact bi_ok cx b hns (glb_ok cx hx.1) (cx.blt _ hb.1) pa hst
          · cases h
        · cases h
    · cases h
  · cases h
theorem px_index {o e : Expr} {mo me : Mo D} {apos cpos : Pos} (cx : Ctx X g f) (ho : PE X o (tE X.K E0 mo)) (he : PE X e (tE X.K E0 me)) (hbase : attributeBase o "index" X.env (eval o X.env) = eval o X.env) (hs : starEach [e] X.env = [(false, eval e X.env)]) (hline : (apos.endLine == cpos.line) = true) :
    PE X (.Call (.Attribute o "index" apos) [e] [] cpos) (tE X.K E0 fun σ s => (mo σ s).bind fun x s => match mrOk .index x s with
      | true => (me σ s).bind fun y s => indexF x [y] s
      | false => .bad) := by
  have un := cx.un
  refine (pe_index (by omega) ho he hbase hs hline).imp fun σ H Q h => ?_
  refine tE.b1 h fun v H' α s σ' x m sl r t o => ?_
  cases hk : mrOk .index x s with
  | false => rw [hk] at o; exact o.elim
  | true =>
    rw [hk] at o
    obtain ⟨T, ty, hT⟩ := seq_ty m r hk
    refine ⟨T, ty, α, s, σ', m, sl, (OutG.bind m sl o).imp fun y H2 ⟨α2, s2, dy, m2, sl2, p2, r2, o2⟩ => ?_⟩
    have rx := p2.rep m t r
    simp only [indexF] at o2
    split at o2
    · rename_i xs hx
      split at o2
      · rename_i ps p h1 h2
        split at o2
        · rename_i j hj
          unfold placeP at hj
          split at hj
          · rename_i hh
            obtain ⟨hj1, hj2, hj3⟩ := List.findIdx?_eq_some_iff_getElem.mp hj
            have q := o2.v.here m2 rfl top_int
            have no : ∀ (k : Nat) (z' : PyData), k < j → ps[k]? = some z' → PyData.eqv z' p = false := fun k z' lt e => by
              obtain ⟨hk2, e2⟩ := List.getElem?_eq_some_iff.mp e
              have := hj3 k lt
              rw [e2] at this
              simpa using this
            have dy' := m2.dp r2.1 h2
            rcases hT with ⟨zs, rfl, rfl⟩ | ⟨i, rfl, rfl⟩
            · cases hx
              rw [RepD] at rx
              obtain ⟨a, vs, rfl, ta, rr⟩ := rx
              exact ⟨fun e => absurd e (by decide), fun _ => ⟨a, y, p, ps, j, ps[j], rfl, rfl, .tup ta.sq (m2.dps rr h1), dy', hh.1, hh.2, List.getElem?_eq_getElem hj1, hj2, no, q⟩⟩
            · unfold seqD at hx
              simp only at hx
              split at hx
              · rename_i ys e
                cases hx
                rw [RepD] at rx
                subst rx
                obtain ⟨vs, hv, rr⟩ := m2.list e
                exact ⟨fun _ => ⟨_, y, p, ps, j, ps[j], rfl, rfl, .lst (SqL.of hv) (m2.dps rr h1), dy', hh.1, hh.2, List.getElem?_eq_getElem hj1, hj2, no, q⟩, fun e => absurd e (by decide)⟩
              · cases hx
          · cases hj
        · exact o2.elim
      · exact o2.elim
    · exact o2.elim
theorem cMr_ok {b : Mr} (h : cMr x = some b) : x = b.nm := by
  have := List.find?_some h
  exact (beq_iff_eq.mp this).symm
theorem cMet_ok (cx : Ctx X g f) (ih : Good X f w r) {o : Expr} {m : Str} {args : List Expr} {apos cpos : Pos} {c : C} (h : cMet r o m args apos cpos = some c) : PE X (.Call (.Attribute o m apos) args [] cpos) (tE X.K E0 (evE f w c)) := by
  unfold cMet at h
  split at h
  · rename_i e
    split at h
    · rename_i b o' c' h1 h2 h3
      split at h
      · rename_i hh
        cases h
        simp only [Bool.and_eq_true] at hh
        obtain ⟨⟨q1, q2⟩, q3⟩ := hh
        obtain rfl := cMr_ok h1
        cases b with
        | index =>
          have ev : evE f w (.met .index o' [c']) = fun σ s => (evE f w o' σ s).bind fun x s => match mrOk .index x s with
              | true => (evE f w c' σ s).bind fun y s => indexF x [y] s
              | false => .bad := by
            funext σ s
            simp only [evE, evEs, R.bind_assoc, R.bind_ok]
            rfl
          rw [ev]
          exact px_index cx (ih _ _ h2).1 (ih _ _ h3).1 (base_ok q1) (star_ok q3) q2
      · cases h
    · cases h
  · cases h
theorem cMe_ok {b : Me} (h : cMe x = some b) : x = b.nm := by
  have := List.find?_some h
  exact (beq_iff_eq.mp this).symm
def Me.id : Me → String
  | .append => "list.append" | .extend => "list.extend" | .pop => "list.pop"
theorem cMeth_ok (cx : Ctx X g f) (ih : Good X f w r) {o : Expr} {m : Str} {args : List Expr} {apos cpos : Pos} {c : C} (h : cMeth g r o m args apos cpos = some c) : PE X (.Call (.Attribute o m apos) args [] cpos) (tE X.K E0 (evE f w c)) := by
  unfold cMeth at h
  split at h
  · rename_i b o' cs h1 h2 h3
    split at h
    · rename_i hh
      cases h
      simp only [Bool.and_eq_true, decide_eq_true_eq] at hh
      obtain ⟨⟨q1, q2⟩, q3⟩ := hh
      obtain rfl := cMe_ok h1
      obtain ⟨pa, hl, hst⟩ := cL_ok ih h3
      have e1 : evE f w (.me b o' cs) = meM (meF b) (evE f w o') (evEs f w cs) := by funext σ s; simp only [evE, meM]; all_goals congr 1
      rw [e1]
      have slot : Slot "list" b.nm b.id := by
        cases b with
        | append => exact F.slot_list_append
        | extend => exact F.slot_list_extend
        | pop => exact F.slot_list_pop
      have hty : typeOf (.builtin b.id) = pure (.type "method_descriptor") := by
        cases b with
        | append => exact F.type_list_append
        | extend => exact F.type_list_extend
        | pop => exact F.type_list_pop
      have hm : MtR X b.id (rMe X.K E0 (meF b)) := by
        cases b with
        | append => exact append_ok
        | extend => exact extend_ok
        | pop => exact pop_ok
      cases args with
      | nil =>
        cases cs with
        | nil =>
          have e2 : evEs f w [] = fun (_ : Sl) (s : S) => R.ok ([] : List D) s := by funext σ s; simp only [evEs]
          rw [e2]
          exact px_me0 slot hty hm (ih o o' h2).1 (base_ok q1) q2
        | cons _ _ => cases hl
      | cons e es =>
        have hs' := hst
        rw [List.all_cons, Bool.and_eq_true] at hs'
        exact px_me slot hty hm (ih o o' h2).1 pa (base_ok q1) (by rw [star_few hst]; simpa [keywordEach, backToKw] using q3) q2 (star_ok hs'.1) (star_any hs'.2)
    · cases h
  · cases h
end
end Dv
end

section
/-! Dv19 -/
/-! Dv19: targets, what is walked, comprehensions, all expressions. -/
namespace Dv
open PySem PySem.Spec PyProof.Rows
open L2 hiding It

section
variable {X : Cx} {g : G} {f : CallT} {w : Nat} {x : Str} {i : Nat} {pos : Pos} {r : Expr → Option C}
theorem ixL_ok (cx : Ctx X g f) : ∀ {es : List Expr} {is : List Nat}, ixL g es = some is → PGs X es (gNames is) ∧ (assignEach es X.env).length = is.length ∧ (assignEach es X.env).findIdx? (·.1) = none
  | [], is, h => by cases h; exact ⟨pgs_nil, rfl, rfl⟩
  | e :: es, is, h => by
    cases e with
    | Name x p =>
      unfold ixL at h
      split at h
      · rename_i i is' h1 h2
        cases h
        obtain ⟨q1, q2, q3⟩ := own_ok cx h1
        obtain ⟨r1, r2, r3⟩ := ixL_ok cx h2
        refine ⟨pgs_cons (pg_name (by rw [cx.N]; exact cx.nd) q1 q2 q3) r1 rfl, ?_, ?_⟩
        · show (assignEach es X.env).length + 1 = _
          rw [r2]; rfl
        · have : assignEach (.Name x p :: es) X.env = (false, assign (.Name x p) X.env) :: assignEach es X.env := rfl
          rw [this, List.findIdx?_cons, if_neg Bool.false_ne_true, r3]
          rfl
      · cases h
    | _ => unfold ixL at h; cases h
theorem cTg_ok (cx : Ctx X g f) {tg : Expr} {t : Tg} (h : cTg g tg = some t) : PG X tg (tTg X.K t) := by
  unfold cTg at h
  split at h
  · rename_i x p
    cases e : g.own x with
    | none => rw [e] at h; cases h
    | some i =>
      rw [e] at h
      cases h
      obtain ⟨q1, q2, q3⟩ := own_ok cx e
      exact px_nm (by rw [cx.N]; exact cx.nd) q1 q2 q3
  · rename_i es k p
    cases e : ixL g es with
    | none => rw [e] at h; cases h
    | some is =>
      rw [e] at h
      cases h
      obtain ⟨r1, r2, r3⟩ := ixL_ok cx e
      exact px_tpT cx.calm r1 r2 r3
  · cases h
theorem cBlk_ok (cx : Ctx X g f) {scope : Scope} {tg : Expr} {t : Tg} {own : List (Str × Nat)} (h : cBlk g scope tg = some (t, own)) : BlkOk X.N X.env.scope scope own ∧ own.map (·.2) = t.ixs ∧ cTg (g.blk scope) tg = some t ∧ scope.kind = .function := by
  unfold cBlk at h
  split at h
  · rename_i own' t' h1 h2
    split at h
    · rename_i hh
      cases h
      rw [Bool.and_eq_true, decide_eq_true_eq] at hh
      have ok := blkOk_by hh.1
      exact ⟨by rw [cx.N, cx.sc]; exact ok, hh.2, h2, ok.kind⟩
    · cases h
  · cases h
/-! ### what is walked -/
theorem evI_no {c : C} (h : c.noIt = true) : evI f w c = fun σ s => (evE f w c σ s).bind fun x s => R.of (itOf x s) s := by
  funext σ s
  cases c with
  | rng es => cases h
  | enum e => cases h
  | _ => simp only [evI]
theorem cIt_ok (cx : Ctx X g f) (ih : Good X f w r) {tg e : Expr} {c : C} (h : cIt g r tg e = some c) : PI X tg e (tI X.K E0 (evI f w c)) := by
  unfold cIt at h
  split at h
  · rename_i x p args pos
    split at h
    · rename_i hx
      obtain rfl := beq_iff_eq.mp hx
      split at h
      · rename_i hh
        simp only [Bool.and_eq_true, Bool.or_eq_true, decide_eq_true_eq] at hh
        obtain ⟨⟨⟨h1, h2⟩, h3⟩, h4⟩ := hh
        split at h
        · rename_i cs hcs
          cases h
          obtain ⟨pa, hl, hst⟩ := cL_ok ih hcs
          have e1 : evI f w (.rng cs) = fun σ s => (evEs f w cs σ s).bind fun ds s => rngF ds s := by funext σ s; simp only [evI]
          rw [e1]
          match args, h4 with
          | [a], _ => exact px_rng1 (glb_ok cx h1) (cx.blt _ h3) pa (star_ok (by simpa using hst)) fun σ s ds s' q => by rw [evEs_len q, hl]; rfl
          | [a, b], _ =>
            have hst' : notStar a = true ∧ notStar b = true := by simpa using hst
            exact px_rng2 (glb_ok cx h1) (cx.blt _ h3) pa (by rw [star_ok hst'.1, star_ok hst'.2]; rfl) (star_ok hst'.2) fun σ s ds s' q => by rw [evEs_len q, hl]; rfl
          | [], h4 => exact absurd h4 (by simp)
          | _ :: _ :: _ :: _, h4 => exact absurd h4 (by simp)
        · cases h
      · cases h
    · split at h
      · rename_i hx
        obtain rfl := beq_iff_eq.mp hx
        split at h
        · rename_i hh
          simp only [Bool.and_eq_true] at hh
          obtain ⟨⟨⟨h1, h2⟩, h3⟩, h4⟩ := hh
          split at h
          · rename_i a
            split at h
            · rename_i hst
              split at h
              · rename_i c' hc
                cases h
                have e1 : evI f w (.enum c') = fun σ s => (evE f w c' σ s).bind fun x s => enumF x s := by funext σ s; simp only [evI]
                rw [e1]
                cases tg with
                | Tuple elts k tp => exact px_enum (glb_ok cx h1) (cx.blt _ h3) (ih a c' hc).1 (star_ok hst)
                | _ => cases h4
              · cases h
            · cases h
          · cases h
        · cases h
      · split at h
        · rename_i c' hc
          split at h
          · rename_i hn
            cases h
            rw [evI_no hn]
            exact px_it (ih _ c hc).1
          · cases h
        · cases h
  · split at h
    · rename_i c' hc
      split at h
      · rename_i hn
        cases h
        rw [Bool.and_eq_true] at hn
        rw [evI_no hn.1]
        exact px_it (ih _ c hc).1
      · cases h
    · cases h
theorem ev_ts : ∀ cs : List C, evTs f w cs = tsM (cs.map (evE f w))
  | [] => by funext σ s; simp only [evTs, List.map, tsM]
  | c :: cs => by
    funext σ s
    simp only [evTs, List.map, tsM, ev_ts cs]
    all_goals congr 1
theorem cTs_ok (ih : Good X f w r) {es : List Expr} {cs : List C} (h : cTs r es = some cs) : PTs X es (tT X.K E0 (evTs f w cs)) := by
  rw [ev_ts]
  unfold cTs at h
  split at h
  · cases h; exact px_ts0
  · split at h
    · rename_i c hc
      cases h
      exact px_ts1 (ih _ c hc).2
    · cases h
  · cases h
theorem cO_ok (ih : Good X f w r) {lo : Option Expr} {l : C} (h : cO r lo = some l) : PO X lo (tG X.K E0 rpO (evB f w l)) := by
  unfold cO at h
  split at h
  · cases h
    have e : evB f w (.cst .non) = fun _ s => .ok none s := by funext σ s; simp only [evB]
    rw [e]
    exact po_n
  · split at h
    · rename_i c hc
      cases h
      have e : evB f w (.bnd c) = bndM (evE f w c) := by funext σ s; simp only [evB, bndM]; all_goals congr 1
      rw [e]
      exact po_b (ih _ c hc).1
    · cases h
/-! ### dict displays -/
theorem msOf_eq : ∀ {ks : List Ke} {cs : List C}, ks.length = cs.length → msOf (ks.zip (cs.map (evE f w))) = evEs f w cs
  | [], [], _ => by rw [ev_nil]; rfl
  | [], _ :: _, h => by cases h
  | _ :: _, [], h => by cases h
  | k :: ks, c :: cs, h => by
    rw [ev_cons]
    show msOf ((k, evE f w c) :: ks.zip (cs.map (evE f w))) = _
    unfold msOf
    rw [msOf_eq (by simpa using h)]
theorem cKs_ok (ih : Good X f w r) : ∀ {keys : List (Option Expr)} {values : List Expr} {ks : List Ke} {cs : List C}, cKs keys = some ks → cL r values = some cs → keys.length = values.length →
    PPs X pos keys values (trsOf X.K E0 (ks.zip (cs.map (evE f w)))) ∧ keys.all (·.isSome) = true ∧ ks.length = keys.length
  | [], [], ks, cs, h1, h2, _ => by cases h1; cases h2; exact ⟨pps_nil, rfl, rfl⟩
  | [], _ :: _, _, _, _, _, h => by cases h
  | _ :: _, [], _, _, _, _, h => by cases h
  | k :: keys, v :: values, ks, cs, h1, h2, h3 => by
    unfold cL at h2
    split at h2
    · rename_i c cs' g1 g2 g3
      cases h2
      unfold cKs at h1
      split at h1
      · rename_i hk; cases hk
      · rename_i i j p es hk
        cases hk
        split at h1
        · rename_i l hl
          cases h1
          obtain ⟨q1, q2, q3⟩ := cKs_ok ih hl g3 (by simpa using h3)
          exact ⟨pps_cons px_int (ih _ c g2).1 q1, by rw [List.all_cons, q2]; rfl, by simp [q3]⟩
        · cases h1
      · rename_i z j p es hk
        cases hk
        split at h1
        · rename_i l hl
          split at h1
          · rename_i hz
            cases h1
            obtain ⟨q1, q2, q3⟩ := cKs_ok ih hl g3 (by simpa using h3)
            exact ⟨pps_cons (px_str (by rw [sizeLine_eq]; exact hz)) (ih _ c g2).1 q1, by rw [List.all_cons, q2]; rfl, by simp [q3]⟩
          · cases h1
        · cases h1
      · cases h1
    · cases h2
end
end Dv
end

section
/-! Dv20 -/
/-! Dv20: all expressions. -/
namespace Dv
open PySem PySem.Spec PyProof.Rows
open L2 hiding It

section
variable {X : Cx} {E : XK} {a b c : Expr} {pos : Pos} {K : PySem.W.Frag} {σ : L2.St} {H : Hp} {ma mb mc : Mo D}
theorem R.bind_inv {β γ : Type} {r : R β} {k : β → S → R γ} {z : γ} {s : S} (h : r.bind k = .ok z s) : ∃ b s1, r = .ok b s1 ∧ k b s1 = .ok z s := by
  cases r with
  | ok b s1 => exact ⟨b, s1, rfl, h⟩
  | exc _ _ => cases h
  | bad => cases h
theorem tT_bl {m : Mo D} (hb : ∀ σ s d s', m σ s = .ok d s' → ∃ k, d = .bl k) {Q : Bool → Hp → Prop} (h : tT K E (tst m) σ H Q) : tE K E m σ H fun v H' => ∃ k, v = .bl k ∧ Q k H' := by
  obtain ⟨α, s, σ', m0, sl, o⟩ := h
  refine ⟨α, s, σ', m0, sl, ?_⟩
  unfold tst at o
  cases e : m σ' s with
  | ok d s1 =>
    obtain ⟨k, rfl⟩ := hb _ _ _ _ e
    rw [e] at o
    intro α1 v H1 m1 p r
    have rv := r.1
    simp only [RepD] at rv
    exact ⟨k, rv, o α1 k H1 m1 p rfl⟩
  | exc e1 s1 => rw [e] at o; exact o
  | bad => rw [e] at o; exact o
theorem chM_bl {o1 o2 : CO} : ∀ σ s d s', chM o1 o2 ma mb mc σ s = .ok d s' → ∃ k, d = .bl k := by
  intro σ s d s' h
  unfold chM at h
  obtain ⟨x, s1, _, h⟩ := R.bind_inv h
  obtain ⟨y, s2, _, h⟩ := R.bind_inv h
  obtain ⟨t, s3, _, h⟩ := R.bind_inv h
  cases t with
  | true =>
    obtain ⟨z, s4, _, h⟩ := R.bind_inv h
    unfold cmpR at h
    split at h
    · rename_i k _
      cases h
      exact ⟨k, rfl⟩
    · cases h
  | false => cases h; exact ⟨false, rfl⟩
theorem px_chainT (hu : X.A.units + 150 < cLine) (o1 o2 : CO) (ha : PE X a (tE X.K E ma)) (hb : PE X b (tE X.K E mb)) (hc : PE X c (tE X.K E mc)) (hm : lastMarks [o1.op, o2.op] [b, c] = false) :
    PT X (.Compare a [o1.op, o2.op] [b, c] pos) (tT X.K E (tst (chM o1 o2 ma mb mc))) :=
  (pt_chain (cmp_ok (E := E) hu o1) (cmp_ok (E := E) hu o2) ha hb hc hm).imp fun σ H Q h => chain_read o1 o2 (tT_bl chM_bl h)
theorem tst_if (mc ma mb : Mo D) : tst (ifM mc ma mb) = fun σ s => (tst mc σ s).bind fun t s => match t with
  | true => tst ma σ s
  | false => tst mb σ s := by
  rw [ifM_eq]
  funext σ s
  show ((tst mc σ s).bind _).bind testD = _
  rw [R.bind_assoc]
  congr 1
  funext t s1
  cases t <;> rfl
theorem px_ifeT (hc : PT X c (tT X.K E (tst mc))) (ha : PT X a (tT X.K E (tst ma))) (hb : PT X b (tT X.K E (tst mb))) : PT X (.IfExp c a b pos) (tT X.K E (tst (ifM mc ma mb))) := by
  constructor
  intro pn st σ H Q I h
  rw [tst_if] at h
  show wpAny _ _ (isTrue c X.env (eval c X.env) >>= fun t => if t = true then isTrue a X.env (eval a X.env) else isTrue b X.env (eval b X.env)) _ _ st
  refine wpAny_bind (thn (hc.run pn st σ H (fun t H' => if t = true then tT X.K E (tst ma) σ H' Q else tT X.K E (tst mb) σ H' Q) I ?_) ?_)
  · refine tT.b1 h fun x H' α s σ' m sl o => ?_
    cases x with
    | true => exact tG.mk m sl o
    | false => exact tG.mk m sl o
  · rintro t s1 ⟨H1, I1, q⟩
    cases t with
    | true => exact ha.run pn s1 σ H1 Q I1 q
    | false => exact hb.run pn s1 σ H1 Q I1 q
end
section
variable {f : CallT} {w : Nat}
theorem ev_lc (e : C) (t : Tg) (it : C) (cs : List C) : evE f w (.lc e t it cs) = lcM w (evI f w it) t (evTs f w cs) (evE f w e) := by
  funext σ s
  simp only [evE, lcM]
  congr 1
theorem ev_dc (k v : C) (t : Tg) (it : C) (cs : List C) : evE f w (.dc k v t it cs) = dcM w (evI f w it) t (evTs f w cs) (evE f w k) (evE f w v) := by
  funext σ s
  simp only [evE, dcM]
  congr 1
theorem cE_ok : ∀ (n : Nat) {X : Cx} {g : G}, Ctx X g f → Good X f w (cE n g)
  | 0, X, g, cx, e, c, h => by cases h
  | n + 1, X, g, cx, e, c, h => by
    have ih : Good X f w (cE n g) := cE_ok n cx
    have un : X.A.units + 150 < cLine := by have := cx.un; omega
    have nd : X.N.Nodup := by rw [cx.N]; exact cx.nd
    unfold cE at h
    split at h
    · -- Name
      rename_i x pos
      split at h
      · rename_i i hi
        cases h
        obtain ⟨q1, q2, q3, q4⟩ := loc_ok cx hi
        have e : evE f w (.loc i) = fun σ s => match σ[i]? with
            | some (some d) => .ok d s
            | _ => .bad := by funext σ s; simp only [evE]; all_goals rfl
        have p : PE X (.Name x pos) (tE X.K E0 (evE f w (.loc i))) := by rw [e]; exact px_loc q1 q2 q3 q4
        exact ⟨p, px_tru p fun _ => rfl⟩
      · split at h
        · rename_i hx
          rw [Bool.and_eq_true] at hx
          split at h
          · rename_i k hk
            split at h
            · rename_i hz
              cases h
              obtain ⟨u, hu, ru⟩ := cx.cst x k hk
              have p := px_glob (E := E0) (pos := pos) (glb_ok cx hx.1) hu ru hz (plainN_ok hx.2).1
              have e : evE f w (.cst (keyD k)) = fun _ s => .ok (keyD k) s := by funext σ s; simp only [evE]
              rw [← e] at p
              exact ⟨p, px_tru p fun _ => rfl⟩
            · cases h
          · cases h
        · cases h
    · -- Constant
      rename_i v j p
      split at h
      · rename_i d hd
        cases h
        have e : evE f w (.cst d) = fun _ s => .ok d s := by funext σ s; simp only [evE]
        have p : PE X (.Constant v j p) (tE X.K E0 (evE f w (.cst d))) := by
          rw [e]
          unfold cCst at hd
          split at hd
          · cases hd; exact px_int
          · cases hd; exact px_bl
          · cases hd; exact px_non
          · split at hd
            · rename_i hz
              cases hd
              exact px_str (by rw [sizeLine_eq]; exact hz)
            · cases hd
          · cases hd
        exact ⟨p, px_tru p fun _ => rfl⟩
      · cases h
    · -- BinOp
      rename_i a o b pos
      split at h
      · rename_i o' a' b' h1 h2 h3
        cases h
        obtain rfl := cBO_ok h1
        have e : evE f w (.bin o' a' b') = fun σ s => (evE f w a' σ s).bind fun x s => (evE f w b' σ s).bind fun y s => binop o' x y s := by funext σ s; simp only [evE]
        have p : PE X (.BinOp a o'.op b pos) (tE X.K E0 (evE f w (.bin o' a' b'))) := by rw [e]; exact px_bin o' (ih _ _ h2).1 (ih _ _ h3).1
        exact ⟨p, px_tru p fun _ => rfl⟩
      · cases h
    · -- -
      rename_i a pos
      split at h
      · rename_i a' h1
        cases h
        have e : evE f w (.neg a') = fun σ s => (evE f w a' σ s).bind fun x s => match x with
            | .int i => .ok (.int (-i)) s
            | _ => .bad := by funext σ s; simp only [evE]; all_goals congr 1
        have p : PE X (.UnaryOp .USub a pos) (tE X.K E0 (evE f w (.neg a'))) := by rw [e]; exact px_neg (ih _ _ h1).1
        exact ⟨p, px_tru p fun _ => rfl⟩
      · cases h
    · -- not
      split at h
      · rename_i a' h1
        cases h
        have e : evE f w (.not a') = notM (evE f w a') := by funext σ s; simp only [evE, notM]
        rw [e]
        exact ⟨px_not (ih _ _ h1).1, px_notT (ih _ _ h1).2⟩
      · cases h
    · -- and
      split at h
      · rename_i c' cs hc
        cases h
        have e : evE f w (.and (c' :: cs)) = evAnd f w (c' :: cs) := by funext σ s; simp only [evE]
        rw [e]
        exact ⟨(cAnd_ok ih hc).1, (cAnd_ok ih hc).2.pt⟩
      · cases h
    · -- or
      split at h
      · rename_i c' cs hc
        cases h
        have e : evE f w (.or (c' :: cs)) = evOr f w (c' :: cs) := by funext σ s; simp only [evE]
        rw [e]
        exact ⟨(cOr_ok ih hc).1, (cOr_ok ih hc).2.pt⟩
      · cases h
    · -- if
      split at h
      · rename_i c' a' b' h1 h2 h3
        cases h
        have e : evE f w (.ife c' a' b') = ifM (evE f w c') (evE f w a') (evE f w b') := by funext σ s; simp only [evE, ifM]; all_goals congr 1
        rw [e]
        exact ⟨px_ife (ih _ _ h1).2 (ih _ _ h2).1 (ih _ _ h3).1, px_ifeT (ih _ _ h1).2 (ih _ _ h2).2 (ih _ _ h3).2⟩
      · cases h
    · -- compare
      rename_i a o b pos
      split at h
      · rename_i a' b' h1 h2
        split at h
        · rename_i hm
          cases h
          have e : evE f w (.cmp (cCO o) a' b') = fun σ s => (evE f w a' σ s).bind fun x s => (evE f w b' σ s).bind fun y s => cmpR (cCO o) x y s := by funext σ s; simp only [evE]
          rw [e]
          have q := px_cmp (pos := pos) un (cCO o) (ih _ _ h1).1 (ih _ _ h2).1 (by rw [cCO_ok]; exact hm)
          have q2 := px_cmpT (pos := pos) un (cCO o) (ih _ _ h1).1 (ih _ _ h2).1 (by rw [cCO_ok]; exact hm)
          rw [cCO_ok] at q q2
          exact ⟨q, q2⟩
        · cases h
      · cases h
    · -- chain
      rename_i a o1 o2 b c2 pos
      split at h
      · rename_i a' b' c' h1 h2 h3
        split at h
        · rename_i hm
          cases h
          have e : evE f w (.chain (cCO o1) (cCO o2) a' b' c') = chM (cCO o1) (cCO o2) (evE f w a') (evE f w b') (evE f w c') := by funext σ s; simp only [evE, chM]; all_goals congr 1
          rw [e]
          have q := px_chain (pos := pos) un (cCO o1) (cCO o2) (ih _ _ h1).1 (ih _ _ h2).1 (ih _ _ h3).1 (by rw [cCO_ok, cCO_ok]; exact hm)
          have q2 := px_chainT (pos := pos) un (cCO o1) (cCO o2) (ih _ _ h1).1 (ih _ _ h2).1 (ih _ _ h3).1 (by rw [cCO_ok, cCO_ok]; exact hm)
          rw [cCO_ok, cCO_ok] at q q2
          exact ⟨q, q2⟩
        · cases h
      · cases h
    · -- slice
      rename_i a lo hi p2 pos
      split at h
      · rename_i a' l u h1 h2 h3
        cases h
        have e : evE f w (.slc a' l u) = slM (evE f w a') (evB f w l) (evB f w u) := by funext σ s; simp only [evE, slM]
        have p : PE X (.Subscript a (.Slice lo hi none p2) pos) (tE X.K E0 (evE f w (.slc a' l u))) := by rw [e]; exact px_slice (ih _ _ h1).1 (cO_ok ih h2) (cO_ok ih h3)
        exact ⟨p, px_tru p fun _ => rfl⟩
      · cases h
    · -- x[::-1]
      split at h
      · rename_i a' h1
        cases h
        rw [show evE f w (.bi .rev [a']) = (fun σ s => (evE f w a' σ s).bind fun x s => revF [x] s) from ev1]
        exact ⟨px_rev (ih _ _ h1).1, px_tru (px_rev (ih _ _ h1).1) fun _ => rfl⟩
      · cases h
    · -- x[:0:-1]
      split at h
      · rename_i a' h1
        cases h
        rw [show evE f w (.bi .rev0 [a']) = (fun σ s => (evE f w a' σ s).bind fun x s => rev0F [x] s) from ev1]
        exact ⟨px_rev0 (ih _ _ h1).1, px_tru (px_rev0 (ih _ _ h1).1) fun _ => rfl⟩
      · cases h
    · -- subscript
      rename_i a b pos hno hno1 hno2
      split at h
      · rename_i a' b' h1 h2
        split at h
        · rename_i hb
          cases h
          have e : evE f w (.ix a' b') = fun σ s => (evE f w a' σ s).bind fun x s => (evE f w b' σ s).bind fun y s => idxR x y s := by funext σ s; simp only [evE]
          have p : PE X (.Subscript a b pos) (tE X.K E0 (evE f w (.ix a' b'))) := by rw [e]; exact px_ix un (ih _ _ h1).1 (ih _ _ h2).1 (slice_ok hb)
          exact ⟨p, px_tru p fun _ => rfl⟩
        · cases h
      · cases h
    · -- tuple
      rename_i es k pos
      split at h
      · rename_i cs hcs
        split at h
        · rename_i hz
          cases h
          obtain ⟨pa, hl, _⟩ := cL_ok ih hcs
          have e : evE f w (.tup cs) = fun σ s => (evEs f w cs σ s).bind fun ds s => .ok (.tup ds) s := by funext σ s; simp only [evE]
          have p : PE X (.Tuple es k pos) (tE X.K E0 (evE f w (.tup cs))) := by rw [e]; exact px_tup (by rw [sizeLine_eq]; omega) (fun σ s ds s' q => by rw [evEs_len q, hl]) pa
          exact ⟨p, px_tru p fun _ => rfl⟩
        · cases h
      · cases h
    · -- list
      rename_i es pos
      split at h
      · rename_i cs hcs
        split at h
        · rename_i hz
          cases h
          obtain ⟨pa, hl, _⟩ := cL_ok ih hcs
          have e : evE f w (.lst cs) = fun σ s => (evEs f w cs σ s).bind fun ds s => s.new (.list ds) := by funext σ s; simp only [evE]
          have p : PE X (.List es pos) (tE X.K E0 (evE f w (.lst cs))) := by rw [e]; exact px_lst (by rw [sizeLine_eq]; omega) (fun σ s ds s' q => by rw [evEs_len q, hl]) pa
          exact ⟨p, px_tru p fun _ => rfl⟩
        · cases h
      · cases h
    · -- dict
      rename_i keys values pos
      split at h
      · rename_i ks cs h1 h2
        split at h
        · rename_i hh
          cases h
          obtain ⟨q1, q2, q3⟩ := cKs_ok (pos := pos) ih h1 h2 hh.1
          have hlen : ks.length = cs.length := by rw [q3, hh.1, (cL_ok ih h2).2.1]
          have e : evE f w (.dct ks cs) = dctM ks (evEs f w cs) := by funext σ s; simp only [evE, dctM]
          have p : PE X (.Dict keys values pos) (tE X.K E0 (evE f w (.dct ks cs))) := by
            rw [e]
            cases keys with
            | nil =>
              cases values with
              | nil =>
                cases h1
                cases h2
                exact px_dct0 ev_nil
              | cons _ _ => exact absurd hh.1 (by simp)
            | cons k0 kr =>
              have p := px_dct q1 q2 hh.1 (by simp) hh.2
              rw [msOf_eq hlen, List.map_fst_zip (by simp [hlen])] at p
              exact p
          exact ⟨p, px_tru p fun _ => rfl⟩
        · cases h
      · cases h
    · -- call
      rename_i x p0 args pos
      have p : PE X (.Call (.Name x p0) args [] pos) (tE X.K E0 (evE f w c)) := by
        refine orElse_ok (P := fun c => PE X (.Call (.Name x p0) args [] _) (tE X.K E0 (evE f w c))) h (fun h => cSset_ok cx ih h) fun h => ?_
        refine orElse_ok (P := fun c => PE X (.Call (.Name x p0) args [] _) (tE X.K E0 (evE f w c))) h (fun h => cInst_ok cx ih h) fun h => ?_
        refine orElse_ok (P := fun c => PE X (.Call (.Name x p0) args [] _) (tE X.K E0 (evE f w c))) h (fun h => cLset_ok cx ih h) fun h => ?_
        refine orElse_ok (P := fun c => PE X (.Call (.Name x p0) args [] _) (tE X.K E0 (evE f w c))) h (fun h => cMm_ok cx ih h) fun h => ?_
        refine orElse_ok (P := fun c => PE X (.Call (.Name x p0) args [] _) (tE X.K E0 (evE f w c))) h (fun h => cTrg_ok cx ih h) fun h => ?_
        exact cCall_ok cx ih h
      exact ⟨p, px_tru p fun _ => rfl⟩
    · -- method
      split at h
      · rename_i c' hc
        cases h
        have p := cMet_ok cx ih hc
        exact ⟨p, px_tru p fun _ => rfl⟩
      · have p := cMeth_ok cx ih h
        exact ⟨p, px_tru p fun _ => rfl⟩
    · -- [ .. for ..]
      rename_i elt tg it ifs k scope pos
      split at h
      · rename_i t own i cs c' h1 h2 h3 h4
        split at h
        · rename_i hh
          cases h
          obtain ⟨b1, b2, b3, b4⟩ := cBlk_ok cx h1
          have cb := fun s H C cl fp => cx.blk scope b4 s H C cl fp
          have hk := hh.1
          subst hk
          have p : PE X (.ListComp elt [⟨tg, it, ifs, 0⟩] scope pos) (tE X.K E0 (evE f w (.lc c' t i cs))) := by
            rw [ev_lc]
            exact px_lc cx.calm nd (cIt_ok cx ih h2) b1 b2 (fun s H C cl fp => cTg_ok (cb s H C cl fp) b3) (fun s H C cl fp => cTs_ok (cE_ok n (cb s H C cl fp)) h3) (fun s H C cl fp => (cE_ok n (cb s H C cl fp) _ _ h4).1) (set_no hh.2)
          exact ⟨p, px_tru p fun _ => rfl⟩
        · cases h
      · cases h
    · -- {.. for ..}
      rename_i kx vx tg it ifs k scope pos
      split at h
      · rename_i t own i cs c' v' h1 h2 h3 h4 h5
        split at h
        · rename_i hh
          cases h
          obtain ⟨b1, b2, b3, b4⟩ := cBlk_ok cx h1
          have cb := fun s H C cl fp => cx.blk scope b4 s H C cl fp
          have hk := hh.1
          subst hk
          have p : PE X (.DictComp kx vx [⟨tg, it, ifs, 0⟩] scope pos) (tE X.K E0 (evE f w (.dc c' v' t i cs))) := by
            rw [ev_dc]
            exact px_dc cx.calm nd (cIt_ok cx ih h2) b1 b2 (fun s H C cl fp => cTg_ok (cb s H C cl fp) b3) (fun s H C cl fp => cTs_ok (cE_ok n (cb s H C cl fp)) h3) (fun s H C cl fp => (cE_ok n (cb s H C cl fp) _ _ h4).1) (fun s H C cl fp => (cE_ok n (cb s H C cl fp) _ _ h5).1) (set_no hh.2)
          exact ⟨p, px_tru p fun _ => rfl⟩
        · cases h
      · cases h
    · cases h
end
end Dv
end

section
/-! Dv21 -/
/-! Dv21: all statements. -/
namespace Dv
open PySem PySem.Spec PyProof.Rows
open L2 hiding It

section
variable {X : Cx} {g : G} {f : CallT} {w : Nat} {x y z : Str} {pos : Pos}
theorem kind_ok (cx : Ctx X g f) : X.env.scope.kind = .function := by rw [cx.sc]; exact cx.kind
theorem block_ok (cx : Ctx X g f) : X.env.blockKind = .function := by unfold Env.blockKind; rw [kind_ok cx]; rfl
theorem kindOf_loc (cx : Ctx X g f) (h : locB g.sc x = true) : X.env.kindOf x = some .local := locB_ok cx h
theorem kindOf_no (cx : Ctx X g f) (h : locB g.sc x = false) : (X.env.kindOf x == some .local) = false := by
  unfold Env.kindOf
  rw [cx.sc]
  unfold locB at h
  split at h
  · cases h
  · rename_i q
    cases e : g.sc.names.lookup x with
    | none => rfl
    | some k => cases k <;> first | rfl | exact absurd e q
theorem sw_no (cx : Ctx X g f) {e : Expr} {p : Pos} {l : Nat} (h : locB g.sc x = false) : swapsWith e (some (.Name x p)) l X.env = pure false := by
  have k := kindOf_no cx h
  cases e <;> first | rfl | (unfold swapsWith; simp only [k, Bool.and_false, Bool.false_and])
theorem sw_yes (cx : Ctx X g f) {e : Expr} {p : Pos} {l : Nat} (h : swB g.sc e x p = true) : swapsWith e (some (.Name x p)) l X.env = pure true := by
  unfold swB at h
  split at h
  · simp only [Bool.and_eq_true, Bool.not_eq_true'] at h
    exact sw_true (kind_ok cx) (locB_ok cx h.1.1) h.1.2 h.2
  · simp only [Bool.and_eq_true, Bool.not_eq_true'] at h
    have h1 := kindOf_loc cx h.1.1
    have h2 := block_ok cx
    unfold swapsWith
    simp only [h1, h2, h.2, Expr.pos, h.1.2]
    rfl
  · cases h
theorem tup_swap {t e : Expr} {ts : List Expr} {k : Nat} {p : Pos} {env : Env} (ht : t = .Tuple ts k p) (h : isDisp e = false) : swappedStores [t] e env = pure none := by
  subst ht
  cases e <;> first | rfl | cases h
theorem sub_swap {o i e : Expr} {p : Pos} {env : Env} : swappedStores [.Subscript o i p] e env = pure none := by cases e <;> rfl
theorem par_swap {a b : Expr} {px py pt pt2 : Pos} {k k2 : Nat} (cx : Ctx X g f) (hx : locB g.sc x = true) (hy : locB g.sc y = true) (hl : (py.line == px.line) = true) (hn : (x == y) = false) (ha : notStar a = true) (hb : notStar b = true)
    (h1 : (foldedForSure 8 a && foldedForSure 8 b) = false) (h2 : (constantsAlone 8 a && constantsAlone 8 b) = false) : swappedStores [.Tuple [.Name x px, .Name y py] k pt] (.Tuple [a, b] k2 pt2) X.env = pure (some [x, y]) := by
  have kx := kindOf_loc cx hx
  have ky := kindOf_loc cx hy
  have bk := block_ok cx
  have ne : ¬ y = x := fun e => by rw [e] at hn; simp at hn
  unfold swappedStores
  have hl' : py.line = px.line := by simpa using hl
  have nf : ¬(foldedForSure 8 a = true ∧ foldedForSure 8 b = true) := by rw [← Bool.and_eq_true, h1]; exact Bool.false_ne_true
  have nc : ¬(constantsAlone 8 a = true ∧ constantsAlone 8 b = true) := by rw [← Bool.and_eq_true, h2]; exact Bool.false_ne_true
  simp [bk, kx, ky, hl', List.filterMap_cons, List.eraseDups_cons, hn, ne, nf, nc, Expr.pos]
  rintro (h | h)
  · split at h
    · cases ha
    · cases h
  · split at h
    · cases hb
    · cases h
theorem par_fold {a b : Expr} {px py pt pt2 : Pos} {k k2 : Nat} {env : Env} (h1 : (foldedForSure 8 a && foldedForSure 8 b) = true) : swappedStores [.Tuple [.Name x px, .Name y py] k pt] (.Tuple [a, b] k2 pt2) env = pure none := by
  rw [Bool.and_eq_true] at h1
  unfold swappedStores
  simp [h1.1, h1.2]
theorem par3_swap {a b d : Expr} {px py pz pt pt2 : Pos} {k k2 : Nat} (cx : Ctx X g f) (hx : locB g.sc x = true) (hy : locB g.sc y = true) (hz : locB g.sc z = true) (hl : (py.line == px.line) = true) (hl2 : (pz.line == px.line) = true)
    (hn : (x == y) = false) (hn2 : (x == z) = false) (hn3 : (y == z) = false) (ha : notStar a = true) (hb : notStar b = true) (hd : notStar d = true)
    (h1 : (foldedForSure 8 a && foldedForSure 8 b && foldedForSure 8 d) = false) (h2 : (constantsAlone 8 a && constantsAlone 8 b && constantsAlone 8 d) = false) : swappedStores [.Tuple [.Name x px, .Name y py, .Name z pz] k pt] (.Tuple [a, b, d] k2 pt2) X.env = pure (some [x, y, z]) := by
  have kx := kindOf_loc cx hx
  have ky := kindOf_loc cx hy
  have kz := kindOf_loc cx hz
  have bk := block_ok cx
  have ne : ¬ y = x := fun e => by rw [e] at hn; simp at hn
  have ne2 : ¬ z = x := fun e => by rw [e] at hn2; simp at hn2
  have ne3 : ¬ z = y := fun e => by rw [e] at hn3; simp at hn3
  have hl' : py.line = px.line := by simpa using hl
  have hl2' : pz.line = px.line := by simpa using hl2
  have nf : ¬(foldedForSure 8 a = true ∧ foldedForSure 8 b = true ∧ foldedForSure 8 d = true) := by rw [← and_assoc, ← Bool.and_eq_true, ← Bool.and_eq_true, h1]; exact Bool.false_ne_true
  have nc : ¬(constantsAlone 8 a = true ∧ constantsAlone 8 b = true ∧ constantsAlone 8 d = true) := by rw [← and_assoc, ← Bool.and_eq_true, ← Bool.and_eq_true, h2]; exact Bool.false_ne_true
  unfold swappedStores
  simp [bk, kx, ky, kz, hl', hl2', List.filterMap_cons, List.eraseDups_cons, hn, hn2, hn3, ne, ne2, ne3, nf, nc, Expr.pos]
  rintro (h | h | h)
  · split at h
    · cases ha
    · cases h
  · split at h
    · cases hb
    · cases h
  · split at h
    · cases hd
    · cases h
theorem par3_fold {a b d : Expr} {px py pz pt pt2 : Pos} {k k2 : Nat} {env : Env} (h1 : (foldedForSure 8 a && foldedForSure 8 b && foldedForSure 8 d) = true) : swappedStores [.Tuple [.Name x px, .Name y py, .Name z pz] k pt] (.Tuple [a, b, d] k2 pt2) env = pure none := by
  rw [Bool.and_eq_true, Bool.and_eq_true] at h1
  unfold swappedStores
  simp [h1.1.1, h1.1.2, h1.2]
theorem par_none {a b : Expr} {px py pt pt2 : Pos} {k k2 : Nat} (cx : Ctx X g f) (h : (locB g.sc x && locB g.sc y) = false) (ha : notStar a = true) (hb : notStar b = true) : swappedStores [.Tuple [.Name x px, .Name y py] k pt] (.Tuple [a, b] k2 pt2) X.env = pure none := by
  have bk := block_ok cx
  have key : ¬(X.env.kindOf x = some .local ∧ X.env.kindOf y = some .local) := fun ⟨h1, h2⟩ => by
    cases hx : locB g.sc x with
    | false =>
      have := kindOf_no cx hx
      rw [h1] at this
      cases this
    | true =>
      rw [hx, Bool.true_and] at h
      have := kindOf_no cx h
      rw [h2] at this
      cases this
  unfold swappedStores
  by_cases kx : X.env.kindOf x = some .local
  · have ky : ¬ X.env.kindOf y = some .local := fun e => key ⟨kx, e⟩
    simp [bk, kx, ky, List.filterMap_cons, Expr.pos]
  · by_cases ky : X.env.kindOf y = some .local
    · by_cases hl : py.line = px.line
      · simp [bk, kx, ky, hl, List.filterMap_cons, Expr.pos]
      · simp [bk, kx, ky, hl, List.filterMap_cons, Expr.pos]
    · simp [bk, kx, ky, List.filterMap_cons, Expr.pos]
theorem par3_none {a b d : Expr} {px py pz pt pt2 : Pos} {k k2 : Nat} (cx : Ctx X g f) (h : (locB g.sc x && locB g.sc y && locB g.sc z) = false) : swappedStores [.Tuple [.Name x px, .Name y py, .Name z pz] k pt] (.Tuple [a, b, d] k2 pt2) X.env = pure none := by
  have bk := block_ok cx
  have key : ¬(X.env.kindOf x = some .local ∧ X.env.kindOf y = some .local ∧ X.env.kindOf z = some .local) := fun ⟨h1, h2, h3⟩ => by
    have no : ∀ {v : Str}, locB g.sc v = false → X.env.kindOf v = some .local → False := fun hv e => by
      have := kindOf_no cx hv
      rw [e] at this
      cases this
    cases hx : locB g.sc x with
    | false => exact no hx h1
    | true =>
      cases hy : locB g.sc y with
      | false => exact no hy h2
      | true =>
        rw [hx, hy, Bool.true_and, Bool.true_and] at h
        exact no h h3
  unfold swappedStores
  by_cases kx : X.env.kindOf x = some .local <;> by_cases ky : X.env.kindOf y = some .local <;> by_cases kz : X.env.kindOf z = some .local <;> by_cases hl : py.line = px.line <;> by_cases hl2 : pz.line = px.line <;>
    first
    | (simp [bk, kx, ky, kz, hl, hl2, List.filterMap_cons, Expr.pos]; done)
    | exact absurd (And.intro kx (And.intro ky kz)) key
/-! ### statements -/
theorem px_lcAt (cx : Ctx X g f) {n i : Nat} {e : Expr} {c : C} {p : Pos} (hi : g.own x = some i) (hs : swB g.sc e x p = true) (h : cE n g e = some c) : PS X (.Assign [.Name x p] e pos) (tS X.K E0 (asgM (.nm i) (evE f w c))) := by
  have nd : X.N.Nodup := by rw [cx.N]; exact cx.nd
  obtain ⟨q1, q2, q3⟩ := own_ok cx hi
  have sw := sw_yes (l := pos.line) cx hs
  have hl : locB g.sc x = true := by
    unfold swB at hs
    split at hs
    · simp only [Bool.and_eq_true] at hs; exact hs.1.1
    · simp only [Bool.and_eq_true] at hs; exact hs.1.1
    · cases hs
  cases n with
  | zero => cases h
  | succ n =>
    have ih : Good X f w (cE n g) := cE_ok n cx
    cases e with
    | ListComp elt gs scope q =>
      match gs, h, hs, sw with
      | [], h, _, _ => exact absurd (show (none : Option C) = some c from h) (by simp)
      | ⟨_, _, _, _⟩ :: _ :: _, h, _, _ => exact absurd (show (none : Option C) = some c from h) (by simp)
      | [⟨tg, it, ifs, k⟩], h, hs, sw =>
        unfold cE at h
        dsimp only at h
        split at h
        · rename_i t own j cs c' h1 h2 h3 h4
          split at h
          · rename_i hh
            cases h
            obtain ⟨b1, b2, b3, b4⟩ := cBlk_ok cx h1
            have cb := fun s H C cl fp => cx.blk scope b4 s H C cl fp
            have hk := hh.1
            subst hk
            rw [ev_lc]
            exact px_setLc cx.calm nd q1 (locB_ok cx hl) sw (cIt_ok cx ih h2) b1 b2 (fun s H C cl fp => cTg_ok (cb s H C cl fp) b3) (fun s H C cl fp => cTs_ok (cE_ok n (cb s H C cl fp)) h3) (fun s H C cl fp => (cE_ok n (cb s H C cl fp) _ _ h4).1) (set_no hh.2)
          · cases h
        · cases h
    | DictComp kx vx gs scope q =>
      match gs, h, hs, sw with
      | [], h, _, _ => exact absurd (show (none : Option C) = some c from h) (by simp)
      | ⟨_, _, _, _⟩ :: _ :: _, h, _, _ => exact absurd (show (none : Option C) = some c from h) (by simp)
      | [⟨tg, it, ifs, k⟩], h, hs, sw =>
        unfold cE at h
        dsimp only at h
        split at h
        · rename_i t own j cs c' v' h1 h2 h3 h4 h5
          split at h
          · rename_i hh
            cases h
            obtain ⟨b1, b2, b3, b4⟩ := cBlk_ok cx h1
            have cb := fun s H C cl fp => cx.blk scope b4 s H C cl fp
            have hk := hh.1
            subst hk
            rw [ev_dc]
            exact px_setDc cx.calm nd q1 (locB_ok cx hl) sw (cIt_ok cx ih h2) b1 b2 (fun s H C cl fp => cTg_ok (cb s H C cl fp) b3) (fun s H C cl fp => cTs_ok (cE_ok n (cb s H C cl fp)) h3) (fun s H C cl fp => (cE_ok n (cb s H C cl fp) _ _ h4).1) (fun s H C cl fp => (cE_ok n (cb s H C cl fp) _ _ h5).1) (set_no hh.2)
          · cases h
        · cases h
    | _ => cases hs
def GoodS (X : Cx) (f : CallT) (w : Nat) (r : Stmt → Option T) : Prop := ∀ st t, r st = some t → PS X st (tS X.K E0 (exT f w t))
theorem cSs_ok {r : Stmt → Option T} (ih : GoodS X f w r) : ∀ {sts : List Stmt} {ts : List T}, cSs r sts = some ts → PSs X sts (tS X.K E0 (exTs f w ts))
  | [], ts, h => by
    cases h
    have e : exTs f w [] = fun (σ : Sl) (s : S) => R.ok (Fl.nx, σ) s := by funext σ s; simp only [exTs]
    rw [e]
    exact px_snil
  | st :: sts, ts, h => by
    unfold cSs at h
    split at h
    · rename_i t ts' h1 h2
      cases h
      have e : exTs f w (t :: ts') = seqM (exT f w t) (exTs f w ts') := by funext σ s; simp only [exTs, seqM]; all_goals congr 1
      rw [e]
      exact px_scons (ih _ _ h1) (cSs_ok ih h2)
    · cases h
theorem tup_ev (cs : List C) : evE f w (.tup cs) = tupM (evEs f w cs) := by funext σ s; simp only [evE, tupM]
theorem ev_asg (t : Tg) (c : C) : exT f w (.asg t c) = asgM t (evE f w c) := by funext σ s; simp only [exT, asgM]; all_goals congr 1
theorem ne_ix {i j : Nat} {N : List Str} (h1 : N[i]? = some x) (h2 : N[j]? = some y) (h : (x == y) = false) : i ≠ j := fun e => by
  rw [e, h2] at h1
  cases h1
  simp at h
theorem cS_tup (cx : Ctx X g f) {n : Nat} {ts : List Expr} {k : Nat} {p : Pos} {e : Expr} {t : T} (h : cS (n + 1) g (.Assign [.Tuple ts k p] e pos) = some t) : PS X (.Assign [.Tuple ts k p] e pos) (tS X.K E0 (exT f w t)) := by
  have ih : Good X f w (cE n g) := cE_ok n cx
  have nd : X.N.Nodup := by rw [cx.N]; exact cx.nd
  unfold cS at h
  dsimp only at h
  split at h
  · rename_i t' c h1 h2
    have pg := cTg_ok cx h1
    have hs : swapsWithSole [.Tuple ts k p] e pos.line X.env = pure false := sw_other (t := .Tuple ts k p) (l := pos.line) (env := X.env) fun _ _ h => nomatch h
    split at h
    · rename_i hd
      cases h
      rw [ev_asg]
      exact px_asg (ih _ _ h2).1 pg hs (tup_swap rfl (by simpa using hd)) rfl
    · split at h
      · rename_i x px y py hd
        split at h
        · rename_i hh
          simp only [Bool.and_eq_true, Bool.not_eq_true'] at hh
          obtain ⟨⟨⟨l1, l2⟩, l3⟩, l4⟩ := hh
          split at h
          · rename_i a b k2 pt2 _
            split at h
            · cases h
            · rename_i hf
              cases h
              rw [ev_asg]
              cases hff : foldedForSure 8 a && foldedForSure 8 b with
              | true => exact px_asg (ih _ _ h2).1 pg hs (par_fold hff) rfl
              | false =>
                rw [hff] at hf
                have hc : (constantsAlone 8 a && constantsAlone 8 b) = false := by simpa using hf
                cases n with
                | zero => cases h2
                | succ n =>
                  have ih2 : Good X f w (cE n g) := cE_ok n cx
                  unfold cE at h2
                  dsimp only at h2
                  split at h2
                  · rename_i cs hcs
                    split at h2
                    · cases h2
                      obtain ⟨pa, hl, hst⟩ := cL_ok ih2 hcs
                      have hst' : notStar a = true ∧ notStar b = true := by simpa using hst
                      rw [tup_ev]
                      simp only [cTg, ixL, Option.map_eq_some_iff] at h1
                      obtain ⟨is, h1, rfl⟩ := h1
                      split at h1
                      · rename_i i is' g1 g2
                        split at g2
                        · rename_i j is2 g3 g4
                          cases g4
                          cases g2
                          cases h1
                          obtain ⟨q1, _, _⟩ := own_ok cx g1
                          obtain ⟨r1, _, _⟩ := own_ok cx g3
                          exact px_par cx.calm nd q1 r1 (ne_ix q1 r1 l4) (locB_ok cx l1) (locB_ok cx l2) pa (par_swap cx l1 l2 l3 l4 hst'.1 hst'.2 hff hc) hs
                        · cases g2
                      · cases h1
                    · cases h2
                  · cases h2
          · cases h
        · split at h
          · cases h
          · rename_i hlo
            split at h
            · rename_i a b k2 pt2 _
              cases h
              rw [ev_asg]
              refine px_asg (ih _ _ h2).1 pg hs ?_ rfl
              cases n with
              | zero => cases h2
              | succ n =>
                have ih2 : Good X f w (cE n g) := cE_ok n cx
                unfold cE at h2
                dsimp only at h2
                split at h2
                · rename_i cs hcs
                  obtain ⟨pa, hl, hst⟩ := cL_ok ih2 hcs
                  have hst' : notStar a = true ∧ notStar b = true := by simpa using hst
                  exact par_none cx (by simpa using hlo) hst'.1 hst'.2
                · cases h2
            · cases h
      · rename_i x px y py z pz hd
        split at h
        · rename_i hh
          simp only [Bool.and_eq_true, Bool.not_eq_true'] at hh
          obtain ⟨⟨⟨⟨⟨⟨⟨l1, l2⟩, l3⟩, l4⟩, l5⟩, l6⟩, l7⟩, l8⟩ := hh
          split at h
          · rename_i a b d k2 pt2 _
            split at h
            · cases h
            · rename_i hf
              cases h
              rw [ev_asg]
              cases hff : foldedForSure 8 a && foldedForSure 8 b && foldedForSure 8 d with
              | true => exact px_asg (ih _ _ h2).1 pg hs (par3_fold hff) rfl
              | false =>
                rw [hff] at hf
                have hc : (constantsAlone 8 a && constantsAlone 8 b && constantsAlone 8 d) = false := by
                  cases hx : constantsAlone 8 a && constantsAlone 8 b && constantsAlone 8 d with
                  | true => rw [hx] at hf; exact absurd rfl hf
                  | false => rfl
                cases n with
                | zero => cases h2
                | succ n =>
                  have ih2 : Good X f w (cE n g) := cE_ok n cx
                  unfold cE at h2
                  dsimp only at h2
                  split at h2
                  · rename_i cs hcs
                    split at h2
                    · cases h2
                      obtain ⟨pa, hl, hst⟩ := cL_ok ih2 hcs
                      have hst' : notStar a = true ∧ notStar b = true ∧ notStar d = true := by simpa using hst
                      rw [tup_ev]
                      simp only [cTg, ixL, Option.map_eq_some_iff] at h1
                      obtain ⟨is, h1, rfl⟩ := h1
                      split at h1
                      · rename_i i is' g1 g2
                        split at g2
                        · rename_i j is2 g3 g4
                          split at g4
                          · rename_i l is3 g5 g6
                            cases g6
                            cases g4
                            cases g2
                            cases h1
                            obtain ⟨q1, _, _⟩ := own_ok cx g1
                            obtain ⟨r1, _, _⟩ := own_ok cx g3
                            obtain ⟨u1, _, _⟩ := own_ok cx g5
                            exact px_par3 cx.calm nd q1 r1 u1 (ne_ix q1 r1 l6) (ne_ix q1 u1 l7) (ne_ix r1 u1 l8) (locB_ok cx l1) (locB_ok cx l2) (locB_ok cx l3) pa (par3_swap cx l1 l2 l3 l4 l5 l6 l7 l8 hst'.1 hst'.2.1 hst'.2.2 hff hc) hs
                          · cases g4
                        · cases g2
                      · cases h1
                    · cases h2
                  · cases h2
          · cases h
        · split at h
          · cases h
          · rename_i hlo
            split at h
            · cases h
              rw [ev_asg]
              exact px_asg (ih _ _ h2).1 pg hs (par3_none cx (by simpa using hlo)) rfl
            · cases h
      · cases h
  · cases h
theorem cS_ok : ∀ (n : Nat) {X : Cx} {g : G}, Ctx X g f → GoodS X f w (cS n g)
  | 0, X, g, cx, st, t, h => by cases h
  | n + 1, X, g, cx, st, t, h => by
    have ih : Good X f w (cE n g) := cE_ok n cx
    have ihS : GoodS X f w (cS n g) := cS_ok n cx
    have un : X.A.units + 150 < cLine := by have := cx.un; omega
    have nd : X.N.Nodup := by rw [cx.N]; exact cx.nd
    have h0 := h
    unfold cS at h
    split at h
    · -- x = e
      rename_i x p e pos
      split at h
      · rename_i i c h1 h2
        split at h
        · rename_i hh
          cases h
          rw [ev_asg]
          obtain ⟨q1, q2, q3⟩ := own_ok cx h1
          cases hw : swB g.sc e x p with
          | true => exact px_lcAt cx h1 hw h2
          | false =>
            cases hc : notComp e with
            | true => exact px_set nd q1 q2 (ih _ _ h2).1 (comp_no hc) q3
            | false =>
              rw [hw, hc] at hh
              exact px_set nd q1 q2 (ih _ _ h2).1 (sw_no cx (by simpa using hh)) q3
        · cases h
      · cases h
    · -- x, y = e
      exact cS_tup cx h0
    · -- o[i] = e
      rename_i o i p e pos
      split at h
      · rename_i c o' i' h1 h2 h3
        split at h
        · rename_i hi
          cases h
          have ev : exT f w (.sub o' i' c) = subM (evE f w o') (evE f w i') (evE f w c) := by funext σ s; simp only [exT, subM]
          rw [ev]
          refine px_sub un (ih _ _ h1).1 (ih _ _ h2).1 (ih _ _ h3).1 (sw_other (t := .Subscript o i p) (l := pos.line) (env := X.env) fun _ _ h => nomatch h) sub_swap fun v => ?_
          cases i <;> first | rfl | cases hi
        · cases h
      · cases h
    · -- a docstring
      cases h
      have ev : exT f w .pass = fun (σ : Sl) (s : S) => R.ok (Fl.nx, σ) s := by funext σ s; simp only [exT]
      rw [ev]
      exact px_doc
    · -- an expression
      split at h
      · rename_i c h1
        split at h
        · rename_i hc
          cases h
          have ev : exT f w (.ex c) = fun σ s => (evE f w c σ s).bind fun _ s => .ok (.nx, σ) s := by funext σ s; simp only [exT]
          rw [ev]
          exact px_ex (ih _ _ h1).1 (comp_no hc)
        · cases h
      · cases h
    · -- return e
      split at h
      · rename_i c h1
        cases h
        have ev : exT f w (.ret c) = fun σ s => (evE f w c σ s).bind fun d s => .ok (.rt d, σ) s := by funext σ s; simp only [exT]
        rw [ev]
        exact px_ret (ih _ _ h1).1
      · cases h
    · -- return
      cases h
      have ev : exT f w (.ret (.cst .non)) = fun (σ : Sl) (s : S) => R.ok (Fl.rt .non, σ) s := by funext σ s; simp only [exT, evE, R.bind_ok]
      rw [ev]
      exact px_retN
    · -- if
      split at h
      · rename_i c' a' b' h1 h2 h3
        cases h
        have ev : exT f w (.ifs c' a' b') = ifS (evE f w c') (exTs f w a') (exTs f w b') := by funext σ s; simp only [exT, ifS]; all_goals congr 1
        rw [ev]
        exact px_if (ih _ _ h1).2 (cSs_ok ihS h2) (cSs_ok ihS h3)
      · cases h
    · -- for
      split at h
      · rename_i t' i' b' h1 h2 h3
        split at h
        · rename_i hs
          cases h
          have ev : exT f w (.for_ t' i' b') = forM w (evI f w i') t' (exTs f w b') := by funext σ s; simp only [exT, forM]; congr 1
          rw [ev]
          exact px_for cx.xe cx.calm (cIt_ok cx ih h2) (cTg_ok cx h1) (cSs_ok ihS h3) (set_no hs)
        · cases h
      · cases h
    · -- while
      split at h
      · rename_i c' b' h1 h2
        cases h
        have ev : exT f w (.whl c' b') = whlM w (evE f w c') (exTs f w b') := by funext σ s; simp only [exT, whlM]; rfl
        rw [ev]
        exact px_whl cx.xe (ih _ _ h1).2 (cSs_ok ihS h2)
      · cases h
    · cases h
      have ev : exT f w .pass = fun (σ : Sl) (s : S) => R.ok (Fl.nx, σ) s := by funext σ s; simp only [exT]
      rw [ev]
      exact px_pass
    · cases h
      have ev : exT f w .brk = fun (σ : Sl) (s : S) => R.ok (Fl.bk, σ) s := by funext σ s; simp only [exT]
      rw [ev]
      exact px_brk
    · cases h
      have ev : exT f w .cnt = fun (σ : Sl) (s : S) => R.ok (Fl.ct, σ) s := by funext σ s; simp only [exT]
      rw [ev]
      exact px_cnt
    · cases h
end
end Dv
end

section
/-! Dv22 -/
/-! Dv22: a def of the text. -/
namespace Dv
open PySem PySem.Spec PyProof.Rows
open L2 hiding It

theorem lookup_zip : ∀ {ps : List Str} {us : List Value} {x : Str}, ps.length = us.length → x ∈ ps → ((ps.zip us).lookup x).isNone = false
  | [], _, _, _, h => by cases h
  | p :: ps, [], _, h, _ => by cases h
  | p :: ps, u :: us, x, h, hx => by
    rw [List.zip_cons_cons, List.lookup_cons]
    cases e : x == p with
    | true => rfl
    | false =>
      refine lookup_zip (by simpa using h) ?_
      rcases List.mem_cons.mp hx with q | q
      · rw [q] at e; simp at e
      · exact q
theorem fm_congr {α β : Type} {f g : α → Option β} : ∀ {l : List α}, (∀ x ∈ l, f x = g x) → l.filterMap f = l.filterMap g
  | [], _ => rfl
  | x :: l, h => by rw [List.filterMap_cons, List.filterMap_cons, h x List.mem_cons_self, fm_congr fun y hy => h y (List.mem_cons_of_mem _ hy)]
theorem lookup_all : ∀ {ps : List Str} {us : List Value}, ps.Nodup → ps.length = us.length → (ps.filterMap fun n => ((ps.zip us).lookup n).map fun u => (n, u)) = ps.zip us
  | [], us, _, _ => by simp
  | p :: ps, [], _, h => by cases h
  | p :: ps, u :: us, nd, h => by
    obtain ⟨n1, n2⟩ := List.nodup_cons.mp nd
    have e : (ps.filterMap fun n => (((p :: ps).zip (u :: us)).lookup n).map fun u => (n, u)) = ps.filterMap fun n => ((ps.zip us).lookup n).map fun u => (n, u) := by
      refine fm_congr fun n hn => ?_
      rw [List.zip_cons_cons, List.lookup_cons]
      have : (n == p) = false := by
        cases q : n == p with
        | false => rfl
        | true => exact absurd (by rw [← beq_iff_eq.mp q]; exact hn) n1
      rw [this]
    rw [List.filterMap_cons, e, lookup_all n2 (by simpa using h)]
    simp
theorem bind_plain {x qual : Str} {as : List Arg} {body : List Stmt} {scope : Scope} {kV doc pm cdv ct : Value} {an : Option Addr} {us : List Value} (nd : (as.map (·.arg)).Nodup) (h : us.length = (as.map (·.arg)).length) :
    bindArgs (PySem.W.fnOf x qual ⟨[], as, none, [], [], none, []⟩ body scope .none kV doc pm an cdv ct) ⟨us, []⟩ = pure ((as.map (·.arg)).zip us) := by
  have hm : ((as.map (·.arg)).filter fun n => ((as.map (·.arg)).zip us |>.lookup n).isNone) = [] := List.filter_eq_nil_iff.mpr fun y hy => by rw [lookup_zip h.symm hy]; simp
  have hb := lookup_all nd h.symm
  generalize hp : as.map (·.arg) = ps at *
  unfold bindArgs
  simp only [PySem.W.fnOf, seqItems?]
  simp [h, hm, hp, hb]
  rfl
/-- the parameters of a plain def -/
def plainP (p : Arguments) : Option (List Str) := match p with
  | ⟨[], as, none, [], [], none, []⟩ => if (as.map (·.arg)).Nodup then some (as.map (·.arg)) else none
  | _ => none
theorem plainP_ok {p : Arguments} {ps : List Str} (h : plainP p = some ps) {x qual : Str} {body : List Stmt} {scope : Scope} {kV doc pm cdv ct : Value} {an : Option Addr} {us : List Value} (hl : us.length = ps.length) :
    bindArgs (PySem.W.fnOf x qual p body scope .none kV doc pm an cdv ct) ⟨us, []⟩ = pure (ps.zip us) := by
  unfold plainP at h
  split at h
  · split at h
    · rename_i nd
      cases h
      exact bind_plain nd hl
    · cases h
  · cases h
/-- names: the parameters first; none free -/
def scopeB (N ps : List Str) (sc : Scope) : Bool :=
  (match sc.kind with | .function => true | _ => false) && !sc.isCoroutine && !sc.isGenerator && decide N.Nodup && decide (N.take ps.length = ps) && (ps.all fun x => match sc.names.lookup x with | some .local => true | some .cell => true | _ => false) &&
    sc.names.all fun y => match y.2 with | .free => false | _ => true
theorem scopeB_ok {N ps : List Str} {sc : Scope} (h : scopeB N ps sc = true) : FnScope N ps sc := by
  unfold scopeB at h
  simp only [Bool.and_eq_true, Bool.not_eq_true', decide_eq_true_eq, List.all_eq_true] at h
  obtain ⟨⟨⟨⟨⟨⟨h1, h2⟩, h3⟩, h4⟩, h5⟩, h6⟩, h7⟩ := h
  refine ⟨?_, h2, h3, h4, h5, fun x hx => ?_, fun y hy e => ?_⟩
  · split at h1
    · assumption
    · cases h1
  · have := h6 x hx
    split at this
    · exact .inl ‹_›
    · exact .inr ‹_›
    · cases this
  · have := h7 y hy
    rw [e] at this
    cases this
/-! ### a call's end -/
section
variable {K : PySem.W.Frag} {α α' : Nat → Addr} {s s' : S} {H H' : Hp} {d : D}
theorem gc_sim (m : Sim K α s H) (m' : Sim K α' s' H') (p : Post α s H α' s' H') (t : d.top ≤ s'.h.length) : Sim K α' (gc s.h.length s.k d s') H' ∧ Post α s H α' (gc s.h.length s.k d s') H' ∧ d.top ≤ (gc s.h.length s.k d s').h.length := by
  unfold gc
  split
  · rename_i hh
    have hk : s'.k ≤ s.h.length := hh.2.elim id fun e => by rw [e]; exact m.kle
    have hl : (s'.h.take s.h.length).length = s.h.length := by rw [List.length_take]; exact Nat.min_eq_left p.len
    have get : ∀ i o, (s'.h.take s.h.length)[i]? = some o → s'.h[i]? = some o ∧ i < s.h.length := fun i o e => by
      have hi := (List.getElem?_eq_some_iff.mp e).1
      rw [hl] at hi
      rw [List.getElem?_take_of_lt hi] at e
      exact ⟨e, hi⟩
    refine ⟨⟨fun i j hi hj e => ?_, fun i o e => m'.obj i o (get i o e).1, fun i o e => m'.wf i o (get i o e).1, ?_⟩, ⟨p.frame, p.agree, ?_, fun i h1 h2 => ?_⟩, ?_⟩
    · have hi' : i < s.h.length := by rw [← hl]; exact hi
      have hj' : j < s.h.length := by rw [← hl]; exact hj
      exact m'.inj i j (Nat.lt_of_lt_of_le hi' p.len) (Nat.lt_of_lt_of_le hj' p.len) e
    · show s'.k ≤ (s'.h.take s.h.length).length
      rw [hl]; exact hk
    · show s.h.length ≤ (s'.h.take s.h.length).length
      rw [hl]; exact Nat.le_refl _
    · have : i < (s'.h.take s.h.length).length := h2
      rw [hl] at this
      omega
    · show d.top ≤ (s'.h.take s.h.length).length
      rw [hl]; exact hh.1
  · exact ⟨m', p, t⟩
end
theorem start_slt {K : PySem.W.Frag} {α : Nat → Addr} {s : S} {H : Hp} {ds : List D} {vs : List V} {N : List Str} {nl : Nat} (hn : nl = N.length) (r : RepDs K H α ds vs) (t : D.tops ds ≤ s.h.length) : Slt K α s H (start nl ds) (L2.start N vs) := by
  have hl := r.length
  subst hn
  refine ⟨?_, fun i d e => ?_⟩
  · unfold start L2.start
    simp [hl]
  · unfold start at e
    by_cases hi : i < ds.length
    · rw [List.getElem?_append_left (by simpa using hi), List.getElem?_map] at e
      cases q : ds[i]? with
      | none => rw [q] at e; cases e
      | some d' =>
        rw [q] at e
        cases e
        obtain ⟨v, q1, q2⟩ := r.get q
        refine ⟨Nat.le_trans (top_mem (List.mem_of_getElem? q)) t, v, ?_, q2⟩
        unfold L2.start
        rw [List.getElem?_append_left (by simp [hl]; exact hi), List.getElem?_map, q1]
        rfl
    · rw [List.getElem?_append_right (by simpa using hi), List.getElem?_replicate] at e
      split at e <;> cases e
end Dv
end

section
/-! Dv23 -/
set_option maxHeartbeats 2000000
/-! Dv23: a def of the text does what the evaluator's function does. -/
namespace Dv
open PySem PySem.Spec PyProof.Rows
open L2 hiding It

section
variable {P : Program} {w : World} {K : PySem.W.Frag} {mg : Str → Option Value} {base : Heap} {k : Nat} {fa : Addr} {fd : FuncData} {name qual : Str} {params : Arguments} {body : List Stmt} {scope : Scope} {N ps : List Str} {f : CallT} {wk : Nat} {fn : Fn}
/-- what a body's end is to the caller -/
theorem runB_ends {α : Nat → Addr} {s : S} {H : Hp} {ds : List D} {Q : VK} (hl : ds.length = fn.np) (m : Sim K α s H) (o : Out K E0 α s H Q (runB f wk fn ds s)) :
    OutS K E0 α s H { nx := fun _ H' => Q .non H', rt := Q } (exTs f wk fn.body (start fn.nl ds) s) := by
  unfold runB at o
  rw [if_pos hl] at o
  cases e : exTs f wk fn.body (start fn.nl ds) s with
  | ok p s1 =>
    rw [e] at o
    obtain ⟨fl, σ1⟩ := p
    intro α1 H1 σ2 m1 p1 sl1
    cases fl with
    | nx =>
      obtain ⟨g1, g2, g3⟩ := gc_sim (d := .non) m m1 p1 (by simp [D.top])
      exact o α1 .non H1 g1 g2 rfl g3
    | rt d =>
      intro v r t
      obtain ⟨g1, g2, g3⟩ := gc_sim m m1 p1 t
      exact o α1 v H1 g1 g2 r g3
    | bk => exact o.elim
    | ct => exact o.elim
  | exc e1 s1 => rw [e] at o; exact o
  | bad => rw [e] at o; exact o
theorem fnG_of (F : FunD K name qual params body scope [] [] fa fd) (hp : plainP params = some ps) (hs : scopeB N ps scope = true) (hn : fn.np = ps.length) (hN : fn.nl = N.length) {glo : Str → Option Nat} {blt : Str → Bool} {cst : Str → Option Ke} {n : Nat}
    (hc : cSs (cS n ⟨N, scope, fun _ => true, glo, blt, cst⟩) body = some fn.body)
    (hcall : ∀ x j, glo x = some j → ∃ a, mg x = some (.ref a) ∧ PySem.W.keepIn K (.ref a) = true ∧ FnG P w K mg base k a (f j)) (hblt : ∀ x, blt x = true → mg x = none) (hcst : ∀ x k, cst x = some k → ∃ u, mg x = some u ∧ RelV (kV k) u) :
    FnG P w K mg base (k + 1) fa (runB f wk fn) := by
  have sc := scopeB_ok hs
  intro A outer st H us vs Q hr hg e0 r h
  obtain ⟨α, s, ds, m, rd, td, out⟩ := h
  by_cases hl : ds.length = fn.np
  case neg =>
    unfold runB at out
    rw [if_neg hl] at out
    exact out.elim
  have hvs : vs.length = ps.length := by rw [rd.length, hl, hn]
  have hus : us.length = ps.length := by rw [← r.length, hvs]
  have hb := F.bindsA (ps := ps) (fun kV doc pm an cdv ct us h => plainP_ok hp h) st us hus
  obtain ⟨oc, od, dV, kV, doc, pm, an, cdv, ct, osl, rfl, lk, hcd, -, -⟩ := F.ex
  have kin : K.In st.heap := e0.mod.kin.keeps fun b o e => (e0.bs b o e).1
  have lim : st.heap.NoLimit := e0.mod.nolimit.keeps fun b o e => (e0.bs b o e).1
  have par : ∀ q ∈ ps.zip us, scope.names.lookup q.1 = some .local ∨ (scope.names.lookup q.1 = some .cell ∧ ((cellsFrom (st.heap.objs.size + 1) scope.names []).lookup q.1).isSome = true) := fun q hq =>
    (sc.par q.1 (List.of_mem_zip hq).1).imp id fun z => ⟨z, PySem.W.cellsFrom_some _ _ _ (.inl z)⟩
  refine codeAny_call_function hr.depth (kin _ _ lk) rfl sc.co sc.gen rfl (PySem.W.codeRec_of kin hcd) (hb _ _ _ _ (wpAny_newFunctionEnv_cells sc.kind par fun env he s1 x => ?_))
  subst he
  refine ⟨lim.keeps x.toInCall.keep, codeAny_func ?_⟩
  have I := inv_start (CX := fun _ _ _ _ _ _ => False) (E := E0) sc hr.hd e0 hvs r x
  have I0 := I.wish fun _ _ => False
  have rm := hr.deeper (envOfC qual scope st.heap.objs.size fa cdv)
  have cx : Ctx (cxOf (fun _ _ _ _ _ _ => False) P w K mg base N qual scope fa cdv A outer st H E0).nox ⟨N, scope, fun _ => true, glo, blt, cst⟩ f :=
    ⟨rfl, rfl, sc.kind, rfl, sc.nd, rfl, rfl, hg, (by have q := rm.un; show (A.deeper (envOfC qual scope st.heap.objs.size fa cdv)).units + 200 < cLine; omega), fun x j e => by
      obtain ⟨a, h1, h2, h3⟩ := hcall x j e
      exact ⟨a, k, h1, h2, rm, h3⟩, hblt, hcst⟩
  have pre : tS K E0 (exTs f wk fn.body) { nx := fun _ H' => Q .non H', rt := Q } (L2.start N vs) H := ⟨α, s, start fn.nl ds, m, start_slt hN rd td, runB_ends hl m out⟩
  have body_ok := cSs_ok (w := wk) (cS_ok n cx) hc
  have go := body_ok.run [] s1 (L2.start N vs) H { nx := fun _ H' => Q .non H', rt := Q } I0 pre
  refine wpAny_mono go (fun fl s' q => ?_) fun _ _ q => q.elim
  cases fl with
  | ret u =>
    obtain ⟨v, σ', H', J, rv, q⟩ := q
    exact ⟨v, H', J.os, J.bare, J.base, J.hok, rv, q⟩
  | next =>
    obtain ⟨σ', H', J, q⟩ := q
    exact ⟨.non, H', J.os, J.bare, J.base, J.hok, rfl, q⟩
  | brk =>
    obtain ⟨_, _, _, q⟩ := q
    exact q.elim
  | cont =>
    obtain ⟨_, _, _, q⟩ := q
    exact q.elim
end
end Dv
end

section
/-! Dv24 -/
/-! Dv24: the law's end. -/
namespace Dv
open PySem PySem.Spec PyProof.Rows
open L2 hiding It

section
variable {P : Program} {w : World} {K : PySem.W.Frag} {mg mb : Str → Option Value} {k : Nat} {fa a : Addr} {f : List D → S → R D} {s1 : Shared} {vs : List Value} {ns : List Int}
/-- the script, as the evaluator is given it -/
def script (ns : List Int) : D := .ro (ns.map .int)
abbrev Ended (st : Shared) : Result → Shared → Prop := fun r s' => r = .ok (.ret (.bool true)) ∧ OldK st.heap s'.heap ∧ s'.os = st.os ∧ AllBare s'.gens
/-- an abstract heap that knows at most the script -/
structure Lone (P : Program) (w : World) (K : PySem.W.Frag) (a : Addr) (ns : List Int) (st : Shared) (H : Hp) : Prop where
  ro : RoAt K H a (ns.map V.int)
  ok : HOk P w H st.heap
  one : ∀ b u, H b = some u → b = a ∧ K.lookup a = none ∧ ∃ o xs, u = .frz o (.lst xs)
theorem Lone.run {H : Hp} (L : Lone P w K a ns s1 H) (hin : K.In s1.heap) (hgl : s1.heap.Ns mainGlobals mg) (hbl : s1.heap.Ns builtinsNs mb) (hbb : ∀ x : Str, x ≠ "__name__" → mb x = bootBuiltins x) (hno : s1.heap.NoLimit) (hgen : s1.gens = #[])
    (ha : s1.heap.get? a = some { cls := .type "list", data := .seq vs.toArray }) (hr : Room k callerA) (F : ∀ base : Heap, K.In base → base.Ns mainGlobals mg → FnG P w K mg base k fa f) {s' : S} (hf : f [script ns] ⟨[], 0⟩ = .ok (.bl true) s') :
    codeAny (model P w) callerA (.call (.ref fa) ⟨[.ref a], []⟩) (Ended s1) s1 := by
  have far : ∀ {b : Addr}, b ≠ a → H b = none := fun {b} ne => by
    cases q : H b with
    | none => rfl
    | some u => exact absurd (L.one b u q).1 ne
  have dictFar : ∀ {b : Addr} {o : Obj} {es : Array DictEntry} {ep : Nat}, s1.heap.get? b = some o → o.data = .dict es ep → H b = none := fun {b o es ep} e d => far fun q => by
    rw [q, ha] at e
    cases e
    exact nomatch d
  have nsAt : ∀ {b : Addr} {m : Str → Option Value}, s1.heap.Ns b m → (hidT s1.heap H).Ns b m := fun ⟨o, es, ep, e, d, r⟩ => ⟨o, es, ep, hidT_get e (dictFar e d), d, r⟩
  have inAt : K.In (hidT s1.heap H) := fun b o e => hidT_get (hin b o e) (by
    cases q : H b with
    | none => rfl
    | some u =>
      obtain ⟨e1, e2, _⟩ := L.one b u q
      rw [e1, e2] at e
      cases e)
  obtain ⟨mc, l1, l2⟩ := hno
  have md : Mod K mg (hidT s1.heap H) := ⟨inAt, nsAt hgl, ⟨mb, nsAt hbl, hbb⟩, mc, nsAt l1, l2⟩
  have env : Env0 P w K mg (hidT s1.heap H) callerA [] s1 H := ⟨rfl, md, fun b o e => of_hidT e, Nat.le_of_eq (hidT_size _ _), trivial, fun b hb => absurd hb (by simp [frs]), L.ok, AllBare.of_eq hgen⟩
  have want : rCF K E0 f [.ref a] H fun v _ => v = .bl true := ⟨fun _ => 0, ⟨[], 0⟩, [script ns], ⟨fun i j hi => absurd hi (Nat.not_lt_zero _), fun i o e => by simp at e, fun i o e => by simp at e, Nat.le_refl _⟩,
    RepDs.one ⟨a, ns.map V.int, rfl, L.ro, reps_ints ns⟩, tops_flatl fun x hx => by
      obtain rfl : x = script ns := by simpa using hx
      exact Nat.le_antisymm (by rw [script, D.top]; exact tops_flatl fun y hy => by obtain ⟨i, _, rfl⟩ := List.mem_map.mp hy; simp [D.top]) (Nat.zero_le _), by
      rw [hf]
      intro α' v H' _ _ r _
      simp only [RepD] at r
      exact r⟩
  refine codeAny_mono (F _ inAt (nsAt hgl) callerA [] s1 H [.ref a] [.ref a] _ hr rfl env (.cons rfl .nil) want) fun r s' h => ?_
  match r, h with
  | .ok (.ret u), ⟨v, H', os, bare, un, ok', rv, q⟩ =>
    subst q
    obtain rfl : u = Value.bool true := rv
    refine ⟨rfl, OldK.of_keep fun b o e => ?_, os, bare⟩
    cases q : H b with
    | none => exact un.keep b o e q (fun z => nomatch z) (fun z => nomatch z)
    | some u =>
      obtain ⟨_, _, ob, xs, rfl⟩ := L.one b u q
      have at0 := (L.ok b _ q).1
      have at1 := (ok' b _ (un.frzs b ob _ q)).1
      rw [e] at at0
      cases at0
      exact at1
/-- the law's def, called with the script -/
theorem law_end (hin : K.In s1.heap) (hgl : s1.heap.Ns mainGlobals mg) (hbl : s1.heap.Ns builtinsNs mb) (hbb : ∀ x : Str, x ≠ "__name__" → mb x = bootBuiltins x) (hno : s1.heap.NoLimit) (hgen : s1.gens = #[])
    (ha : s1.heap.get? a = some { cls := .type "list", data := .seq vs.toArray }) (hi : IntsAre vs ns) (hl : ns.length ≤ sizeLine) (hr : Room k callerA) (F : ∀ base : Heap, K.In base → base.Ns mainGlobals mg → FnG P w K mg base k fa f) {s' : S} (hf : f [script ns] ⟨[], 0⟩ = .ok (.bl true) s') :
    codeAny (model P w) callerA (.call (.ref fa) ⟨[.ref a], []⟩) (Ended s1) s1 := by
  have rv := vals_ints hi
  cases lk : K.lookup a with
  | some o =>
    have e := hin a o lk
    rw [ha] at e
    cases e
    exact Lone.run (H := fun _ => none) ⟨.inr ⟨_, vs.toArray, _, lk, rfl, rfl, rfl, by rw [List.size_toArray, hi.length]; exact hl, by simpa using rv⟩, fun b u z => (nomatch z), fun b u z => (nomatch z)⟩ hin hgl hbl hbb hno hgen ha hr F hf
  | none =>
    refine Lone.run (H := fun b => if b = a then some (.frz { cls := .type "list", data := .seq vs.toArray } (.lst (ns.map V.int))) else none) ⟨.inl ⟨_, if_pos rfl⟩, fun b u z => ?_, fun b u z => ?_⟩ hin hgl hbl hbb hno hgen ha hr F hf
    · split at z
      · rename_i e
        cases z
        subst e
        exact ⟨ha, by rw [List.length_map]; exact hl, vs, _, rv, ha⟩
      · cases z
    · split at z
      · rename_i e
        cases z
        exact ⟨e, lk, _, _, rfl⟩
      · cases z
end
end Dv
end

section
/-! Dv25 -/
/-! Dv25: all defs of a text; the law. -/
namespace Dv
open PySem PySem.Spec PyProof.Rows
open L2 hiding It

/-- the names that comprehensions bind -/
def nmE : Nat → Expr → List Str
  | 0, _ => []
  | n + 1, e => match e with
    | .BoolOp _ es _ => es.flatMap (nmE n)
    | .BinOp a _ b _ => nmE n a ++ nmE n b
    | .UnaryOp _ a _ => nmE n a
    | .IfExp c a b _ => nmE n c ++ nmE n a ++ nmE n b
    | .Dict _ vs _ => vs.flatMap (nmE n)
    | .Set es _ _ => es.flatMap (nmE n)
    | .ListComp e gs _ _ => gs.flatMap (fun g => tgNames g.target ++ nmE n g.iter ++ g.ifs.flatMap (nmE n)) ++ nmE n e
    | .SetComp e gs _ _ => gs.flatMap (fun g => tgNames g.target ++ nmE n g.iter ++ g.ifs.flatMap (nmE n)) ++ nmE n e
    | .DictComp k v gs _ _ => gs.flatMap (fun g => tgNames g.target ++ nmE n g.iter ++ g.ifs.flatMap (nmE n)) ++ nmE n k ++ nmE n v
    | .Compare a _ es _ => nmE n a ++ es.flatMap (nmE n)
    | .Call a es _ _ => nmE n a ++ es.flatMap (nmE n)
    | .Attribute a _ _ => nmE n a
    | .Subscript a b _ => nmE n a ++ nmE n b
    | .Starred a _ => nmE n a
    | .List es _ => es.flatMap (nmE n)
    | .Tuple es _ _ => es.flatMap (nmE n)
    | .Slice a b c _ => a.toList.flatMap (nmE n) ++ b.toList.flatMap (nmE n) ++ c.toList.flatMap (nmE n)
    | _ => []
def nmS : Nat → Stmt → List Str
  | 0, _ => []
  | n + 1, st => match st with
    | .Return (some e) _ => nmE n e
    | .Assign ts e _ => ts.flatMap (nmE n) ++ nmE n e
    | .AugAssign t _ e _ => nmE n t ++ nmE n e
    | .For _ e a b _ => nmE n e ++ a.flatMap (nmS n) ++ b.flatMap (nmS n)
    | .While e a b _ => nmE n e ++ a.flatMap (nmS n) ++ b.flatMap (nmS n)
    | .If e a b _ => nmE n e ++ a.flatMap (nmS n) ++ b.flatMap (nmS n)
    | .Expr e _ => nmE n e
    | _ => []
def locals (sc : Scope) : List Str := sc.names.filterMap fun y => match y.2 with
  | .local => some y.1
  | .cell => some y.1
  | _ => none
def namesOf (d : He.DefD) (ps : List Str) : List Str := (ps ++ locals d.scope ++ d.body.flatMap (nmS 40)).eraseDups
def gOf (fn : List He.DefD) (blts : List Str) (cs : List (Str × Ke)) (N : List Str) (d : He.DefD) : G := ⟨N, d.scope, fun _ => true, fun x => fn.findIdx? fun e => e.name == x, fun x => blts.contains x, fun x => (cs.find? fun p => p.1 == x).map (·.2)⟩
def compD (fn : List He.DefD) (blts : List Str) (cs : List (Str × Ke)) (d : He.DefD) : Option Fn := match plainP d.params with
  | some ps => if scopeB (namesOf d ps) ps d.scope && decide (d.at_ = (d.name, none)) && d.dfl.isEmpty && d.kwd.isEmpty then match cSs (cS 40 (gOf fn blts cs (namesOf d ps) d)) d.body with
      | some b => some ⟨ps.length, (namesOf d ps).length, b⟩
      | none => none
    else none
  | none => none
def compAll (fn : List He.DefD) (blts : List Str) (cs : List (Str × Ke)) : List He.DefD → Option (List Fn)
  | [] => some []
  | d :: l => match compD fn blts cs d, compAll fn blts cs l with
    | some g, some r => some (g :: r)
    | _, _ => none
theorem compAll_get {fn : List He.DefD} {blts : List Str} {cs : List (Str × Ke)} : ∀ {l : List He.DefD} {Γ : List Fn} {i : Nat} {d : He.DefD}, compAll fn blts cs l = some Γ → l[i]? = some d → ∃ g, Γ[i]? = some g ∧ compD fn blts cs d = some g
  | [], _, i, d, _, h => by simp at h
  | e :: l, Γ, i, d, h, hi => by
    unfold compAll at h
    split at h
    · rename_i g r h1 h2
      cases h
      cases i with
      | zero => cases hi; exact ⟨g, rfl, h1⟩
      | succ i =>
        obtain ⟨g2, q1, q2⟩ := compAll_get (l := l) (Γ := r) (i := i) h2 (by simpa using hi)
        exact ⟨g2, by simpa using q1, q2⟩
    · cases h
def faOf (p : Str × Ke) : He.Fa := match p.2 with
  | .inl i => .int p.1 i
  | .inr z => .str p.1 z
def factsOf (fn : List He.DefD) (blts : List Str) (cs : List (Str × Ke)) : List He.Fa := fn.map (fun d => .glo d.name) ++ (blts.map .free ++ cs.map faOf)
section
variable {P : Program} {w : World} {K : PySem.W.Frag} {mg : Str → Option Value} {base : Heap} {fn : List He.DefD} {blts : List Str} {cs : List (Str × Ke)} {Γ : List Fn} {wk : Nat}
theorem cst_ok (hin : K.In base) (hgl : base.Ns mainGlobals mg) (C : He.SaysD (factsOf fn blts cs) fn K) {x : Str} {k : Ke} (e : (cs.find? fun p => p.1 == x).map (·.2) = some k) : ∃ u, mg x = some u ∧ RelV (kV k) u := by
  cases q : cs.find? fun p => p.1 == x with
  | none => rw [q] at e; cases e
  | some p =>
    rw [q] at e
    cases e
    have hx : p.1 = x := by have := List.find?_some q; exact beq_iff_eq.mp this
    have hm := C.facts (f := faOf p) (List.mem_append_right _ (List.mem_append_right _ (List.mem_map.mpr ⟨p, List.mem_of_find?_eq_some q, rfl⟩)))
    subst hx
    obtain ⟨y, k⟩ := p
    cases k with
    | inl i =>
      obtain ⟨t, ht⟩ := He.int_ok hin hgl hm
      exact ⟨_, ht, t, rfl⟩
    | inr z =>
      obtain ⟨t, ht⟩ := He.str_ok hin hgl hm
      exact ⟨_, ht, t, rfl⟩
theorem all_ok2 (hin : K.In base) (hgl : base.Ns mainGlobals mg) (C : He.SaysD (factsOf fn blts cs) fn K) (hc : compAll fn blts cs fn = some Γ) : ∀ (n i : Nat) (d : He.DefD), fn[i]? = some d → FnG P w K mg base n (He.ga K d.name) (callF Γ wk n i)
  | 0, i, d, hd => fun A outer st H us vs Q hr hg e0 r ⟨α, s, ds, m, rd, td, out⟩ => out.elim
  | n + 1, i, d, hd => by
    obtain ⟨g, hg, hcd⟩ := compAll_get hc hd
    obtain ⟨fd, F⟩ := C.def_ i hd
    unfold compD at hcd
    split at hcd
    · rename_i ps hp
      split at hcd
      · rename_i hh
        simp only [Bool.and_eq_true, decide_eq_true_eq, List.isEmpty_iff] at hh
        obtain ⟨⟨⟨h1, h2⟩, h3⟩, h4⟩ := hh
        split at hcd
        · rename_i b hb
          cases hcd
          have e1 : d.dvs K = [] := by unfold He.DefD.dvs; rw [h3]; rfl
          have e2 : d.kws K = [] := by unfold He.DefD.kws; rw [h4]; rfl
          have e3 : He.fAd K d.at_ = He.ga K d.name := by rw [h2]; rfl
          rw [e1, e2, e3] at F
          have e4 : callF Γ wk (n + 1) i = runB (callF Γ wk n) wk ⟨ps.length, (namesOf d ps).length, b⟩ := by
            funext ds s
            simp only [callF, hg]
          rw [e4]
          refine fnG_of F hp h1 rfl rfl hb (fun x j e => ?_) (fun x hx => ?_) fun x k e => ?_
          · obtain ⟨hj, hx, _⟩ := List.findIdx?_eq_some_iff_getElem.mp e
            have hj' : fn[j]? = some fn[j] := List.getElem?_eq_getElem hj
            have ex : fn[j].name = x := beq_iff_eq.mp hx
            have ok := all_ok2 hin hgl C hc n j fn[j] hj'
            rw [ex] at ok
            obtain ⟨fd2, F2⟩ := C.def_ j hj'
            obtain ⟨g2, hg2, hcd2⟩ := compAll_get hc hj'
            have at2 : He.fAd K fn[j].at_ = He.ga K x := by
              unfold compD at hcd2
              split at hcd2
              · split at hcd2
                · rename_i hh2
                  simp only [Bool.and_eq_true, decide_eq_true_eq, List.isEmpty_iff] at hh2
                  rw [hh2.1.1.2, ← ex]
                  rfl
                · cases hcd2
              · cases hcd2
            refine ⟨He.ga K x, He.glo_ok hin hgl (C.facts (f := .glo x) ?_), by rw [← at2]; exact F2.kp, ok⟩
            exact List.mem_append_left _ (List.mem_map.mpr ⟨fn[j], List.getElem_mem hj, by rw [ex]⟩)
          · exact He.free_ok hin hgl (C.facts (f := .free x) (List.mem_append_right _ (List.mem_append_left _ (List.mem_map.mpr ⟨x, List.contains_iff_mem.mp hx, rfl⟩))))
          · exact cst_ok hin hgl C e
        · cases hcd
      · cases hcd
    · cases hcd
end
/-- a law: what its evaluator's function says of every script -/
theorem walk_end {l : PySem.W.OpenLaw} {n k i : Nat} {q : Program} {loose : List Str} {XP : (Str → Option Value) → Heap → Prop} {YP : World → Heap → Prop} {d : DefRec} {fn : List He.DefD} {dd : He.DefD} {blts : List Str} {cs : List (Str × Ke)} {Γ : List Fn}
    (hn : l.most = some n) (hn2 : n ≤ sizeLine) (hdf : d.params.defaults = []) (hr : Room k callerA) (hY : ∀ (w : World) (h : Heap), YP w h → ∃ K : PySem.W.Frag, K.In h ∧ He.SaysD (factsOf fn blts cs) fn K)
    (hc : compAll fn blts cs fn = some Γ) (hi : fn[i]? = some dd) (hdd : dd.name = d.name) (law : ∀ ns : List Int, ns.length ≤ n → (∀ z ∈ ns, Builtin.Int.intBits z ≤ 1048576) → ∃ wk s', callF Γ wk k i [script ns] ⟨[], 0⟩ = .ok (.bl true) s') :
    PySem.W.WalkO q loose XP YP l.row.toRowW d [] (fun f vs => PySem.call f vs) := by
  refine Att.attach_callB hn hdf fun w s0 s1 mg mb fa o pm cd doc a vs ns gr y ho hd hcd hmg hobj hints hlen hbits hgen => ?_
  obtain ⟨K, hin, C⟩ := hY w _ y
  obtain ⟨wk, s', hf⟩ := law ns hlen hbits
  have hga : fa = He.ga K d.name := by
    have h1 := He.glo_ok hin gr.T.g (C.facts (f := .glo d.name) (List.mem_append_left _ (List.mem_map.mpr ⟨dd, List.mem_of_getElem? hi, by rw [hdd]⟩)))
    rw [hmg] at h1
    cases h1
    rfl
  subst hga
  exact law_end hin gr.T.g gr.T.b gr.T.builtins gr.T.nolimit hgen hobj hints (Nat.le_trans hlen hn2) hr (fun base hb hg => by
    have := all_ok2 (P := l.prog) (w := w) (wk := wk) hb hg C hc k i dd hi
    rw [hdd] at this
    exact this) hf
end Dv
end

section
/-! Va1 -/
/-! Va1: the evaluator over plain values: lists and dicts are values, no heap. -/
namespace Dv
open PySem PySem.W

inductive Va where
  | non | bl (b : Bool) | int (i : Int) | str (s : Str) | tup (xs : List Va) | list (xs : List Va) | dict (kvs : List (Ke × Va)) | fn (k : Nat) | ro (xs : List Va)
inductive VEx where
  | own (c : Nat) (fs : List (Str × Va))
abbrev Ev := List (Option Va)
inductive VR (α : Type) where
  | ok (a : α) (ρ : Ev) | exc (e : VEx) (ρ : Ev) | bad
def VR.bind {α β : Type} (r : VR α) (f : α → Ev → VR β) : VR β := match r with
  | .ok a ρ => f a ρ
  | .exc e ρ => .exc e ρ
  | .bad => .bad
@[simp] theorem VR.bind_ok {α β : Type} (a : α) (ρ : Ev) (f : α → Ev → VR β) : VR.bind (.ok a ρ) f = f a ρ := rfl
@[simp] theorem VR.bind_exc {α β : Type} (e : VEx) (ρ : Ev) (f : α → Ev → VR β) : VR.bind (.exc e ρ) f = .exc e ρ := rfl
@[simp] theorem VR.bind_bad {α β : Type} (f : α → Ev → VR β) : VR.bind .bad f = .bad := rfl
def VR.of {α : Type} (o : Option α) (ρ : Ev) : VR α := match o with
  | some a => .ok a ρ
  | none => .bad
@[simp] theorem VR.of_some {α : Type} (a : α) (ρ : Ev) : VR.of (some a) ρ = .ok a ρ := rfl
@[simp] theorem VR.of_none {α : Type} (ρ : Ev) : VR.of (none : Option α) ρ = .bad := rfl
inductive VC where
  | ok (v : Va) (outs : List Va) | exc (e : VEx) (outs : List Va) | bad
/-! ### data -/
mutual
def D.va : D → Option Va
  | .non => some .non
  | .bl b => some (.bl b)
  | .int i => some (.int i)
  | .str s => some (.str s)
  | .tup xs => match D.vas xs with
    | some vs => some (.tup vs)
    | none => none
  | .ref _ => none
  | .fn k => some (.fn k)
  | .ro _ => none
def D.vas : List D → Option (List Va)
  | [] => some []
  | x :: r => match D.va x, D.vas r with
    | some v, some vs => some (v :: vs)
    | _, _ => none
end
mutual
/-- as data, lists at most n deep -/
def Va.py : Va → Nat → Option PyData
  | .non, _ => some .none
  | .bl b, _ => some (.bool b)
  | .int i, _ => some (.int i)
  | .str s, _ => some (.str s)
  | .tup xs, n => (Va.pys xs n).map .tuple
  | .list _, 0 => none
  | .list xs, n + 1 => (Va.pys xs n).map .list
  | .dict _, _ => none
  | .fn _, _ => none
  | .ro _, _ => none
def Va.pys : List Va → Nat → Option (List PyData)
  | [], _ => some []
  | x :: r, n => match Va.py x n, Va.pys r n with
    | some a, some b => some (a :: b)
    | _, _ => none
end
mutual
/-- without lists and dicts -/
def Va.flat : Va → Bool
  | .tup xs => Va.flats xs
  | .ro xs => Va.flats xs
  | .list _ => false
  | .dict _ => false
  | _ => true
def Va.flats : List Va → Bool
  | [] => true
  | x :: r => x.flat && Va.flats r
end
/-! ### operations -/
def vtruthy : Va → Option Bool
  | .non => some false
  | .bl b => some b
  | .int i => some (i != 0)
  | .str x => some (x.length != 0)
  | .tup xs => some (!xs.isEmpty)
  | .list xs => some (!xs.isEmpty)
  | _ => none
def vadd : Va → Va → Option Va
  | .int i, .int j => some (.int (i + j))
  | .str a, .str b => if a.length + b.length ≤ sizeLine then some (.str (a ++ b)) else none
  | .tup a, .tup b => if a.length + b.length ≤ sizeLine then some (.tup (a ++ b)) else none
  | .list a, .list b => if a.length + b.length ≤ sizeLine then some (.list (a ++ b)) else none
  | _, _ => none
def vsub : Va → Va → Option Va
  | .int i, .int j => some (.int (i - j))
  | _, _ => none
def vmul : Va → Va → Option Va
  | .int i, .int j => if (-two64 < i ∧ i < two64) ∨ (-two64 < j ∧ j < two64) then some (.int (i * j)) else none
  | .tup xs, .int k => if xs ≠ [] ∧ 2 ≤ k ∧ k ≤ 1000 ∧ xs.length ≤ 1000 then some (.tup (List.replicate k.toNat xs).flatten) else none
  | .list xs, .int k => if 2 ≤ k ∧ k ≤ 1000 ∧ xs.length ≤ 1000 ∧ xs ≠ [] then some (.list (List.replicate k.toNat xs).flatten) else none
  | _, _ => none
def vmod : Va → Va → Option Va
  | .int i, .int j => if 0 < j then some (.int (i % j)) else none
  | _, _ => none
def vfdiv : Va → Va → Option Va
  | .int i, .int j => if 0 < j ∧ j < 1073741824 then some (.int (i / j)) else none
  | _, _ => none
def vpow : Va → Va → Option Va
  | .int i, .int j => if 0 ≤ j ∧ j ≤ 1000 ∧ -two64 < i ∧ i < two64 then some (.int (i ^ j.toNat)) else none
  | _, _ => none
def vbin (o : BO) : Va → Va → Option Va := match o with
  | .add => vadd
  | .sub => vsub
  | .mul => vmul
  | .mod => vmod
  | .fdiv => vfdiv
  | .pow => vpow
def veq (x y : Va) : Option Bool := match x.py 5, y.py 5 with
  | some a, some b => if SeqAt.shaped a = true ∧ SeqAt.shaped b = true then some (PyData.eqv a b) else none
  | _, _ => none
def vlt (x y : Va) : Option Bool := match x.py 5, y.py 5 with
  | some a, some b => if alike a b = true ∧ nn a = true ∧ SeqAt.shaped a = true ∧ SeqAt.shaped b = true then some (dataLt a b) else none
  | _, _ => none
def vkey? : Va → Option Ke
  | .int i => some (.inl i)
  | .str x => some (.inr x)
  | _ => none
def vkeyD : Ke → Va
  | .inl i => .int i
  | .inr x => .str x
def vget (kvs : List (Ke × Va)) (k : Ke) : Option Va := (kvs.find? fun p => decide (p.1 = k)).map (·.2)
def vput (kvs : List (Ke × Va)) (k : Ke) (d : Va) : List (Ke × Va) :=
  if (kvs.any fun p => decide (p.1 = k)) = true then kvs.map (fun p => if p.1 = k then (p.1, d) else p) else kvs ++ [(k, d)]
def vin (x y : Va) : Option Bool := match y with
  | .str z => match x with
    | .str a => some (strIn a z)
    | _ => none
  | .tup ys => match x.py 5, Va.pys ys 5 with
    | some a, some bs => inAll a bs
    | _, _ => none
  | .list ys => match x.py 5, Va.pys ys 5 with
    | some a, some bs => inAll a bs
    | _, _ => none
  | .dict kvs => (vkey? x).map fun k => (vget kvs k).isSome
  | _ => none
def vis (x y : Va) : Option Bool := match x, y with
  | .bl a, .bl b => some (decide (a = b))
  | .non, .non => some true
  | _, .non => some false
  | _, _ => none
def vcmp (o : CO) (x y : Va) : Option Bool := match o with
  | .eq => veq x y
  | .ne => (veq x y).map (!·)
  | .lt => vlt x y
  | .le => (vlt y x).map (!·)
  | .gt => vlt y x
  | .ge => (vlt x y).map (!·)
  | .in_ => vin x y
  | .nin => (vin x y).map (!·)
  | .is_ => vis x y
  | .isn => (vis x y).map (!·)
def vidx (x i : Va) : Option Va := match x, i with
  | .tup xs, .int k => L2.atI xs k
  | .str z, .int k => (L2.atI z.cps.toList k).map fun c => .str ⟨#[c]⟩
  | .list xs, .int k => L2.atI xs k
  | .dict kvs, i => (vkey? i).bind (vget kvs)
  | _, _ => none
def vslice (x : Va) (l u : Option Int) : Option Va := match x with
  | .tup xs => some (.tup (cut xs l u))
  | .str z => some (.str ⟨(cut z.cps.toList l u).toArray⟩)
  | .list xs => some (.list (cut xs l u))
  | .ro xs => some (.list (cut xs l u))
  | _ => none
def vbnd : Va → Option (Option Int)
  | .non => some none
  | .int i => some (some i)
  | _ => none
def vslc (x l u : Va) : Option Va := match vbnd l, vbnd u with
  | some l, some u => vslice x l u
  | _, _ => none
/-! ### built-ins -/
def vitems : Va → Option (List Va)
  | .tup xs => some xs
  | .list xs => some xs
  | .dict kvs => if (kvs.all fun p => keySz p.1) = true then some (kvs.map fun p => vkeyD p.1) else none
  | _ => none
def vints? : List Va → Option (List Int)
  | [] => some []
  | .int i :: r => (vints? r).map (i :: ·)
  | _ :: _ => none
def vbools? : List Va → Option (List Bool)
  | [] => some []
  | .bl b :: r => (vbools? r).map (b :: ·)
  | _ :: _ => none
def vsort (vs : List Va) : Option (List Va) := match Va.pys vs 5 with
  | some ps => if sortable ps = true then some ((vs.zip ps).mergeSort (dataLe false (·.2)) |>.map (·.1)) else none
  | none => none
def vkeys? : List Va → Option (List Ke)
  | [] => some []
  | d :: r => match vkey? d, vkeys? r with
    | some k, some l => some (k :: l)
    | _, _ => none
def vlen : List Va → Option Va
  | [.tup xs] => some (.int xs.length)
  | [.str x] => some (.int x.length)
  | [.list xs] => some (.int xs.length)
  | [.dict kvs] => some (.int kvs.length)
  | _ => none
def vsum : List Va → Option Va
  | [.list xs] => (vints? xs).map fun ns => .int ns.sum
  | _ => none
def vany : List Va → Option Va
  | [.list xs] => (vbools? xs).map fun bs => .bl (bs.any id)
  | _ => none
def vall : List Va → Option Va
  | [.list xs] => (vbools? xs).map fun bs => .bl (bs.all id)
  | _ => none
def vtuple : List Va → Option Va
  | [.tup xs] => some (.tup xs)
  | [.list xs] => some (.tup xs)
  | _ => none
def vlist : List Va → Option Va
  | [.tup xs] => some (.list xs)
  | [.list xs] => some (.list xs)
  | _ => none
def vsorted : List Va → Option Va
  | [d] => match vitems d with
    | some xs => (vsort xs).map .list
    | none => none
  | _ => none
def vsset : List Va → Option Va
  | [.tup xs] => match vkeys? xs with
    | some ks => if oneKind ks = true ∧ ks.all keyOk = true ∧ ks.length < 4000 then some (.list (((met ks ks.length).mergeSort keyLe).map vkeyD)) else none
    | none => none
  | [.list xs] => match vkeys? xs with
    | some ks => if oneKind ks = true ∧ ks.all keyOk = true ∧ ks.length < 4000 then some (.list (((met ks ks.length).mergeSort keyLe).map vkeyD)) else none
    | none => none
  | _ => none
def vrepr : List Va → Option Va
  | [d] => match d.py 5 with
    | some p => if p.showable = true ∧ p.shown.length ≤ sizeLine ∧ p.depth ≤ 64 then some (.str p.shown) else none
    | none => none
  | _ => none
def vkind : Va → Option (Option Ki)
  | .non => some none
  | .bl _ => some (some .bool)
  | .int _ => some (some .int)
  | .str _ => some (some .str)
  | .tup _ => some (some .tuple)
  | .list _ => some (some .list)
  | .dict _ => some none
  | _ => none
def vinst (k : Ki) : List Va → Option Va
  | [x] => (vkind x).map fun j => .bl (kiOf k j)
  | _ => none
def vofPy : PyData → Option Va
  | .none => some .non
  | .bool b => some (.bl b)
  | .int i => some (.int i)
  | .str s => some (.str s)
  | .tuple xs => (vofPys xs).map .tup
  | _ => none
where vofPys : List PyData → Option (List Va)
  | [] => some []
  | x :: r => match vofPy x, vofPys r with
    | some a, some b => some (a :: b)
    | _, _ => none
def vseq : Va → Option (List Va)
  | .tup xs => some xs
  | .list xs => some xs
  | _ => none
def vrev : List Va → Option Va
  | [.tup xs] => some (.tup xs.reverse)
  | [.list xs] => some (.list xs.reverse)
  | _ => none
def vrev0 : List Va → Option Va
  | [.tup xs] => some (.tup (xs.drop 1).reverse)
  | _ => none
def vlset : List Va → Option Va
  | [x] => match vseq x with
    | some xs => match vkeys? xs with
      | some ks => if ks.length < 4000 then some (.int (met ks ks.length).length) else none
      | none => none
    | none => none
  | _ => none
def vbest (mx : Bool) : List PyData → Option Va
  | [] => none
  | p :: ps => if sortable (p :: ps) = true then vofPy (if mx then PySem.W.maxD p ps else PySem.W.minD p ps) else none
def vmm (mx : Bool) : List Va → Option Va
  | [x] => match vseq x with
    | some xs => match Va.pys xs 5 with
      | some ps => vbest mx ps
      | none => none
    | none => none
  | _ => none
def vmmd (mx : Bool) : List Va → Option Va
  | [x, .int k] => match vseq x with
    | some xs => match Va.pys xs 5 with
      | some [] => some (.int k)
      | some ps => vbest mx ps
      | none => none
    | none => none
  | _ => none
def vmm2 (mx : Bool) : List Va → Option Va
  | [.int i, .int j] => some (.int (if mx then (if j > i then j else i) else (if j < i then j else i)))
  | _ => none
def vtrange : List Va → Option Va
  | [.int a, .int b] => if -(2 ^ 62) ≤ a ∧ a < 2 ^ 62 ∧ -(2 ^ 62) ≤ b ∧ b < 2 ^ 62 ∧ (b - a).toNat ≤ 2 ^ 24 then some (.tup ((List.range (b - a).toNat).map fun i => .int (a + (i : Nat)))) else none
  | _ => none
def vbi (b : Bi) : List Va → Option Va := match b with
  | .len => vlen
  | .sum => vsum
  | .any => vany
  | .all => vall
  | .tuple => vtuple
  | .list => vlist
  | .sorted => vsorted
  | .repr => vrepr
  | .sset => vsset
  | .inst k => vinst k
  | .rev => vrev
  | .rev0 => vrev0
  | .lset => vlset
  | .mm mx => vmm mx
  | .mmd mx => vmmd mx
  | .mm2 mx => vmm2 mx
  | .trange => vtrange
/-! methods that change nothing -/
def vindex (x : Va) (ds : List Va) : Option Va := match ds with
  | [y] => match vseq x with
    | some xs => match Va.pys xs 5, y.py 5 with
      | some ps, some p => (placeP ps p).map fun j => .int (j : Nat)
      | _, _ => none
    | none => none
  | _ => none
def vmrOk (m : Mr) (x : Va) : Bool := match m with
  | .index => (vseq x).isSome
def vmr (m : Mr) : Va → List Va → Option Va := match m with
  | .index => vindex
/-- a list's methods: the answer, the list behind -/
def vme (m : Me) (xs : List Va) (ds : List Va) : Option (Va × List Va) := match m with
  | .append => match ds with
    | [d] => if xs.length < sizeLine then some (.non, xs ++ [d]) else none
    | _ => none
  | .extend => match ds with
    | [.list ys] => if xs.length + ys.length ≤ sizeLine then some (.non, xs ++ ys) else none
    | _ => none
  | .pop => match ds with
    | [] => match xs[xs.length - 1]? with
      | some d => some (d, xs.dropLast)
      | none => none
    | [.int i] => match seqIndex? i xs.length with
      | some k => match xs[k]? with
        | some d => if -(2 ^ 63) ≤ i ∧ i < 2 ^ 63 then some (d, xs.eraseIdx k) else none
        | none => none
      | none => none
    | _ => none
/-- o[i] = d: o behind -/
def vset (o i d : Va) : Option Va := match o with
  | .list xs => match i with
    | .int k => match L2.ixN xs.length k with
      | some j => some (.list (xs.set j d))
      | none => none
    | _ => none
  | .dict kvs => match vkey? i with
    | some k => if kvs.length < sizeLine then some (.dict (vput kvs k d)) else none
    | none => none
  | _ => none
/-! ### the language -/
inductive VFl where
  | nx | rt (v : Va) | bk | ct
def Tg.setV (t : Tg) (v : Va) (ρ : Ev) : Option Ev := match t with
  | .nm i => some (ρ.set i (some v))
  | .tp is => match v with
    | .tup xs => if xs.length = is.length then some ((is.zip xs).foldl (fun ρ p => ρ.set p.1 (some p.2)) ρ) else none
    | _ => none
def Tg.ixs' : Tg → List Nat
  | .nm i => [i]
  | .tp is => is
/-- the slots is of ρ0, back into ρ -/
def back (is : List Nat) (ρ0 ρ : Ev) : Ev := is.foldl (fun ρ i => match ρ0[i]? with
  | some x => ρ.set i x
  | none => ρ) ρ
def VR.scope {α : Type} (r : VR α) (is : List Nat) (ρ0 : Ev) : VR α := match r with
  | .ok a ρ => .ok a (back is ρ0 ρ)
  | .exc e ρ => .exc e (back is ρ0 ρ)
  | .bad => .bad
def vrng (vs : List Va) : Option (List Va) := match vs with
  | [.int n] => if -(2 ^ 62) ≤ n ∧ n < 2 ^ 62 then some ((List.range n.toNat).map fun i => .int ((0 : Int) + (i : Nat))) else none
  | [.int a, .int b] => if -(2 ^ 62) ≤ a ∧ a < 2 ^ 62 ∧ -(2 ^ 62) ≤ b ∧ b < 2 ^ 62 then some ((List.range (b - a).toNat).map fun i => .int (a + (i : Nat))) else none
  | _ => none
def numbered : Nat → List Va → List Va
  | _, [] => []
  | i, x :: r => .tup [.int i, x] :: numbered (i + 1) r
def venum : Va → Option (List Va)
  | .tup xs => some (numbered 0 xs)
  | .list xs => some (numbered 0 xs)
  | _ => none
def vitOf : Va → Option (List Va)
  | .tup xs => some xs
  | .ro xs => some xs
  | .str z => some (z.cps.toList.map fun c => .str ⟨#[c]⟩)
  | .list xs => some xs
  | _ => none
def lcV (b : Va → Ev → VR (Option Va)) : List Va → List Va → Ev → VR (List Va)
  | [], acc, ρ => .ok acc ρ
  | d :: r, acc, ρ => (b d ρ).bind fun y ρ => match y with
    | some y => if acc.length < sizeLine then lcV b r (acc ++ [y]) ρ else .bad
    | none => lcV b r acc ρ
def dcV (b : Va → Ev → VR (Option (Va × Va))) : List Va → List (Ke × Va) → Ev → VR (List (Ke × Va))
  | [], acc, ρ => .ok acc ρ
  | d :: r, acc, ρ => (b d ρ).bind fun y ρ => match y with
    | some p => match vkey? p.1 with
      | some k => if acc.length < sizeLine then dcV b r (vput acc k p.2) ρ else .bad
      | none => .bad
    | none => dcV b r acc ρ
def forV (b : Va → Ev → VR VFl) : List Va → Ev → VR VFl
  | [], ρ => .ok .nx ρ
  | d :: r, ρ => (b d ρ).bind fun fl ρ => match fl with
    | .nx => forV b r ρ
    | .ct => forV b r ρ
    | .bk => .ok .nx ρ
    | .rt v => .ok (.rt v) ρ
def whlV (c : Ev → VR Bool) (b : Ev → VR VFl) : Nat → Ev → VR VFl
  | 0, _ => .bad
  | n + 1, ρ => (c ρ).bind fun t ρ => match t with
    | false => .ok .nx ρ
    | true => (b ρ).bind fun fl ρ => match fl with
      | .nx => whlV c b n ρ
      | .ct => whlV c b n ρ
      | .bk => .ok .nx ρ
      | .rt v => .ok (.rt v) ρ
abbrev VCall := Nat → List Va → VC
def vtest (v : Va) (ρ : Ev) : VR Bool := VR.of (vtruthy v) ρ
def vbool (v : Va) (f : Bool → VR Va) : VR Va := match vtruthy v with
  | some b => f b
  | none => .bad
/-- the objects handed over, as they stand at the call -/
def vfront : List Nat → List C → List Va → Ev → Option (List Va)
  | [], _, ds, _ => some ds
  | p :: ps, es, ds, ρ => match es[p]? with
    | some (.loc i) => match ρ[i]? with
      | some (some v) => vfront ps es (ds.set p v) ρ
      | _ => none
    | _ => none
/-- what a call has made of the objects handed over -/
def vback : List Nat → List C → List Va → Ev → Option Ev
  | [], _, [], ρ => some ρ
  | p :: ps, es, v :: vs, ρ => match es[p]? with
    | some (.loc i) => vback ps es vs (ρ.set i (some v))
    | _ => none
  | _, _, _, _ => none
def afterCall (io : List Nat) (es : List C) (ρ : Ev) : VC → VR Va
  | .ok v outs => match vback io es outs ρ with
    | some ρ' => .ok v ρ'
    | none => .bad
  | .exc e outs => match vback io es outs ρ with
    | some ρ' => .exc e ρ'
    | none => .bad
  | .bad => .bad
def doCall (g : VCall) (k : Nat) (io : List Nat) (es : List C) (vs : List Va) (ρ : Ev) : VR Va := match vfront io es vs ρ with
  | some vs' => afterCall io es ρ (g k vs')
  | none => .bad
mutual
def vE (f : VCall) (io : Nat → List Nat) (w : Nat) : C → Ev → VR Va
  | .loc i, ρ => match ρ[i]? with
    | some (some d) => .ok d ρ
    | _ => .bad
  | .cst d, ρ => VR.of d.va ρ
  | .tup es, ρ => (vEs f io w es ρ).bind fun ds ρ => .ok (.tup ds) ρ
  | .lst es, ρ => (vEs f io w es ρ).bind fun ds ρ => .ok (.list ds) ρ
  | .dct ks es, ρ => (vEs f io w es ρ).bind fun ds ρ => if ks.length = ds.length ∧ ks.length ≤ 15 ∧ ks.Nodup then .ok (.dict (ks.zip ds)) ρ else .bad
  | .bin o a b, ρ => (vE f io w a ρ).bind fun x ρ => (vE f io w b ρ).bind fun y ρ => VR.of (vbin o x y) ρ
  | .neg a, ρ => (vE f io w a ρ).bind fun x ρ => match x with
    | .int i => .ok (.int (-i)) ρ
    | _ => .bad
  | .not a, ρ => (vE f io w a ρ).bind fun x ρ => (vtest x ρ).bind fun b ρ => .ok (.bl (!b)) ρ
  | .and es, ρ => vAnd f io w es ρ
  | .or es, ρ => vOr f io w es ρ
  | .ife c a b, ρ => (vE f io w c ρ).bind fun x ρ => (vtest x ρ).bind fun t ρ => match t with
    | true => vE f io w a ρ
    | false => vE f io w b ρ
  | .cmp o a b, ρ => (vE f io w a ρ).bind fun x ρ => (vE f io w b ρ).bind fun y ρ => (VR.of (vcmp o x y) ρ).bind fun t ρ => .ok (.bl t) ρ
  | .chain o1 o2 a b c, ρ => (vE f io w a ρ).bind fun x ρ => (vE f io w b ρ).bind fun y ρ => (VR.of (vcmp o1 x y) ρ).bind fun t ρ => match t with
    | true => (vE f io w c ρ).bind fun z ρ => (VR.of (vcmp o2 y z) ρ).bind fun t ρ => .ok (.bl t) ρ
    | false => .ok (.bl false) ρ
  | .ix a b, ρ => (vE f io w a ρ).bind fun x ρ => (vE f io w b ρ).bind fun y ρ => VR.of (vidx x y) ρ
  | .slc a lo hi, ρ => (vE f io w a ρ).bind fun x ρ => (vE f io w lo ρ).bind fun l ρ => (vE f io w hi ρ).bind fun u ρ => VR.of (vslc x l u) ρ
  | .bnd e, ρ => (vE f io w e ρ).bind fun x ρ => match x with
    | .int i => .ok (.int i) ρ
    | _ => .bad
  | .call k es, ρ => (vEs f io w es ρ).bind fun ds ρ => doCall f k (io k) es ds ρ
  | .bi b es, ρ => (vEs f io w es ρ).bind fun ds ρ => VR.of (vbi b ds) ρ
  | .me m o es, ρ => match o with
    | .loc i => match ρ[i]? with
      | some (some (.list _)) => (vEs f io w es ρ).bind fun ds ρ => match ρ[i]? with
        | some (some (.list xs)) => match vme m xs ds with
          | some (v, ys) => .ok v (ρ.set i (some (.list ys)))
          | none => .bad
        | _ => .bad
      | _ => .bad
    | _ => .bad
  | .met m o es, ρ => (vE f io w o ρ).bind fun x ρ => match vmrOk m x with
    | true => (vEs f io w es ρ).bind fun ds ρ => VR.of (vmr m x ds) ρ
    | false => .bad
  | .lc e t it cs, ρ => (vE f io w it ρ).bind fun x ρ => (VR.of (vitOf x) ρ).bind fun ds ρ => if ds.length < w then (lcV (fun d ρ0 => match t.setV d ρ0 with
      | some ρ => ((vTs f io w cs ρ).bind fun c ρ => match c with
        | true => (vE f io w e ρ).bind fun y ρ => .ok (some y) ρ
        | false => .ok none ρ).scope t.ixs' ρ0
      | none => .bad) ds [] ρ).bind fun ys ρ => .ok (.list ys) ρ else .bad
  | .dc k v t it cs, ρ => (vE f io w it ρ).bind fun x ρ => (VR.of (vitOf x) ρ).bind fun ds ρ => if ds.length < w then (dcV (fun d ρ0 => match t.setV d ρ0 with
      | some ρ => ((vTs f io w cs ρ).bind fun c ρ => match c with
        | true => (vE f io w k ρ).bind fun x ρ => (vE f io w v ρ).bind fun y ρ => .ok (some (x, y)) ρ
        | false => .ok none ρ).scope t.ixs' ρ0
      | none => .bad) ds [] ρ).bind fun kvs ρ => .ok (.dict kvs) ρ else .bad
  | .rng es, ρ => (vEs f io w es ρ).bind fun ds ρ => VR.of ((vrng ds).map .list) ρ
  | .enum e, ρ => (vE f io w e ρ).bind fun x ρ => VR.of ((venum x).map .list) ρ
def vEs (f : VCall) (io : Nat → List Nat) (w : Nat) : List C → Ev → VR (List Va)
  | [], ρ => .ok [] ρ
  | e :: r, ρ => (vE f io w e ρ).bind fun x ρ => (vEs f io w r ρ).bind fun xs ρ => .ok (x :: xs) ρ
def vAnd (f : VCall) (io : Nat → List Nat) (w : Nat) : List C → Ev → VR Va
  | [], _ => .bad
  | [e], ρ => vE f io w e ρ
  | e :: r, ρ => (vE f io w e ρ).bind fun x ρ => vbool x fun b => match b with
    | true => vAnd f io w r ρ
    | false => .ok x ρ
def vOr (f : VCall) (io : Nat → List Nat) (w : Nat) : List C → Ev → VR Va
  | [], _ => .bad
  | [e], ρ => vE f io w e ρ
  | e :: r, ρ => (vE f io w e ρ).bind fun x ρ => vbool x fun b => match b with
    | true => .ok x ρ
    | false => vOr f io w r ρ
def vTs (f : VCall) (io : Nat → List Nat) (w : Nat) : List C → Ev → VR Bool
  | [], ρ => .ok true ρ
  | e :: r, ρ => (vE f io w e ρ).bind fun x ρ => (vtest x ρ).bind fun b ρ => match b with
    | true => vTs f io w r ρ
    | false => .ok false ρ
end
mutual
def vX (f : VCall) (io : Nat → List Nat) (w : Nat) : T → Ev → VR VFl
  | .asg t e, ρ => (vE f io w e ρ).bind fun d ρ => match t.setV d ρ with
    | some ρ' => .ok .nx ρ'
    | none => .bad
  | .sub o i e, ρ => match o with
    | .loc j => (vE f io w e ρ).bind fun d ρ => match ρ[j]? with
      | some (some _) => (vE f io w i ρ).bind fun y ρ => match ρ[j]? with
        | some (some x) => match vset x y d with
          | some x' => .ok .nx (ρ.set j (some x'))
          | none => .bad
        | _ => .bad
      | _ => .bad
    | _ => .bad
  | .ex e, ρ => (vE f io w e ρ).bind fun _ ρ => .ok .nx ρ
  | .ret e, ρ => (vE f io w e ρ).bind fun d ρ => .ok (.rt d) ρ
  | .ifs c a b, ρ => (vE f io w c ρ).bind fun x ρ => (vtest x ρ).bind fun t ρ => match t with
    | true => vXs f io w a ρ
    | false => vXs f io w b ρ
  | .for_ t it b, ρ => (vE f io w it ρ).bind fun x ρ => (VR.of (vitOf x) ρ).bind fun ds ρ => if ds.length < w then forV (fun d ρ => match t.setV d ρ with
      | some ρ' => vXs f io w b ρ'
      | none => .bad) ds ρ else .bad
  | .whl c b, ρ => whlV (fun ρ => (vE f io w c ρ).bind fun x ρ => vtest x ρ) (fun ρ => vXs f io w b ρ) w ρ
  | .pass, ρ => .ok .nx ρ
  | .brk, ρ => .ok .bk ρ
  | .cnt, ρ => .ok .ct ρ
def vXs (f : VCall) (io : Nat → List Nat) (w : Nat) : List T → Ev → VR VFl
  | [], ρ => .ok .nx ρ
  | t :: r, ρ => (vX f io w t ρ).bind fun fl ρ => match fl with
    | .nx => vXs f io w r ρ
    | fl => .ok fl ρ
end
/-! ### functions -/
/-- io: parameters handed over whole; flat: the answer holds no list; fr: the answer is a new object -/
structure Fi where
  io : List Nat
  flat : Bool
  fr : Bool
def outs : List Nat → Ev → Option (List Va)
  | [], _ => some []
  | p :: ps, ρ => match ρ[p]?, outs ps ρ with
    | some (some v), some vs => some (v :: vs)
    | _, _ => none
def vstart (n : Nat) (ds : List Va) : Ev := ds.map some ++ List.replicate (n - ds.length) none
def vend (i : Fi) (v : Va) (ρ : Ev) : VC := if i.flat = false ∨ v.flat = true then match outs i.io ρ with
    | some os => .ok v os
    | none => .bad
  else .bad
def runV (f : VCall) (io : Nat → List Nat) (w : Nat) (g : Fn) (i : Fi) (ds : List Va) : VC :=
  if ds.length = g.np then match vXs f io w g.body (vstart g.nl ds) with
    | .ok (.rt v) ρ => vend i v ρ
    | .ok .nx ρ => vend i .non ρ
    | .exc e ρ => match outs i.io ρ with
      | some os => .exc e os
      | none => .bad
    | _ => .bad
  else .bad
def ioOf (I : List Fi) (k : Nat) : List Nat := match I[k]? with
  | some i => i.io
  | none => []
def callV (Γ : List Fn) (I : List Fi) (w : Nat) : Nat → VCall
  | 0, _, _ => .bad
  | n + 1, k, ds => match Γ[k]?, I[k]? with
    | some g, some i => runV (callV Γ I w n) (ioOf I) w g i ds
    | _, _ => .bad
end Dv
end

section
/-! Va2 -/
/-! Va2: what of the heap stands for a plain value. -/
namespace Dv
open PySem PySem.W

mutual
/-- in the heap h d stands for v, by objects of N alone -/
def Rep (h : List Ob) (N : Nat → Prop) : Va → D → Prop
  | .non, d => d = .non
  | .bl b, d => d = .bl b
  | .int i, d => d = .int i
  | .str s, d => d = .str s
  | .fn k, d => d = .fn k
  | .tup vs, d => ∃ ds, d = .tup ds ∧ Reps h N vs ds
  | .ro vs, d => ∃ ds, d = .ro ds ∧ Reps h N vs ds
  | .list vs, d => ∃ a ds, d = .ref a ∧ N a ∧ h[a]? = some (.list ds) ∧ Reps h N vs ds
  | .dict kvs, d => ∃ a kds, d = .ref a ∧ N a ∧ h[a]? = some (.dict kds) ∧ RepK h N kvs kds
termination_by structural v => v
def Reps (h : List Ob) (N : Nat → Prop) : List Va → List D → Prop
  | [], ds => ds = []
  | v :: vs, ds => ∃ d ds', ds = d :: ds' ∧ Rep h N v d ∧ Reps h N vs ds'
termination_by structural v => v
def RepK (h : List Ob) (N : Nat → Prop) : List (Ke × Va) → List (Ke × D) → Prop
  | [], l => l = []
  | p :: r, l => ∃ d l', l = (p.1, d) :: l' ∧ RepP h N p d ∧ RepK h N r l'
termination_by structural v => v
def RepP (h : List Ob) (N : Nat → Prop) : Ke × Va → D → Prop
  | (_, v), d => Rep h N v d
termination_by structural v => v
end
/-- the object o stands for v -/
def ObRep (h : List Ob) (N : Nat → Prop) (v : Va) (o : Ob) : Prop := match v with
  | .list vs => ∃ ds, o = .list ds ∧ Reps h N vs ds
  | .dict kvs => ∃ kds, o = .dict kds ∧ RepK h N kvs kds
  | _ => False
section
variable {h h' : List Ob} {N N' : Nat → Prop}
mutual
theorem Rep.move (H : ∀ a o, N a → h[a]? = some o → N' a ∧ h'[a]? = some o) : ∀ {v : Va} {d : D}, Rep h N v d → Rep h' N' v d
  | .non, d, q => q
  | .bl b, d, q => q
  | .int i, d, q => q
  | .str s, d, q => q
  | .fn k, d, q => q
  | .tup vs, d, q => by obtain ⟨ds, e, q⟩ := q; exact ⟨ds, e, Reps.move H q⟩
  | .ro vs, d, q => by obtain ⟨ds, e, q⟩ := q; exact ⟨ds, e, Reps.move H q⟩
  | .list vs, d, q => by obtain ⟨a, ds, e, n, g, q⟩ := q; exact ⟨a, ds, e, (H a _ n g).1, (H a _ n g).2, Reps.move H q⟩
  | .dict kvs, d, q => by obtain ⟨a, ds, e, n, g, q⟩ := q; exact ⟨a, ds, e, (H a _ n g).1, (H a _ n g).2, RepK.move H q⟩
theorem Reps.move (H : ∀ a o, N a → h[a]? = some o → N' a ∧ h'[a]? = some o) : ∀ {v : List Va} {d : List D}, Reps h N v d → Reps h' N' v d
  | [], d, q => q
  | v :: vs, d, q => by obtain ⟨d, ds, e, q1, q2⟩ := q; exact ⟨d, ds, e, Rep.move H q1, Reps.move H q2⟩
theorem RepK.move (H : ∀ a o, N a → h[a]? = some o → N' a ∧ h'[a]? = some o) : ∀ {v : List (Ke × Va)} {d : List (Ke × D)}, RepK h N v d → RepK h' N' v d
  | [], d, q => q
  | (k, v) :: vs, d, q => by obtain ⟨d, ds, e, q1, q2⟩ := q; exact ⟨d, ds, e, Rep.move H q1, RepK.move H q2⟩
end
theorem Rep.mono (H : ∀ a, N a → N' a) {v : Va} {d : D} (q : Rep h N v d) : Rep h N' v d := q.move fun a o n e => ⟨H a n, e⟩
theorem Reps.mono (H : ∀ a, N a → N' a) {v : List Va} {d : List D} (q : Reps h N v d) : Reps h N' v d := q.move fun a o n e => ⟨H a n, e⟩
theorem RepK.mono (H : ∀ a, N a → N' a) {v : List (Ke × Va)} {d : List (Ke × D)} (q : RepK h N v d) : RepK h N' v d := q.move fun a o n e => ⟨H a n, e⟩
theorem ObRep.move (H : ∀ a o, N a → h[a]? = some o → N' a ∧ h'[a]? = some o) {v : Va} {o : Ob} (q : ObRep h N v o) : ObRep h' N' v o := by
  cases v with
  | list vs => obtain ⟨ds, e, q⟩ := q; exact ⟨ds, e, q.move H⟩
  | dict vs => obtain ⟨ds, e, q⟩ := q; exact ⟨ds, e, q.move H⟩
  | _ => exact q.elim
mutual
theorem Rep.flat : ∀ {v : Va} {d : D}, v.flat = true → Rep h N v d → Rep h' N' v d
  | .non, d, f, q => q
  | .bl b, d, f, q => q
  | .int i, d, f, q => q
  | .str s, d, f, q => q
  | .fn k, d, f, q => q
  | .tup vs, d, f, q => by obtain ⟨ds, e, q⟩ := q; exact ⟨ds, e, Reps.flat f q⟩
  | .ro vs, d, f, q => by obtain ⟨ds, e, q⟩ := q; exact ⟨ds, e, Reps.flat f q⟩
  | .list vs, d, f, q => by simp [Va.flat] at f
  | .dict kvs, d, f, q => by simp [Va.flat] at f
theorem Reps.flat : ∀ {v : List Va} {d : List D}, Va.flats v = true → Reps h N v d → Reps h' N' v d
  | [], d, f, q => q
  | v :: vs, d, f, q => by
    obtain ⟨d, ds, e, q1, q2⟩ := q
    rw [Va.flats, Bool.and_eq_true] at f
    exact ⟨d, ds, e, Rep.flat f.1 q1, Reps.flat f.2 q2⟩
end
mutual
theorem Rep.top {n : Nat} (H : ∀ a, N a → a < n) : ∀ {v : Va} {d : D}, Rep h N v d → d.top ≤ n
  | .non, d, q => by cases q; simp [D.top]
  | .bl b, d, q => by cases q; simp [D.top]
  | .int i, d, q => by cases q; simp [D.top]
  | .str s, d, q => by cases q; simp [D.top]
  | .fn k, d, q => by cases q; simp [D.top]
  | .tup vs, d, q => by obtain ⟨ds, rfl, q⟩ := q; rw [D.top]; exact Reps.top H q
  | .ro vs, d, q => by obtain ⟨ds, rfl, q⟩ := q; rw [D.top]; exact Reps.top H q
  | .list vs, d, q => by obtain ⟨a, ds, rfl, n, g, q⟩ := q; rw [D.top]; exact H a n
  | .dict kvs, d, q => by obtain ⟨a, ds, rfl, n, g, q⟩ := q; rw [D.top]; exact H a n
theorem Reps.top {n : Nat} (H : ∀ a, N a → a < n) : ∀ {v : List Va} {d : List D}, Reps h N v d → D.tops d ≤ n
  | [], d, q => by cases q; simp [D.tops]
  | v :: vs, d, q => by
    obtain ⟨d, ds, rfl, q1, q2⟩ := q
    rw [D.tops]
    exact Nat.max_le.mpr ⟨Rep.top H q1, Reps.top H q2⟩
theorem RepK.top {n : Nat} (H : ∀ a, N a → a < n) : ∀ {v : List (Ke × Va)} {d : List (Ke × D)}, RepK h N v d → topKv d ≤ n
  | [], d, q => by cases q; simp [topKv]
  | (k, v) :: vs, d, q => by
    obtain ⟨d, ds, rfl, q1, q2⟩ := q
    rw [topKv]
    exact Nat.max_le.mpr ⟨Rep.top H q1, RepK.top H q2⟩
end
theorem ObRep.top {n : Nat} (H : ∀ a, N a → a < n) {v : Va} {o : Ob} (q : ObRep h N v o) : o.top ≤ n := by
  cases v with
  | list vs => obtain ⟨ds, rfl, q⟩ := q; exact q.top H
  | dict vs => obtain ⟨ds, rfl, q⟩ := q; exact q.top H
  | _ => exact q.elim
/-! only what lies below n is kept: enough for a value that names nothing above -/
mutual
theorem Rep.cut {n : Nat} (H : ∀ a o, N a → a < n → h[a]? = some o → o.top ≤ n ∧ h'[a]? = some o) : ∀ {v : Va} {d : D}, Rep h N v d → d.top ≤ n → Rep h' (fun a => N a ∧ a < n) v d
  | .non, d, q, t => q
  | .bl b, d, q, t => q
  | .int i, d, q, t => q
  | .str s, d, q, t => q
  | .fn k, d, q, t => q
  | .tup vs, d, q, t => by obtain ⟨ds, rfl, q⟩ := q; rw [D.top] at t; exact ⟨ds, rfl, Reps.cut H q t⟩
  | .ro vs, d, q, t => by obtain ⟨ds, rfl, q⟩ := q; rw [D.top] at t; exact ⟨ds, rfl, Reps.cut H q t⟩
  | .list vs, d, q, t => by
    obtain ⟨a, ds, rfl, m, g, q⟩ := q
    rw [D.top] at t
    obtain ⟨h1, h2⟩ := H a _ m t g
    exact ⟨a, ds, rfl, ⟨m, t⟩, h2, Reps.cut H q h1⟩
  | .dict kvs, d, q, t => by
    obtain ⟨a, ds, rfl, m, g, q⟩ := q
    rw [D.top] at t
    obtain ⟨h1, h2⟩ := H a _ m t g
    exact ⟨a, ds, rfl, ⟨m, t⟩, h2, RepK.cut H q h1⟩
theorem Reps.cut {n : Nat} (H : ∀ a o, N a → a < n → h[a]? = some o → o.top ≤ n ∧ h'[a]? = some o) : ∀ {v : List Va} {d : List D}, Reps h N v d → D.tops d ≤ n → Reps h' (fun a => N a ∧ a < n) v d
  | [], d, q, t => q
  | v :: vs, d, q, t => by
    obtain ⟨d, ds, rfl, q1, q2⟩ := q
    rw [D.tops] at t
    exact ⟨d, ds, rfl, Rep.cut H q1 (Nat.le_trans (Nat.le_max_left _ _) t), Reps.cut H q2 (Nat.le_trans (Nat.le_max_right _ _) t)⟩
theorem RepK.cut {n : Nat} (H : ∀ a o, N a → a < n → h[a]? = some o → o.top ≤ n ∧ h'[a]? = some o) : ∀ {v : List (Ke × Va)} {d : List (Ke × D)}, RepK h N v d → topKv d ≤ n → RepK h' (fun a => N a ∧ a < n) v d
  | [], d, q, t => q
  | (k, v) :: vs, d, q, t => by
    obtain ⟨d, ds, rfl, q1, q2⟩ := q
    rw [topKv] at t
    exact ⟨d, ds, rfl, Rep.cut H q1 (Nat.le_trans (Nat.le_max_left _ _) t), RepK.cut H q2 (Nat.le_trans (Nat.le_max_right _ _) t)⟩
end
theorem ObRep.cut {n : Nat} (H : ∀ a o, N a → a < n → h[a]? = some o → o.top ≤ n ∧ h'[a]? = some o) {v : Va} {o : Ob} (q : ObRep h N v o) (t : o.top ≤ n) : ObRep h' (fun a => N a ∧ a < n) v o := by
  cases v with
  | list vs => obtain ⟨ds, rfl, q⟩ := q; exact ⟨ds, rfl, q.cut H t⟩
  | dict vs => obtain ⟨ds, rfl, q⟩ := q; exact ⟨ds, rfl, q.cut H t⟩
  | _ => exact q.elim
mutual
theorem Rep.py : ∀ {v : Va} {d : D} {n : Nat}, Rep h N v d → d.py (hpy h n) = v.py n
  | .non, d, n, q => by cases q; simp [D.py, Va.py]
  | .bl b, d, n, q => by cases q; simp [D.py, Va.py]
  | .int i, d, n, q => by cases q; simp [D.py, Va.py]
  | .str s, d, n, q => by cases q; simp [D.py, Va.py]
  | .fn k, d, n, q => by cases q; simp [D.py, Va.py]
  | .tup vs, d, n, q => by obtain ⟨ds, rfl, q⟩ := q; simp [D.py, Va.py, Reps.py q]
  | .ro vs, d, n, q => by obtain ⟨ds, rfl, q⟩ := q; simp [D.py, Va.py]
  | .list vs, d, 0, q => by obtain ⟨a, ds, rfl, m, g, q⟩ := q; simp [D.py, Va.py, hpy]
  | .list vs, d, n + 1, q => by obtain ⟨a, ds, rfl, m, g, q⟩ := q; simp [D.py, Va.py, hpy, g, Ob.py, Reps.py q]
  | .dict kvs, d, n, q => by
    obtain ⟨a, ds, rfl, m, g, q⟩ := q
    cases n with
    | zero => simp [D.py, Va.py, hpy]
    | succ n => simp [D.py, Va.py, hpy, g, Ob.py]
theorem Reps.py : ∀ {v : List Va} {d : List D} {n : Nat}, Reps h N v d → D.pys (hpy h n) d = Va.pys v n
  | [], d, n, q => by cases q; simp [D.pys, Va.pys]
  | v :: vs, d, n, q => by
    obtain ⟨d, ds, rfl, q1, q2⟩ := q
    simp only [D.pys, Va.pys, Rep.py q1, Reps.py q2]
    all_goals (cases v.py n <;> cases Va.pys vs n <;> rfl)
end
mutual
theorem rep_va : ∀ {d : D} {v : Va}, d.va = some v → Rep h N v d
  | .non, v, e => by cases e; rfl
  | .bl b, v, e => by cases e; rfl
  | .int i, v, e => by cases e; rfl
  | .str s, v, e => by cases e; rfl
  | .fn k, v, e => by cases e; rfl
  | .ref a, v, e => by simp [D.va] at e
  | .ro xs, v, e => by simp [D.va] at e
  | .tup xs, v, e => by
    rw [D.va] at e
    split at e
    · rename_i vs h1
      cases e
      exact ⟨xs, rfl, reps_vas h1⟩
    · cases e
theorem reps_vas : ∀ {d : List D} {v : List Va}, D.vas d = some v → Reps h N v d
  | [], v, e => by cases e; rfl
  | d :: ds, v, e => by
    rw [D.vas] at e
    split at e
    · rename_i a b h1 h2
      cases e
      exact ⟨d, ds, rfl, rep_va h1, reps_vas h2⟩
    · cases e
end
/-! ### lists, pointwise -/
theorem Reps.len : ∀ {v : List Va} {d : List D}, Reps h N v d → d.length = v.length
  | [], d, q => by cases q; rfl
  | v :: vs, d, q => by obtain ⟨d, ds, rfl, q1, q2⟩ := q; simp [Reps.len q2]
theorem Reps.get : ∀ {v : List Va} {d : List D} {i : Nat} {x : Va}, Reps h N v d → v[i]? = some x → ∃ y, d[i]? = some y ∧ Rep h N x y
  | [], d, i, x, q, e => by simp at e
  | v :: vs, d, 0, x, q, e => by obtain ⟨d, ds, rfl, q1, q2⟩ := q; cases e; exact ⟨d, rfl, q1⟩
  | v :: vs, d, i + 1, x, q, e => by obtain ⟨d, ds, rfl, q1, q2⟩ := q; simpa using Reps.get (i := i) (x := x) q2 (by simpa using e)
theorem Reps.append : ∀ {v v' : List Va} {d d' : List D}, Reps h N v d → Reps h N v' d' → Reps h N (v ++ v') (d ++ d')
  | [], _, d, _, q, r => by cases q; exact r
  | v :: vs, _, d, _, q, r => by obtain ⟨d, ds, rfl, q1, q2⟩ := q; exact ⟨d, _, rfl, q1, Reps.append q2 r⟩
theorem Reps.one {x : Va} {y : D} (q : Rep h N x y) : Reps h N [x] [y] := ⟨y, [], rfl, q, rfl⟩
theorem Reps.take : ∀ {v : List Va} {d : List D} (n : Nat), Reps h N v d → Reps h N (v.take n) (d.take n)
  | [], d, n, q => by cases q; simp [Reps]
  | v :: vs, d, 0, q => by simp [Reps]
  | v :: vs, d, n + 1, q => by obtain ⟨d, ds, rfl, q1, q2⟩ := q; exact ⟨d, _, rfl, q1, Reps.take n q2⟩
theorem Reps.drop : ∀ {v : List Va} {d : List D} (n : Nat), Reps h N v d → Reps h N (v.drop n) (d.drop n)
  | [], d, n, q => by cases q; simp [Reps]
  | v :: vs, d, 0, q => q
  | v :: vs, d, n + 1, q => by obtain ⟨d, ds, rfl, q1, q2⟩ := q; exact Reps.drop n q2
theorem Reps.cutl {v : List Va} {d : List D} (lo hi : Option Int) (q : Reps h N v d) : Reps h N (Dv.cut v lo hi) (Dv.cut d lo hi) := by
  unfold Dv.cut
  rw [q.len]
  exact (q.drop _).take _
theorem Reps.set : ∀ {v : List Va} {d : List D} (n : Nat) {x : Va} {y : D}, Reps h N v d → Rep h N x y → Reps h N (v.set n x) (d.set n y)
  | [], d, n, x, y, q, r => by cases q; simp [Reps]
  | v :: vs, d, 0, x, y, q, r => by obtain ⟨d, ds, rfl, q1, q2⟩ := q; exact ⟨y, ds, rfl, r, q2⟩
  | v :: vs, d, n + 1, x, y, q, r => by obtain ⟨d, ds, rfl, q1, q2⟩ := q; exact ⟨d, _, rfl, q1, Reps.set n q2 r⟩
theorem Reps.erase : ∀ {v : List Va} {d : List D} (n : Nat), Reps h N v d → Reps h N (v.eraseIdx n) (d.eraseIdx n)
  | [], d, n, q => by cases q; simp [Reps]
  | v :: vs, d, 0, q => by obtain ⟨d, ds, rfl, q1, q2⟩ := q; exact q2
  | v :: vs, d, n + 1, q => by obtain ⟨d, ds, rfl, q1, q2⟩ := q; exact ⟨d, _, rfl, q1, Reps.erase n q2⟩
theorem Reps.dropLast {v : List Va} {d : List D} (q : Reps h N v d) : Reps h N v.dropLast d.dropLast := by
  rw [List.dropLast_eq_take, List.dropLast_eq_take, q.len]
  exact q.take _
theorem Reps.rep (k : Nat) {v : List Va} {d : List D} (q : Reps h N v d) : Reps h N (List.replicate k v).flatten (List.replicate k d).flatten := by
  induction k with
  | zero => simp [Reps]
  | succ k ih => rw [List.replicate_succ, List.replicate_succ, List.flatten_cons, List.flatten_cons]; exact q.append ih
/-- pointwise, by pairs -/
theorem reps_zip : ∀ {v : List Va} {d : List D}, Reps h N v d ↔ v.length = d.length ∧ ∀ p ∈ v.zip d, Rep h N p.1 p.2
  | [], d => by
    refine ⟨fun q => by cases q; simp, fun q => ?_⟩
    exact List.eq_nil_of_length_eq_zero q.1.symm
  | v :: vs, [] => by
    refine ⟨fun q => ?_, fun q => by simp at q⟩
    obtain ⟨_, _, e, _⟩ := q
    cases e
  | v :: vs, d :: ds => by
    refine ⟨fun q => ?_, fun q => ?_⟩
    · obtain ⟨_, _, e, q1, q2⟩ := q
      cases e
      obtain ⟨r1, r2⟩ := reps_zip.mp q2
      refine ⟨by simp [r1], fun p hp => ?_⟩
      rw [List.zip_cons_cons] at hp
      rcases List.mem_cons.mp hp with rfl | hp
      · exact q1
      · exact r2 p hp
    · refine ⟨d, ds, rfl, q.2 (v, d) (by simp), reps_zip.mpr ⟨by simpa using q.1, fun p hp => q.2 p (by simp [hp])⟩⟩
theorem Reps.flat_of {v : List Va} {d : List D} (f : ∀ x y, x ∈ v → Rep h N x y → Rep h' N' x y) (q : Reps h N v d) : Reps h' N' v d := by
  rw [reps_zip] at q ⊢
  exact ⟨q.1, fun p hp => f p.1 p.2 (List.of_mem_zip hp).1 (q.2 p hp)⟩
theorem RepK.len : ∀ {v : List (Ke × Va)} {d : List (Ke × D)}, RepK h N v d → d.length = v.length
  | [], d, q => by cases q; rfl
  | v :: vs, d, q => by obtain ⟨d, ds, rfl, q1, q2⟩ := q; simp [RepK.len q2]
theorem RepK.keys : ∀ {v : List (Ke × Va)} {d : List (Ke × D)}, RepK h N v d → d.map (·.1) = v.map (·.1)
  | [], d, q => by cases q; rfl
  | v :: vs, d, q => by obtain ⟨d, ds, rfl, q1, q2⟩ := q; simp [RepK.keys q2]
theorem RepK.get : ∀ {v : List (Ke × Va)} {d : List (Ke × D)} {k : Ke}, RepK h N v d → (∀ x, vget v k = some x → ∃ y, kget d k = some y ∧ Rep h N x y) ∧ (vget v k = none → kget d k = none)
  | [], d, k, q => by cases q; exact ⟨fun x e => by simp [vget] at e, fun _ => by simp [kget]⟩
  | (j, v) :: vs, d, k, q => by
    obtain ⟨d, ds, rfl, q1, q2⟩ := q
    obtain ⟨r1, r2⟩ := RepK.get (k := k) q2
    unfold vget kget at r1 r2 ⊢
    rw [List.find?_cons, List.find?_cons]
    by_cases e : j = k
    · simp only [e, decide_true]
      exact ⟨fun x hx => by cases hx; exact ⟨d, rfl, q1⟩, fun hx => by cases hx⟩
    · simp only [e, decide_false]
      exact ⟨r1, r2⟩
theorem RepK.append : ∀ {v v' : List (Ke × Va)} {d d' : List (Ke × D)}, RepK h N v d → RepK h N v' d' → RepK h N (v ++ v') (d ++ d')
  | [], _, d, _, q, r => by cases q; exact r
  | v :: vs, _, d, _, q, r => by obtain ⟨d, ds, rfl, q1, q2⟩ := q; exact ⟨d, _, rfl, q1, RepK.append q2 r⟩
theorem RepK.any {v : List (Ke × Va)} {d : List (Ke × D)} (q : RepK h N v d) (p : Ke → Bool) : (d.any fun x => p x.1) = v.any fun x => p x.1 := by
  have := q.keys
  have e1 : (d.any fun x => p x.1) = (d.map (·.1)).any p := by rw [List.any_map]; rfl
  have e2 : (v.any fun x => p x.1) = (v.map (·.1)).any p := by rw [List.any_map]; rfl
  rw [e1, e2, this]
theorem RepK.any_all {v : List (Ke × Va)} {d : List (Ke × D)} (q : RepK h N v d) {p : Ke → Bool} : (d.all fun x => p x.1) = v.all fun x => p x.1 := by
  have := q.keys
  have e1 : (d.all fun x => p x.1) = (d.map (·.1)).all p := by rw [List.all_map]; rfl
  have e2 : (v.all fun x => p x.1) = (v.map (·.1)).all p := by rw [List.all_map]; rfl
  rw [e1, e2, this]
theorem RepK.upd (k : Ke) {x : Va} {y : D} (r : Rep h N x y) : ∀ {v : List (Ke × Va)} {d : List (Ke × D)}, RepK h N v d → RepK h N (v.map fun p => if p.1 = k then (p.1, x) else p) (d.map fun p => if p.1 = k then (p.1, y) else p)
  | [], d, q => by cases q; simp [RepK]
  | (j, z) :: v, d, q => by
    obtain ⟨d, ds, rfl, q1, q2⟩ := q
    simp only [List.map_cons]
    by_cases e : j = k
    · simp only [e, if_true]
      exact ⟨y, _, rfl, r, RepK.upd k r q2⟩
    · simp only [e, if_false]
      exact ⟨d, _, rfl, q1, RepK.upd k r q2⟩
theorem RepK.put {v : List (Ke × Va)} {d : List (Ke × D)} (k : Ke) {x : Va} {y : D} (q : RepK h N v d) (r : Rep h N x y) : RepK h N (vput v k x) (kput d k y) := by
  unfold vput kput
  rw [q.any fun j => decide (j = k)]
  split
  · exact RepK.upd k r q
  · exact q.append ⟨y, [], rfl, r, rfl⟩
theorem RepK.zip : ∀ {ks : List Ke} {v : List Va} {d : List D}, Reps h N v d → RepK h N (ks.zip v) (ks.zip d)
  | [], v, d, q => by simp [RepK]
  | k :: ks, [], d, q => by cases q; simp [RepK]
  | k :: ks, v :: vs, d, q => by obtain ⟨d, ds, rfl, q1, q2⟩ := q; exact ⟨d, _, rfl, q1, RepK.zip q2⟩
end
end Dv
end

section
/-! Va3 -/
/-! Va3: who may change a list: an analysis of the text. -/
namespace Dv
open PySem PySem.W

/-- L: owned slots that the value may name; M: owned slots that are changed; O: still owned behind; fr: the value is new -/
structure Ow where
  L : List Nat
  M : List Nat
  O : List Nat
  fr : Bool
def lsub (A B : List Nat) : List Nat := A.filter fun x => !B.contains x
def lint (A B : List Nat) : List Nat := A.filter fun x => B.contains x
def ldis (A B : List Nat) : Bool := A.all fun x => !B.contains x
def lsst (A B : List Nat) : Bool := A.all fun x => B.contains x
theorem mem_lsub {A B : List Nat} {i : Nat} : i ∈ lsub A B ↔ i ∈ A ∧ i ∉ B := by simp [lsub]
theorem mem_lint {A B : List Nat} {i : Nat} : i ∈ lint A B ↔ i ∈ A ∧ i ∈ B := by simp [lint]
theorem ldis_iff {A B : List Nat} : ldis A B = true ↔ ∀ i ∈ A, i ∉ B := by simp [ldis]
theorem lsst_iff {A B : List Nat} : lsst A B = true ↔ ∀ i ∈ A, i ∈ B := by simp [lsst]
/-- what the value's items may name -/
def eL (c : C) (L : List Nat) : List Nat := match c with
  | .loc _ => []
  | _ => L
/-- a value of A stands while B is evaluated -/
def okSeq (A B : Ow) : Bool := ldis A.L B.M && lsst A.L B.O
def lastO (O : List Nat) : List Ow → List Nat
  | [] => O
  | A :: As => lastO A.O As
def allL (As : List Ow) : List Nat := As.flatMap (·.L)
def allM (As : List Ow) : List Nat := As.flatMap (·.M)
/-- what a list's method stores may name -/
def meL (m : Me) (es : List C) (L : List Nat) : List Nat := match m, es with
  | .pop, _ => []
  | .append, _ => L
  | .extend, [e] => eL e L
  | .extend, _ => L
def meFr : Me → Bool
  | .pop => false
  | _ => true
/-- the answer holds no object -/
def mrFlat : Mr → Bool
  | .index => true
def iosl (es : List C) : List Nat → Option (List Nat)
  | [] => some []
  | p :: ps => match es[p]?, iosl es ps with
    | some (.loc i), some l => some (i :: l)
    | _, _ => none
/-- what is walked; Ls: slots that the walked thing is of; Le: slots that its items may name -/
structure Iw where
  Ls : List Nat
  Le : List Nat
  M : List Nat
  O : List Nat
def C.walks : C → Bool
  | .rng _ => true
  | .enum _ => true
  | _ => false
def iwR (O : List Nat) : Option (List Ow) → Option Iw
  | some As => some ⟨[], [], allM As, lastO O As⟩
  | none => none
def iwE (e : C) : Option Ow → Option Iw
  | some A => some ⟨A.L, eL e A.L, A.M, A.O⟩
  | none => none
/-- what is asked of every answer -/
def chk (P O : List Nat) : Option Ow → Option Ow
  | some A => if lsst P A.O && lsst A.L A.O && lsst A.O O then some A else none
  | none => none
section
variable (tb : Nat → Option Fi) (P : List Nat)
mutual
def okE (O : List Nat) (c : C) : Option Ow := chk P O (match c with
  | .loc i => some ⟨if O.contains i then [i] else [], [], O, false⟩
  | .cst _ => some ⟨[], [], O, true⟩
  | .tup es => match okAs [] 0 O es with
    | some As => some ⟨allL As, allM As, lastO O As, false⟩
    | none => none
  | .lst es => match okAs [] 0 O es with
    | some As => some ⟨allL As, allM As, lastO O As, true⟩
    | none => none
  | .dct _ es => match okAs [] 0 O es with
    | some As => some ⟨allL As, allM As, lastO O As, true⟩
    | none => none
  | .bin _ a b => match okE O a with
    | some A => match okE A.O b with
      | some B => if okSeq A B then some ⟨eL a A.L ++ eL b B.L, A.M ++ B.M, B.O, true⟩ else none
      | none => none
    | none => none
  | .neg a => match okE O a with
    | some A => some ⟨[], A.M, A.O, true⟩
    | none => none
  | .not a => match okE O a with
    | some A => some ⟨[], A.M, A.O, true⟩
    | none => none
  | .and es => match okAs [] 0 O es with
    | some As => some ⟨allL As, allM As, lastO O As, false⟩
    | none => none
  | .or es => match okAs [] 0 O es with
    | some As => some ⟨allL As, allM As, lastO O As, false⟩
    | none => none
  | .ife c a b => match okE O c with
    | some Z => match okE Z.O a, okE Z.O b with
      | some A, some B => if lsst A.O B.O && lsst B.O A.O then some ⟨A.L ++ B.L, Z.M ++ (A.M ++ B.M), A.O, A.fr && B.fr⟩ else none
      | _, _ => none
    | none => none
  | .cmp _ a b => match okE O a with
    | some A => match okE A.O b with
      | some B => if okSeq A B then some ⟨[], A.M ++ B.M, B.O, true⟩ else none
      | none => none
    | none => none
  | .chain _ _ a b c => match okE O a with
    | some A => match okE A.O b with
      | some B => match okE B.O c with
        | some Z => if okSeq A B && okSeq B Z && lsst B.O Z.O then some ⟨[], A.M ++ (B.M ++ Z.M), B.O, true⟩ else none
        | none => none
      | none => none
    | none => none
  | .ix a b => match okE O a with
    | some A => match okE A.O b with
      | some B => if okSeq A B then some ⟨eL a A.L, A.M ++ B.M, B.O, false⟩ else none
      | none => none
    | none => none
  | .slc a lo hi => match okE O a with
    | some A => match okB A.O lo with
      | some B => match okB B.O hi with
        | some Z => if okSeq A B && okSeq A Z then some ⟨eL a A.L, A.M ++ (B.M ++ Z.M), Z.O, true⟩ else none
        | none => none
      | none => none
    | none => none
  | .bnd _ => none
  | .call k es => match tb k with
    | some fi => match okAs fi.io 0 O es with
      | some As => match iosl es fi.io with
        | some is => if is.Nodup ∧ fi.io.Nodup ∧ (fi.io.all fun p => p < es.length) ∧ lsst is (lastO O As) ∧ ldis is (allL As) then
            if fi.io.isEmpty then some ⟨if fi.flat then [] else allL As, allM As, lastO O As, fi.fr⟩
            else if ldis P (allL As) then some ⟨[], allM As ++ is, lsub (lastO O As) (allL As), fi.fr⟩ else none
          else none
        | none => none
      | none => none
    | none => none
  | .bi b es => match okAs [] 0 O es with
    | some As => some ⟨match b, es with
      | .tuple, [e] => eL e (allL As)
      | .list, [e] => eL e (allL As)
      | .sorted, [e] => eL e (allL As)
      | .sset, [e] => eL e (allL As)
      | .rev, [e] => eL e (allL As)
      | .rev0, [e] => eL e (allL As)
      | _, _ => [], allM As, lastO O As, true⟩
    | none => none
  | .me m o es => match o with
    | .loc i => match okAs [] 0 O es with
      | some As =>
        if O.contains i && (lastO O As).contains i && !(meL m es (allL As)).contains i && ldis P (meL m es (allL As)) then some ⟨[], allM As ++ [i], lsub (lastO O As) (meL m es (allL As)), meFr m⟩ else none
      | none => none
    | _ => none
  | .met m o es => match okE O o with
    | some A => match okAs [] 0 A.O es with
      | some As => if ldis A.L (allM As) && lsst A.L (lastO A.O As) then some ⟨if mrFlat m then [] else eL o A.L ++ allL As, A.M ++ allM As, lastO A.O As, mrFlat m⟩ else none
      | none => none
    | none => none
  | .lc e t it cs => match (if it.walks then okR O it else iwE it (okE O it)) with
    | some I => match okTs (lsub I.O (I.Le ++ t.ixs')) cs with
      | some Z => match okE Z.O e with
        | some E => if ldis P (I.Le ++ t.ixs') && lsst (lsub I.O (I.Le ++ t.ixs')) E.O && ldis I.Ls (Z.M ++ E.M) && ldis E.L (Z.M ++ E.M) then some ⟨E.L, I.M ++ (Z.M ++ E.M), lsub I.O (I.Le ++ t.ixs'), true⟩ else none
        | none => none
      | none => none
    | none => none
  | .dc k v t it cs => match (if it.walks then okR O it else iwE it (okE O it)) with
    | some I => match okTs (lsub I.O (I.Le ++ t.ixs')) cs with
      | some Z => match okE Z.O k with
        | some K => match okE K.O v with
          | some E => if ldis P (I.Le ++ t.ixs') && lsst (lsub I.O (I.Le ++ t.ixs')) E.O && ldis I.Ls (Z.M ++ (K.M ++ E.M)) && ldis E.L (Z.M ++ (K.M ++ E.M)) && okSeq K E then some ⟨E.L, I.M ++ (Z.M ++ (K.M ++ E.M)), lsub I.O (I.Le ++ t.ixs'), true⟩ else none
          | none => none
        | none => none
      | none => none
    | none => none
  | .rng _ => none
  | .enum _ => none)
termination_by structural c
/-- arguments, from the j-th on; io: those handed over whole -/
def okAs (io : List Nat) (j : Nat) (O : List Nat) : List C → Option (List Ow)
  | [] => some []
  | e :: r => match (if io.contains j then (match e with
      | .loc _ => some ⟨[], [], O, false⟩
      | _ => none) else okE O e) with
    | some A => match okAs io (j + 1) A.O r with
      | some As => if ldis A.L (allM As) && lsst A.L (lastO A.O As) then some (A :: As) else none
      | none => none
    | none => none
termination_by structural c => c
def okTs (O : List Nat) (c : List C) : Option Ow := chk P O (match c with
  | [] => some ⟨[], [], O, true⟩
  | e :: r => match okE O e with
    | some A => match okTs A.O r with
      | some B => if lsst A.O B.O then some ⟨[], A.M ++ B.M, B.O, true⟩ else none
      | none => none
    | none => none)
termination_by structural c
def okB (O : List Nat) (c : C) : Option Ow := chk P O (match c with
  | .bnd e => match okE O e with
    | some A => some ⟨[], A.M, A.O, true⟩
    | none => none
  | .cst .non => some ⟨[], [], O, true⟩
  | _ => none)
termination_by structural c
def okR (O : List Nat) : C → Option Iw
  | .rng es => iwR O (okAs [] 0 O es)
  | .enum x => iwE x (okE O x)
  | _ => none
termination_by structural c => c
end
def okI (O : List Nat) (it : C) : Option Iw := if it.walks then okR tb P O it else iwE it (okE tb P O it)
/-- a, b = e1, e2 -/
def okPs (O : List Nat) : List C → Option (List Ow)
  | [] => some []
  | e :: r => match okE tb P O e with
    | some A => match okPs A.O r with
      | some As => if ldis A.L (allM As) && lsst A.L (lastO A.O As) then some (A :: As) else none
      | none => none
    | none => none
def freshes : List Nat → List Ow → List Nat
  | i :: is, A :: As => if A.fr then i :: freshes is As else freshes is As
  | _, _ => []
/-- a loop's owned slots: made fewer until the body keeps them -/
def okFix (step : List Nat → Option (List Nat × List (List Nat))) : Nat → List Nat → Option (List Nat)
  | 0, _ => none
  | n + 1, O => match step O with
    | some (O', B) => if lsst O O' && B.all (lsst O) then some O else okFix step n (B.foldl lint (lint O O'))
    | none => none
mutual
/-- owned behind; owned at each break or continue -/
def okX (fr : Bool) (O : List Nat) : T → Option (List Nat × List (List Nat))
  | .asg t e => match t, e with
    | .tp is, .tup es => match okPs tb P O es with
      | some As => if is.length = es.length ∧ is.Nodup ∧ ldis P (allL As) ∧ ldis P is then some (lsub (lsub (lastO O As) (allL As)) is ++ freshes is As, []) else none
      | none => none
    | .nm i, e => match okE tb P O e with
      | some A => if ldis P A.L && !P.contains i then some (lsub (lsub A.O A.L) [i] ++ (if A.fr then [i] else []), []) else none
      | none => none
    | .tp is, e => match okE tb P O e with
      | some A => if ldis P A.L && ldis P is then some (lsub (lsub A.O A.L) is, []) else none
      | none => none
  | .sub o i e => match o with
    | .loc j => match okE tb P O e with
      | some E => match okE tb P E.O i with
        | some I => if okSeq E I && I.O.contains j && !E.L.contains j && ldis P E.L then some (lsub I.O E.L, []) else none
        | none => none
      | none => none
    | _ => none
  | .ex e => match okE tb P O e with
    | some A => some (A.O, [])
    | none => none
  | .ret e => match e with
    | .loc i => if !P.contains i && (!fr || O.contains i) then some (O, []) else none
    | e => match okE tb P O e with
      | some A => if ldis P A.L && (!fr || A.fr) then some (A.O, []) else none
      | none => none
  | .ifs c a b => match okE tb P O c with
    | some Z => match okXs fr Z.O a, okXs fr Z.O b with
      | some (A, x), some (B, y) => some (lint A B, x ++ y)
      | _, _ => none
    | none => none
  | .for_ t it b => match okI tb P O it with
    | some I => if ldis P (I.Le ++ (I.Ls ++ t.ixs')) then match okFix (fun O => okXs fr O b) 9 (lsub I.O (I.Le ++ (I.Ls ++ t.ixs'))) with
        | some Oh => if lsst P Oh then some (Oh, []) else none
        | none => none
      else none
    | none => none
  | .whl c b => match okFix (fun O => match okE tb P O c with
      | some Z => if lsst O Z.O then okXs fr O b else none
      | none => none) 9 O with
    | some Oh => if lsst P Oh then some (Oh, []) else none
    | none => none
  | .pass => some (O, [])
  | .brk => some (O, [O])
  | .cnt => some (O, [O])
def okXs (fr : Bool) (O : List Nat) : List T → Option (List Nat × List (List Nat))
  | [] => some (O, [])
  | t :: r => match okX fr O t with
    | some (O1, x) => if lsst P O1 then match okXs fr O1 r with
      | some (O2, y) => some (O2, x ++ y)
      | none => none
      else none
    | none => none
end
end
def okFn (tb : Nat → Option Fi) (g : Fn) (i : Fi) : Bool := decide (i.io.Nodup) && (i.io.all fun p => decide (p < g.np)) && decide (g.np ≤ g.nl) && (match okXs tb i.io i.fr i.io g.body with
  | some (O, _) => lsst i.io O
  | none => false)
def okAll (tb : Nat → Option Fi) : List Fn → List Fi → Bool
  | [], [] => true
  | g :: gs, i :: is => okFn tb g i && okAll tb gs is
  | _, _ => false
end Dv
end

section
/-! Va4 -/
/-! Va4: states that stand for slots of plain values. -/
namespace Dv
open PySem PySem.W

abbrev Ad := Nat → Prop
def root (σ : Sl) (i a : Nat) : Prop := σ[i]? = some (some (.ref a))
def Rts (σ : Sl) (L : List Nat) : Ad := fun a => ∃ i ∈ L, root σ i a
structure Wf (s : S) : Prop where
  tp : ∀ a o, s.h[a]? = some o → o.top ≤ max (a + 1) s.k
  k : s.k ≤ s.h.length
theorem Wf.lt {s : S} (w : Wf s) {a : Nat} {o : Ob} (e : s.h[a]? = some o) : o.top ≤ s.h.length := by
  have h1 := w.tp a o e
  have h2 := w.k
  have h3 := (List.getElem?_eq_some_iff.mp e).1
  omega
def NonRef (d : D) : Prop := ∀ a, d ≠ .ref a
def Own1 (h : List Ob) (N : Ad) (v : Va) (d : D) : Prop := (NonRef d ∧ Rep h N v d) ∨ ∃ a o, d = .ref a ∧ h[a]? = some o ∧ ObRep h N v o
structure Inv (N : Ad) (O : List Nat) (σ : Sl) (ρ : Ev) (s : S) : Prop where
  wf : Wf s
  lt : ∀ a, N a → a < s.h.length
  rep : ∀ i v, i ∉ O → ρ[i]? = some (some v) → ∃ d, σ[i]? = some (some d) ∧ Rep s.h N v d
  own : ∀ i v, i ∈ O → ρ[i]? = some (some v) → ∃ d, σ[i]? = some (some d) ∧ Own1 s.h N v d
  rt : ∀ i a, i ∈ O → root σ i a → ¬ N a ∧ a < s.h.length
  dis : ∀ i j a, i ∈ O → j ∈ O → root σ i a → root σ j a → i = j
  len : ρ.length = σ.length
structure St (σ : Sl) (O O1 M : List Nat) (N : Ad) (s : S) (N1 : Ad) (s1 : S) : Prop where
  dn : ∀ i ∈ O1, i ∈ O
  len : s.h.length ≤ s1.h.length
  old : ∀ a, a < s.h.length → (∀ i ∈ M, i ∈ O → ¬ root σ i a) → s1.h[a]? = s.h[a]?
  sub : ∀ a, N a → N1 a
  only : ∀ a, N1 a → N a ∨ s.h.length ≤ a ∨ ∃ i ∈ O, root σ i a
section
variable {σ : Sl} {ρ ρ1 ρ2 : Ev} {O O1 O2 M M1 M2 L : List Nat} {N N' N1 N2 : Ad} {s s' s1 s2 : S}
theorem St.refl (h : ∀ i ∈ O1, i ∈ O) : St σ O O1 M N s N s := ⟨h, Nat.le_refl _, fun _ _ _ => rfl, fun _ h => h, fun a h => .inl h⟩
theorem St.trans (a : St σ O O1 M1 N s N1 s1) (b : St σ O1 O2 M2 N1 s1 N2 s2) : St σ O O2 (M1 ++ M2) N s N2 s2 where
  dn i h := a.dn i (b.dn i h)
  len := Nat.le_trans a.len b.len
  old x hx hm := by
    rw [b.old x (Nat.lt_of_lt_of_le hx a.len) fun i hi ho => hm i (List.mem_append_right _ hi) (a.dn i ho), a.old x hx fun i hi ho => hm i (List.mem_append_left _ hi) ho]
  sub x h := b.sub x (a.sub x h)
  only x h := by
    rcases b.only x h with h | h | ⟨i, hi, h⟩
    · exact a.only x h
    · exact .inr (.inl (Nat.le_trans a.len h))
    · exact .inr (.inr ⟨i, a.dn i hi, h⟩)
/-- more is said to be changed -/
theorem St.more (h : ∀ i ∈ M, i ∈ O → i ∈ M1) (a : St σ O O1 M N s N1 s1) : St σ O O1 M1 N s N1 s1 where
  dn := a.dn
  len := a.len
  old x hx hm := a.old x hx fun i hi ho => hm i (h i hi ho) ho
  sub := a.sub
  only := a.only
theorem St.dn' (a : St σ O O1 M N s N1 s1) (h : ∀ i ∈ O2, i ∈ O1) : St σ O O2 M N s N1 s1 where
  dn i hi := a.dn i (h i hi)
  len := a.len
  old := a.old
  sub := a.sub
  only := a.only
/-- more objects of the others' -/
theorem St.grow (a : St σ O O1 M N s N1 s1) (h1 : ∀ x, N1 x → N2 x) (h2 : ∀ x, N2 x → N1 x ∨ s.h.length ≤ x ∨ ∃ i ∈ O, root σ i x) : St σ O O1 M N s N2 s1 where
  dn := a.dn
  len := a.len
  old := a.old
  sub x h := h1 x (a.sub x h)
  only x h := by
    rcases h2 x h with h | h
    · exact a.only x h
    · exact .inr h
theorem Own1.rep {h : List Ob} {v : Va} {d : D} (q : Own1 h N v d) (hs : ∀ a, N a → N' a) (hd : ∀ a, d = .ref a → N' a) : Rep h N' v d := by
  rcases q with ⟨_, q⟩ | ⟨a, o, rfl, e, q⟩
  · exact q.mono hs
  · have na := hd a rfl
    cases v with
    | list vs => obtain ⟨ds, rfl, q⟩ := q; exact ⟨a, ds, rfl, na, e, q.mono hs⟩
    | dict vs => obtain ⟨ds, rfl, q⟩ := q; exact ⟨a, ds, rfl, na, e, q.mono hs⟩
    | _ => exact q.elim
theorem Own1.move {h h' : List Ob} {v : Va} {d : D} (H : ∀ a o, N a → h[a]? = some o → N' a ∧ h'[a]? = some o) (hd : ∀ a o, d = .ref a → h[a]? = some o → h'[a]? = some o) (q : Own1 h N v d) : Own1 h' N' v d := by
  rcases q with ⟨n, q⟩ | ⟨a, o, rfl, e, q⟩
  · exact .inl ⟨n, q.move H⟩
  · exact .inr ⟨a, o, rfl, hd a o rfl e, q.move H⟩
/-- fewer are owned, the others know more -/
theorem Inv.to (I : Inv N O σ ρ s) (h1 : ∀ i ∈ O', i ∈ O) (h2 : ∀ a, N a → N' a) (h3 : ∀ i a, i ∈ O → i ∉ O' → root σ i a → N' a) (h4 : ∀ a, N' a → a < s.h.length) (h5 : ∀ i a, i ∈ O' → root σ i a → ¬ N' a) : Inv N' O' σ ρ s where
  wf := I.wf
  lt := h4
  rep i v hi e := by
    by_cases ho : i ∈ O
    · obtain ⟨d, e1, q⟩ := I.own i v ho e
      exact ⟨d, e1, q.rep h2 fun a ed => h3 i a ho hi (by rw [root, e1, ed])⟩
    · obtain ⟨d, e1, q⟩ := I.rep i v ho e
      exact ⟨d, e1, q.mono h2⟩
  own i v hi e := by
    obtain ⟨d, e1, q⟩ := I.own i v (h1 i hi) e
    exact ⟨d, e1, q.move (fun a o n e => ⟨h2 a n, e⟩) fun a o _ e => e⟩
  rt i a hi r := ⟨h5 i a hi r, (I.rt i a (h1 i hi) r).2⟩
  dis i j a hi hj := I.dis i j a (h1 i hi) (h1 j hj)
  len := I.len
theorem Inv.grow (I : Inv N O σ ρ s) (h2 : ∀ a, N a → N' a) (h4 : ∀ a, N' a → a < s.h.length) (h5 : ∀ i a, i ∈ O → root σ i a → ¬ N' a) : Inv N' O σ ρ s := I.to (fun _ h => h) h2 (fun i a h h' => absurd h h') h4 h5
/-- the owned slots R are given up -/
def rel (σ : Sl) (O O' : List Nat) (N : Ad) : Ad := fun a => N a ∨ ∃ i ∈ O, i ∉ O' ∧ root σ i a
theorem Inv.drop (I : Inv N O σ ρ s) (h1 : ∀ i ∈ O', i ∈ O) : Inv (rel σ O O' N) O' σ ρ s := I.to h1 (fun a h => .inl h) (fun i a hi hn r => .inr ⟨i, hi, hn, r⟩) (fun a h => by
    rcases h with h | ⟨i, hi, _, r⟩
    · exact I.lt a h
    · exact (I.rt i a hi r).2) fun i a hi r h => by
    rcases h with h | ⟨j, hj, hn, r'⟩
    · exact (I.rt i a (h1 i hi) r).1 h
    · exact hn (I.dis i j a (h1 i hi) hj r r' ▸ hi)
theorem St.drop (a : St σ O O1 M N s N1 s1) (h1 : ∀ i ∈ O2, i ∈ O1) : St σ O O2 M N s (rel σ O1 O2 N1) s1 := (a.dn' h1).grow (fun x h => .inl h) fun x h => by
  rcases h with h | ⟨i, hi, _, r⟩
  · exact .inl h
  · exact .inr (.inr ⟨i, a.dn i hi, r⟩)
theorem Inv.stay (I : Inv N O σ ρ s) (w : Wf s') (hl : s.h.length ≤ s'.h.length) (h1 : ∀ a, N a → s'.h[a]? = s.h[a]?) (h2 : ∀ i a, i ∈ O → root σ i a → s'.h[a]? = s.h[a]?) : Inv N O σ ρ s' where
  wf := w
  lt a h := Nat.lt_of_lt_of_le (I.lt a h) hl
  rep i v hi e := by
    obtain ⟨d, e1, q⟩ := I.rep i v hi e
    exact ⟨d, e1, q.move fun a o n e => ⟨n, by rw [h1 a n]; exact e⟩⟩
  own i v hi e := by
    obtain ⟨d, e1, q⟩ := I.own i v hi e
    exact ⟨d, e1, q.move (fun a o n e => ⟨n, by rw [h1 a n]; exact e⟩) fun a o ed e => by rw [h2 i a hi (by rw [root, e1, ed])]; exact e⟩
  rt i a hi r := ⟨(I.rt i a hi r).1, Nat.lt_of_lt_of_le (I.rt i a hi r).2 hl⟩
  dis := I.dis
  len := I.len
/-! ### a new object -/
def S.plus (s : S) (o : Ob) : S := { s with h := s.h ++ [o] }
theorem plus_old {o : Ob} {a : Nat} (h : a < s.h.length) : (s.plus o).h[a]? = s.h[a]? := by
  show (s.h ++ [o])[a]? = _
  rw [List.getElem?_append_left h]
theorem plus_new {o : Ob} : (s.plus o).h[s.h.length]? = some o := by
  show (s.h ++ [o])[s.h.length]? = _
  rw [List.getElem?_append_right (Nat.le_refl _)]
  simp
theorem plus_len {o : Ob} : (s.plus o).h.length = s.h.length + 1 := by simp [S.plus]
theorem Wf.plus {o : Ob} (w : Wf s) (h : o.top ≤ s.h.length) : Wf (s.plus o) where
  tp a o' e := by
    rcases Nat.lt_trichotomy a s.h.length with l | l | l
    · rw [plus_old l] at e
      exact w.tp a o' e
    · subst l
      rw [plus_new] at e
      cases e
      exact Nat.le_trans h (Nat.le_trans (Nat.le_succ _) (Nat.le_max_left _ _))
    · have : (s.plus o).h[a]? = none := List.getElem?_eq_none (by rw [plus_len]; omega)
      rw [this] at e
      cases e
  k := by rw [plus_len]; exact Nat.le_succ_of_le w.k
theorem Inv.plus {o : Ob} (I : Inv N O σ ρ s) (h : o.top ≤ s.h.length) : Inv N O σ ρ (s.plus o) :=
  I.stay (I.wf.plus h) (by rw [plus_len]; omega) (fun a n => plus_old (I.lt a n)) fun i a hi r => plus_old (I.rt i a hi r).2
theorem St.plus {o : Ob} (a : St σ O O1 M N s N1 s1) : St σ O O1 M N s N1 (s1.plus o) where
  dn := a.dn
  len := by rw [plus_len]; exact Nat.le_succ_of_le a.len
  old x hx hm := by rw [plus_old (Nat.lt_of_lt_of_le hx a.len), a.old x hx hm]
  sub := a.sub
  only := a.only
/-! ### values -/
/-- fr: a new object, not known to the others -/
def Val (h : List Ob) (n0 : Nat) (N R : Ad) (fr : Bool) (v : Va) (d : D) : Prop :=
  (Rep h (fun a => N a ∨ R a) v d ∧ (fr = true → NonRef d)) ∨ (fr = true ∧ ∃ a o, d = .ref a ∧ n0 ≤ a ∧ ¬ N a ∧ h[a]? = some o ∧ ObRep h (fun a => N a ∨ R a) v o)
theorem Rts.lt (I : Inv N O σ ρ s) (hL : ∀ i ∈ L, i ∈ O) {a : Nat} (h : Rts σ L a) : a < s.h.length := by
  obtain ⟨i, hi, r⟩ := h
  exact (I.rt i a (hL i hi) r).2
theorem NR.lt (I : Inv N O σ ρ s) (hL : ∀ i ∈ L, i ∈ O) {a : Nat} (h : N a ∨ Rts σ L a) : a < s.h.length := by
  rcases h with h | h
  · exact I.lt a h
  · exact Rts.lt I hL h
theorem new_ok {o : Ob} {v : Va} {n0 : Nat} (I1 : Inv N1 O1 σ ρ1 s1) (hL : ∀ i ∈ L, i ∈ O1) (hn : n0 ≤ s1.h.length) (q : ObRep s1.h (fun a => N1 a ∨ Rts σ L a) v o) : Inv N1 O1 σ ρ1 (s1.plus o) ∧ Val (s1.plus o).h n0 N1 (Rts σ L) true v (.ref s1.h.length) := by
  refine ⟨I1.plus (q.top fun a h => NR.lt I1 hL h), .inr ⟨rfl, s1.h.length, o, rfl, hn, fun h => Nat.lt_irrefl _ (I1.lt _ h), plus_new, q.move fun a o' n e => ⟨n, ?_⟩⟩⟩
  rw [plus_old (List.getElem?_eq_some_iff.mp e).1]
  exact e
/-- what stands while more is evaluated -/
theorem stay_at (I1 : Inv N1 O1 σ ρ1 s1) (hL : ∀ i ∈ L, i ∈ O1) (hd : ∀ i ∈ L, i ∉ M2) (b : St σ O1 O2 M2 N1 s1 N2 s2) {a : Nat} (h : N1 a ∨ Rts σ L a) : s2.h[a]? = s1.h[a]? := by
  refine b.old a (NR.lt I1 hL h) fun j hj ho r => ?_
  rcases h with h | ⟨i, hi, r'⟩
  · exact (I1.rt j a ho r).1 h
  · exact hd i hi (I1.dis i j a (hL i hi) ho r' r ▸ hj)
theorem NR.sub (b : St σ O1 O2 M2 N1 s1 N2 s2) {a : Nat} (h : N1 a ∨ Rts σ L a) : N2 a ∨ Rts σ L a := h.imp (b.sub a) id
theorem NR.more {L' : List Nat} (h : ∀ i ∈ L, i ∈ L') {a : Nat} (q : N a ∨ Rts σ L a) : N a ∨ Rts σ L' a := q.imp id fun ⟨i, hi, r⟩ => ⟨i, h i hi, r⟩
theorem Rep.keep {v : Va} {d : D} (I1 : Inv N1 O1 σ ρ1 s1) (hL : ∀ i ∈ L, i ∈ O1) (hd : ∀ i ∈ L, i ∉ M2) (b : St σ O1 O2 M2 N1 s1 N2 s2) (q : Rep s1.h (fun a => N1 a ∨ Rts σ L a) v d) : Rep s2.h (fun a => N2 a ∨ Rts σ L a) v d :=
  q.move fun a o n e => ⟨NR.sub b n, by rw [stay_at I1 hL hd b n]; exact e⟩
theorem Reps.keep {v : List Va} {d : List D} (I1 : Inv N1 O1 σ ρ1 s1) (hL : ∀ i ∈ L, i ∈ O1) (hd : ∀ i ∈ L, i ∉ M2) (b : St σ O1 O2 M2 N1 s1 N2 s2) (q : Reps s1.h (fun a => N1 a ∨ Rts σ L a) v d) : Reps s2.h (fun a => N2 a ∨ Rts σ L a) v d :=
  q.move fun a o n e => ⟨NR.sub b n, by rw [stay_at I1 hL hd b n]; exact e⟩
/-! ### an owned object is changed -/
theorem getSet {h : List Ob} {a b : Nat} {o : Ob} (hne : b ≠ a) : (h.set a o)[b]? = h[b]? := List.getElem?_set_ne (Ne.symm hne)
theorem write_ok {i a k' : Nat} {o o' : Ob} {v : Va} (I : Inv N O σ ρ s) (hi : i ∈ O) (r : root σ i a) (e : s.h[a]? = some o) (q : ObRep s.h N v o') (ht : o'.top ≤ max (a + 1) k') (hk : s.k ≤ k') (hk2 : k' ≤ s.h.length) :
    Inv N O σ (ρ.set i (some v)) ⟨s.h.set a o', k'⟩ ∧ St σ O O [i] N s N ⟨s.h.set a o', k'⟩ := by
  have la := (List.getElem?_eq_some_iff.mp e).1
  have na := (I.rt i a hi r).1
  have nb : ∀ b, N b → b ≠ a := fun b n z => na (z ▸ n)
  have il : i < σ.length := (List.getElem?_eq_some_iff.mp r).1
  have q' : ObRep (s.h.set a o') N v o' := q.move fun b o n e => ⟨n, (getSet (nb b n)).trans e⟩
  refine ⟨⟨⟨fun b ob eb => ?_, by simpa using hk2⟩, fun b n => by simpa using I.lt b n, fun j w hj ew => ?_, fun j w hj ew => ?_, fun j b hj rj => by simpa using I.rt j b hj rj, I.dis, by simpa using I.len⟩, ⟨fun _ h => h, by simp, fun b hb hm => ?_, fun _ h => h, fun b h => .inl h⟩⟩
  · by_cases hb : b = a
    · subst hb
      simp only [List.getElem?_set_self la, Option.some.injEq] at eb
      subst eb
      exact ht
    · simp only [getSet hb] at eb
      have := I.wf.tp b ob eb
      simp only
      omega
  · have hji : j ≠ i := fun z => hj (z ▸ hi)
    rw [List.getElem?_set_ne (Ne.symm hji)] at ew
    obtain ⟨d, e1, q⟩ := I.rep j w hj ew
    exact ⟨d, e1, q.move fun b o n e => ⟨n, (getSet (nb b n)).trans e⟩⟩
  · by_cases hji : j = i
    · subst hji
      rw [List.getElem?_set_self (by rw [I.len]; exact il)] at ew
      cases ew
      exact ⟨_, r, .inr ⟨a, o', rfl, List.getElem?_set_self la, q'⟩⟩
    · rw [List.getElem?_set_ne (Ne.symm hji)] at ew
      obtain ⟨d, e1, q⟩ := I.own j w hj ew
      exact ⟨d, e1, q.move (fun b o n e => ⟨n, (getSet (nb b n)).trans e⟩) fun b o eb e => by rw [getSet fun z => hji (I.dis j i a hj hi (by rw [root, e1, eb, z]) r)]; exact e⟩
  · exact getSet fun z => hm i (List.mem_singleton.mpr rfl) hi (z ▸ r)
end
end Dv
end

section
/-! Va5 -/
/-! Va5: the operations. -/
namespace Dv
open PySem PySem.W

/-- the items stand in N -/
def RepE (h : List Ob) (N : Ad) (v : Va) (d : D) : Prop := match v with
  | .list vs => ∃ a ds, d = .ref a ∧ h[a]? = some (.list ds) ∧ Reps h N vs ds
  | .dict kvs => ∃ a kds, d = .ref a ∧ h[a]? = some (.dict kds) ∧ RepK h N kvs kds
  | v => Rep h N v d
def OpOk (s : S) (N : Ad) (v : Va) (r : R D) : Prop := (∃ d, r = .ok d s ∧ Rep s.h N v d ∧ NonRef d) ∨ ∃ o, r = .ok (.ref s.h.length) (s.plus o) ∧ ObRep s.h N v o
section
variable {s : S} {h : List Ob} {N N' : Ad}
theorem Rep.el {v : Va} {d : D} (q : Rep h N v d) : RepE h N v d := by
  cases v with
  | list vs => obtain ⟨a, ds, e, n, g, q⟩ := q; exact ⟨a, ds, e, g, q⟩
  | dict vs => obtain ⟨a, ds, e, n, g, q⟩ := q; exact ⟨a, ds, e, g, q⟩
  | _ => exact q
theorem RepE.mono (H : ∀ a, N a → N' a) {v : Va} {d : D} (q : RepE h N v d) : RepE h N' v d := by
  cases v with
  | list vs => obtain ⟨a, ds, e, g, q⟩ := q; exact ⟨a, ds, e, g, q.mono H⟩
  | dict vs => obtain ⟨a, ds, e, g, q⟩ := q; exact ⟨a, ds, e, g, q.mono H⟩
  | non => exact Rep.mono (h := h) (v := .non) H q
  | bl b => exact Rep.mono (h := h) (v := .bl b) H q
  | int b => exact Rep.mono (h := h) (v := .int b) H q
  | str b => exact Rep.mono (h := h) (v := .str b) H q
  | fn b => exact Rep.mono (h := h) (v := .fn b) H q
  | tup b => exact Rep.mono (h := h) (v := .tup b) H q
  | ro b => exact Rep.mono (h := h) (v := .ro b) H q
theorem Rep.nonref {v : Va} {d : D} (q : Rep h N v d) (hv : match v with
    | .list _ => False
    | .dict _ => False
    | _ => True) : NonRef d := by
  cases v with
  | list vs => exact hv.elim
  | dict vs => exact hv.elim
  | non => cases q; exact fun a e => nomatch e
  | bl b => cases q; exact fun a e => nomatch e
  | int b => cases q; exact fun a e => nomatch e
  | str b => cases q; exact fun a e => nomatch e
  | fn b => cases q; exact fun a e => nomatch e
  | tup b => obtain ⟨ds, rfl, _⟩ := q; exact fun a e => nomatch e
  | ro b => obtain ⟨ds, rfl, _⟩ := q; exact fun a e => nomatch e
theorem Rep.nonref_flat {v : Va} {d : D} (q : Rep h N v d) (hv : v.flat = true) : NonRef d := q.nonref (by cases v <;> first | trivial | simp [Va.flat] at hv)
theorem op_truthy {v : Va} {d : D} {b : Bool} (e : vtruthy v = some b) (q : Rep s.h N v d) : truthy d s = some b := by
  cases v with
  | list vs =>
    obtain ⟨a, ds, rfl, n, g, q⟩ := q
    cases e
    have := q.len
    simp only [truthy, g]
    cases ds <;> cases vs <;> simp_all
  | dict vs => cases e
  | non => cases q; exact e
  | bl b => cases q; exact e
  | int b => cases q; exact e
  | str b => cases q; exact e
  | fn b => cases e
  | tup vs =>
    obtain ⟨ds, rfl, q⟩ := q
    cases e
    have := q.len
    simp only [truthy]
    cases ds <;> cases vs <;> simp_all
  | ro b => cases e
theorem op_add {x y z : Va} {dx dy : D} (e : vadd x y = some z) (qx : RepE s.h N x dx) (qy : RepE s.h N y dy) : OpOk s N z (addD dx dy s) := by
  unfold vadd at e
  split at e
  · cases e; cases qx; cases qy; exact .inl ⟨_, rfl, rfl, fun a e => nomatch e⟩
  · split at e
    · rename_i hl
      cases e; cases qx; cases qy
      exact .inl ⟨_, by simp only [addD, if_pos hl], rfl, fun a e => nomatch e⟩
    · cases e
  · split at e
    · rename_i hl
      cases e
      obtain ⟨ds, rfl, q⟩ := qx
      obtain ⟨ds', rfl, q'⟩ := qy
      exact .inl ⟨_, by simp only [addD]; rw [if_pos (by rw [q.len, q'.len]; exact hl)], ⟨_, rfl, q.append q'⟩, fun a e => nomatch e⟩
    · cases e
  · split at e
    · rename_i hl
      cases e
      obtain ⟨a, ds, rfl, g, q⟩ := qx
      obtain ⟨a', ds', rfl, g', q'⟩ := qy
      exact .inr ⟨.list (ds ++ ds'), by simp only [addD, g, g']; rw [if_pos (by rw [q.len, q'.len]; exact hl)]; rfl, _, rfl, q.append q'⟩
    · cases e
  · cases e
theorem op_bin {o : BO} {x y z : Va} {dx dy : D} (e : vbin o x y = some z) (qx : RepE s.h N x dx) (qy : RepE s.h N y dy) : OpOk s N z (binop o dx dy s) := by
  cases o with
  | add => exact op_add e qx qy
  | sub =>
    simp only [vbin, vsub] at e
    split at e
    · cases e; cases qx; cases qy; exact .inl ⟨_, rfl, rfl, fun a e => nomatch e⟩
    · cases e
  | mul =>
    simp only [vbin, vmul] at e
    split at e
    · split at e
      · rename_i hl
        cases e; cases qx; cases qy
        exact .inl ⟨_, by simp only [binop, mulD, if_pos hl], rfl, fun a e => nomatch e⟩
      · cases e
    · split at e
      · rename_i hl
        cases e
        obtain ⟨ds, rfl, q⟩ := qx
        cases qy
        refine .inl ⟨_, by
          simp only [binop, mulD]
          rw [if_pos (by
            refine ⟨fun z => hl.1 ?_, hl.2.1, hl.2.2.1, by rw [q.len]; exact hl.2.2.2⟩
            have := q.len
            rw [z] at this
            exact List.eq_nil_of_length_eq_zero this.symm)], ⟨_, rfl, q.rep _⟩, fun a e => nomatch e⟩
      · cases e
    · split at e
      · rename_i hl
        cases e
        obtain ⟨a, ds, rfl, g, q⟩ := qx
        cases qy
        refine .inr ⟨_, by
          simp only [binop, mulD, g]
          rw [if_pos (by
            refine ⟨hl.1, hl.2.1, by rw [q.len]; exact hl.2.2.1, fun z => hl.2.2.2 ?_⟩
            have := q.len
            rw [z] at this
            exact List.eq_nil_of_length_eq_zero this.symm)]
          rfl, _, rfl, q.rep _⟩
      · cases e
    · cases e
  | mod =>
    simp only [vbin, vmod] at e
    split at e
    · split at e
      · rename_i hl
        cases e; cases qx; cases qy
        exact .inl ⟨_, by simp only [binop, modD, if_pos hl], rfl, fun a e => nomatch e⟩
      · cases e
    · cases e
  | fdiv =>
    simp only [vbin, vfdiv] at e
    split at e
    · split at e
      · rename_i hl
        cases e; cases qx; cases qy
        exact .inl ⟨_, by simp only [binop, fdivD, if_pos hl], rfl, fun a e => nomatch e⟩
      · cases e
    · cases e
  | pow =>
    simp only [vbin, vpow] at e
    split at e
    · split at e
      · rename_i hl
        cases e; cases qx; cases qy
        exact .inl ⟨_, by simp only [binop, powD, if_pos hl], rfl, fun a e => nomatch e⟩
      · cases e
    · cases e
theorem op_eq {x y : Va} {dx dy : D} (qx : Rep s.h N x dx) (qy : Rep s.h N' y dy) : eqD dx dy s = veq x y := by
  unfold eqD veq S.py
  rw [qx.py, qy.py]
  all_goals (cases x.py 5 <;> cases y.py 5 <;> rfl)
theorem op_lt {x y : Va} {dx dy : D} (qx : Rep s.h N x dx) (qy : Rep s.h N' y dy) : ltD dx dy s = vlt x y := by
  unfold ltD vlt S.py
  rw [qx.py, qy.py]
  all_goals (cases x.py 5 <;> cases y.py 5 <;> rfl)
theorem op_key {x : Va} {d : D} (q : Rep s.h N x d) : key? d = vkey? x := by
  cases x with
  | list vs => obtain ⟨a, ds, rfl, _⟩ := q; rfl
  | dict vs => obtain ⟨a, ds, rfl, _⟩ := q; rfl
  | tup b => obtain ⟨ds, rfl, _⟩ := q; rfl
  | ro b => obtain ⟨ds, rfl, _⟩ := q; rfl
  | non => cases q; rfl
  | bl b => cases q; rfl
  | int b => cases q; rfl
  | str b => cases q; rfl
  | fn b => cases q; rfl
theorem op_in {x y : Va} {dx dy : D} {b : Bool} (e : vin x y = some b) (qx : Rep s.h N x dx) (qy : Rep s.h N' y dy) : inD dx dy s = some b := by
  cases y with
  | str z =>
    cases qy
    simp only [vin] at e
    split at e
    · cases e; cases qx; rfl
    · cases e
  | tup ys =>
    obtain ⟨ds, rfl, q⟩ := qy
    simp only [vin] at e
    unfold inD S.py S.pys
    simp only [qx.py, q.py]
    exact e
  | list ys =>
    obtain ⟨a, ds, rfl, n, g, q⟩ := qy
    simp only [vin] at e
    unfold inD S.py S.pys
    simp only [g, qx.py, q.py]
    exact e
  | dict kvs =>
    obtain ⟨a, ds, rfl, n, g, q⟩ := qy
    simp only [vin] at e
    unfold inD
    simp only [g, op_key qx]
    rw [← e]
    cases vkey? x with
    | none => rfl
    | some k =>
      simp only [Option.map]
      obtain ⟨r1, r2⟩ := q.get (k := k)
      cases ev : vget kvs k with
      | none => rw [r2 ev]; rfl
      | some v => obtain ⟨d, e1, _⟩ := r1 v ev; rw [e1]; rfl
  | non => cases e
  | bl b => cases e
  | int b => cases e
  | fn b => cases e
  | ro b => cases e
theorem op_is {x y : Va} {dx dy : D} {b : Bool} (e : vis x y = some b) (qx : Rep s.h N x dx) (qy : Rep s.h N' y dy) : isD dx dy = some b := by
  cases y with
  | non =>
    cases qy
    cases x with
    | non => cases qx; exact e
    | bl b => cases qx; exact e
    | int b => cases qx; exact e
    | str b => cases qx; exact e
    | fn b => cases qx; exact e
    | tup vs => obtain ⟨ds, rfl, _⟩ := qx; exact e
    | ro vs => obtain ⟨ds, rfl, _⟩ := qx; exact e
    | list vs => obtain ⟨a, ds, rfl, _⟩ := qx; exact e
    | dict vs => obtain ⟨a, ds, rfl, _⟩ := qx; exact e
  | bl c =>
    cases qy
    cases x with
    | bl b => cases qx; exact e
    | _ => cases e
  | _ => cases x <;> cases e
theorem op_cmp {o : CO} {x y : Va} {dx dy : D} {b : Bool} (e : vcmp o x y = some b) (qx : Rep s.h N x dx) (qy : Rep s.h N' y dy) : cmpop o dx dy s = some b := by
  cases o with
  | eq => simp only [cmpop, op_eq qx qy]; exact e
  | ne => simp only [cmpop, op_eq qx qy]; exact e
  | lt => simp only [cmpop, op_lt qx qy]; exact e
  | le => simp only [cmpop, op_lt qy qx]; exact e
  | gt => simp only [cmpop, op_lt qy qx]; exact e
  | ge => simp only [cmpop, op_lt qx qy]; exact e
  | in_ => exact op_in e qx qy
  | nin =>
    simp only [vcmp, Option.map_eq_some_iff] at e
    obtain ⟨c, e1, e2⟩ := e
    simp only [cmpop, op_in e1 qx qy, Option.map, e2]
  | is_ => exact op_is e qx qy
  | isn =>
    simp only [vcmp, Option.map_eq_some_iff] at e
    obtain ⟨c, e1, e2⟩ := e
    simp only [cmpop, op_is e1 qx qy, Option.map, e2]
theorem op_atI {vs : List Va} {ds : List D} {k : Int} {v : Va} (e : L2.atI vs k = some v) (q : Reps h N vs ds) : ∃ d, L2.atI ds k = some d ∧ Rep h N v d := by
  unfold L2.atI at e ⊢
  rw [q.len]
  cases hx : L2.ixN vs.length k with
  | none => rw [hx] at e; cases e
  | some j => rw [hx] at e; exact q.get e
theorem op_idx {x i v : Va} {dx di : D} (e : vidx x i = some v) (qx : RepE s.h N x dx) (qi : Rep s.h N' i di) : ∃ d, idxR dx di s = .ok d s ∧ Rep s.h N v d := by
  unfold vidx at e
  split at e
  · obtain ⟨ds, rfl, q⟩ := qx
    cases qi
    obtain ⟨d, e1, q1⟩ := op_atI e q
    exact ⟨d, by simp only [idxR, idx, e1], q1⟩
  · cases qx; cases qi
    simp only [Option.map_eq_some_iff] at e
    obtain ⟨c, e1, rfl⟩ := e
    exact ⟨_, by simp only [idxR, idx, e1, Option.map], rfl⟩
  · obtain ⟨a, ds, rfl, g, q⟩ := qx
    cases qi
    obtain ⟨d, e1, q1⟩ := op_atI e q
    exact ⟨d, by simp only [idxR, idx, g, e1], q1⟩
  · obtain ⟨a, ds, rfl, g, q⟩ := qx
    cases hk : vkey? i with
    | none => rw [hk] at e; cases e
    | some k =>
      rw [hk] at e
      obtain ⟨d, e1, q1⟩ := q.get.1 v e
      exact ⟨d, by simp only [idxR, idx, g, op_key qi, hk, Option.bind, e1], q1⟩
  · cases e
theorem op_seq {x : Va} {dx : D} {xs : List Va} (e : vseq x = some xs) (qx : RepE s.h N x dx) : ∃ ds, seqD dx s = some ds ∧ Reps s.h N xs ds := by
  cases x with
  | tup ys => cases e; obtain ⟨ds, rfl, q⟩ := qx; exact ⟨ds, rfl, q⟩
  | list ys => cases e; obtain ⟨a, ds, rfl, g, q⟩ := qx; exact ⟨ds, by simp only [seqD, g], q⟩
  | _ => cases e
theorem op_mrOk {m : Mr} {x : Va} {dx : D} (e : vmrOk m x = true) (qx : Rep s.h N x dx) : mrOk m dx s = true := by
  cases m with
  | index =>
    simp only [vmrOk, Option.isSome_iff_exists] at e
    obtain ⟨xs, e⟩ := e
    obtain ⟨ds, e1, _⟩ := op_seq e qx.el
    simp only [mrOk, e1, Option.isSome]
theorem vmr_flat {m : Mr} {x z : Va} {vs : List Va} (e : vmr m x vs = some z) (h : mrFlat m = true) : z.flat = true := by
  cases m with
  | index =>
    simp only [vmr, vindex] at e
    split at e
    · split at e
      · split at e
        · simp only [Option.map_eq_some_iff] at e
          obtain ⟨j, _, rfl⟩ := e
          rfl
        · cases e
      · cases e
    · cases e
theorem op_mr {m : Mr} {x z : Va} {vs : List Va} {dx : D} {ds : List D} (e : vmr m x vs = some z) (qx : RepE s.h N x dx) (q : Reps s.h N vs ds) : ∃ d, mrF m dx ds s = .ok d s ∧ Rep s.h N z d := by
  cases m with
  | index =>
    simp only [vmr, vindex] at e
    split at e
    · rename_i y
      obtain ⟨dy, ds', rfl, q1, q2⟩ := q
      cases q2
      split at e
      · rename_i xs hx
        obtain ⟨dxs, e1, q3⟩ := op_seq hx qx
        split at e
        · rename_i ps p h1 h2
          simp only [Option.map_eq_some_iff] at e
          obtain ⟨j, hj, rfl⟩ := e
          refine ⟨.int (j : Nat), ?_, rfl⟩
          have p1 : s.pys dxs = some ps := by rw [← h1]; exact q3.py
          have p2 : s.py dy = some p := by rw [← h2]; exact q1.py
          simp only [mrF, indexF, e1, p1, p2, hj]
        · cases e
      · cases e
    · cases e
theorem op_slice {x v : Va} {dx : D} {l u : Option Int} (e : vslice x l u = some v) (qx : RepE s.h N x dx) : OpOk s N v (sliceD dx l u s) := by
  cases x with
  | tup xs => obtain ⟨ds, rfl, q⟩ := qx; cases e; exact .inl ⟨_, rfl, ⟨_, rfl, q.cutl l u⟩, fun a e => nomatch e⟩
  | str z => cases qx; cases e; exact .inl ⟨_, rfl, rfl, fun a e => nomatch e⟩
  | list xs => obtain ⟨a, ds, rfl, g, q⟩ := qx; cases e; exact .inr ⟨_, by simp only [sliceD, g]; rfl, _, rfl, q.cutl l u⟩
  | ro xs => obtain ⟨ds, rfl, q⟩ := qx; cases e; exact .inr ⟨_, rfl, _, rfl, q.cutl l u⟩
  | _ => cases e
/-! ### built-ins -/
theorem reps_key : ∀ (ks : List Ke), Reps h N (ks.map vkeyD) (ks.map keyD)
  | [] => rfl
  | .inl i :: ks => ⟨_, _, rfl, rfl, reps_key ks⟩
  | .inr x :: ks => ⟨_, _, rfl, rfl, reps_key ks⟩
theorem op_items {x : Va} {dx : D} {vs : List Va} (e : vitems x = some vs) (q : RepE s.h N x dx) : ∃ ds, items dx s = some ds ∧ Reps s.h N vs ds := by
  cases x with
  | tup xs => obtain ⟨ds, rfl, q⟩ := q; cases e; exact ⟨_, rfl, q⟩
  | list xs => obtain ⟨a, ds, rfl, g, q⟩ := q; cases e; exact ⟨ds, by simp only [items, g], q⟩
  | dict kvs =>
    obtain ⟨a, ds, rfl, g, q⟩ := q
    simp only [vitems] at e
    split at e
    · rename_i hk
      cases e
      refine ⟨_, by simp only [items, g]; rw [q.any_all]; exact if_pos hk, ?_⟩
      have e1 : (kvs.map fun p => vkeyD p.1) = (kvs.map (·.1)).map vkeyD := by rw [List.map_map]; rfl
      have e2 : (ds.map fun p => keyD p.1) = (ds.map (·.1)).map keyD := by rw [List.map_map]; rfl
      rw [e1, e2, q.keys]
      exact reps_key _
    · cases e
  | _ => cases e
theorem op_keys : ∀ {vs : List Va} {ds : List D} {ks : List Ke}, vkeys? vs = some ks → Reps s.h N vs ds → keys? ds = some ks
  | [], ds, ks, e, q => by cases q; exact e
  | v :: vs, ds, ks, e, q => by
    obtain ⟨d, ds, rfl, q1, q2⟩ := q
    simp only [vkeys?] at e
    split at e
    · rename_i k l h1 h2
      cases e
      simp only [keys?, op_key q1, h1, op_keys h2 q2]
    · cases e
theorem op_ints : ∀ {vs : List Va} {ds : List D} {ks : List Int}, vints? vs = some ks → Reps h N vs ds → ints? ds = some ks
  | [], ds, ks, e, q => by cases q; exact e
  | v :: vs, ds, ks, e, q => by
    obtain ⟨d, ds, rfl, q1, q2⟩ := q
    cases v with
    | int i =>
      cases q1
      simp only [vints?, Option.map_eq_some_iff] at e
      obtain ⟨l, e1, rfl⟩ := e
      simp only [ints?, op_ints e1 q2, Option.map]
    | _ => cases e
theorem op_bools : ∀ {vs : List Va} {ds : List D} {ks : List Bool}, vbools? vs = some ks → Reps h N vs ds → bools? ds = some ks
  | [], ds, ks, e, q => by cases q; exact e
  | v :: vs, ds, ks, e, q => by
    obtain ⟨d, ds, rfl, q1, q2⟩ := q
    cases v with
    | bl i =>
      cases q1
      simp only [vbools?, Option.map_eq_some_iff] at e
      obtain ⟨l, e1, rfl⟩ := e
      simp only [bools?, op_bools e1 q2, Option.map]
    | _ => cases e
theorem reps_map {α : Type} {f : α → Va} {g : α → D} : ∀ {l : List α}, (∀ z ∈ l, Rep h N (f z) (g z)) → Reps h N (l.map f) (l.map g)
  | [], _ => rfl
  | z :: l, q => ⟨_, _, rfl, q z List.mem_cons_self, reps_map fun y hy => q y (List.mem_cons_of_mem _ hy)⟩
theorem zip3a : ∀ {vs : List Va} {ds : List D} {ps : List PyData}, vs.length = ds.length → vs.zip ps = ((vs.zip ds).zip ps).map fun z => (z.1.1, z.2)
  | [], ds, ps, _ => by simp
  | v :: vs, [], ps, e => by simp at e
  | v :: vs, d :: ds, [], _ => by simp
  | v :: vs, d :: ds, p :: ps, e => by
    simp only [List.zip_cons_cons, List.map_cons]
    rw [zip3a (ds := ds) (by simpa using e)]
theorem zip3b : ∀ {vs : List Va} {ds : List D} {ps : List PyData}, vs.length = ds.length → ds.zip ps = ((vs.zip ds).zip ps).map fun z => (z.1.2, z.2)
  | [], [], ps, _ => by simp
  | [], d :: ds, ps, e => by simp at e
  | v :: vs, [], ps, e => by simp at e
  | v :: vs, d :: ds, [], _ => by simp
  | v :: vs, d :: ds, p :: ps, e => by
    simp only [List.zip_cons_cons, List.map_cons]
    rw [zip3b (vs := vs) (by simpa using e)]
theorem op_sort {vs ws : List Va} {ds : List D} (e : vsort vs = some ws) (q : Reps s.h N vs ds) : ∃ es, sortDs ds s = some es ∧ Reps s.h N ws es := by
  unfold vsort at e
  unfold sortDs S.pys
  rw [q.py]
  cases hp : Va.pys vs 5 with
  | none => rw [hp] at e; cases e
  | some ps =>
    rw [hp] at e
    dsimp only at e ⊢
    by_cases hs : sortable ps = true
    · rw [if_pos hs] at e ⊢
      cases e
      refine ⟨_, rfl, ?_⟩
      obtain ⟨ql, qm⟩ := reps_zip.mp q
      rw [zip3a (ps := ps) ql, zip3b (ps := ps) ql]
      have e1 := List.map_mergeSort (r := fun a b : (Va × D) × PyData => dataLe false (fun x : Va × PyData => x.2) (a.1.1, a.2) (b.1.1, b.2)) (s := dataLe false (fun x : Va × PyData => x.2)) (f := fun z => (z.1.1, z.2)) (l := (vs.zip ds).zip ps) fun a _ b _ => rfl
      have e2 := List.map_mergeSort (r := fun a b : (Va × D) × PyData => dataLe false (fun x : Va × PyData => x.2) (a.1.1, a.2) (b.1.1, b.2)) (s := dataLe false (fun x : D × PyData => x.2)) (f := fun z => (z.1.2, z.2)) (l := (vs.zip ds).zip ps) fun a _ b _ => rfl
      rw [← e1, ← e2, List.map_map, List.map_map]
      exact reps_map fun z hz => qm z.1 (List.of_mem_zip (List.mem_mergeSort.mp hz)).1
    · rw [if_neg hs] at e
      cases e
theorem kind_rep {x : Va} {d : D} {j : Option Ki} (q : RepE s.h N x d) (h : vkind x = some j) : kindD d s = some j := by
  cases x with
  | non => cases q; exact h
  | bl b => cases q; exact h
  | int i => cases q; exact h
  | str z => cases q; exact h
  | tup xs => obtain ⟨ds, rfl, _⟩ := q; exact h
  | list xs => obtain ⟨a, ds, rfl, g, _⟩ := q; simp only [kindD, g]; exact h
  | dict kvs => obtain ⟨a, ds, rfl, g, _⟩ := q; simp only [kindD, g]; exact h
  | fn k => cases h
  | ro xs => cases h
theorem Reps.reverse : ∀ {v : List Va} {d : List D}, Reps h N v d → Reps h N v.reverse d.reverse
  | [], d, q => by cases q; exact rfl
  | v :: vs, d, q => by
    obtain ⟨d, ds, rfl, q1, q2⟩ := q
    rw [List.reverse_cons, List.reverse_cons]
    exact (Reps.reverse q2).append (Reps.one q1)
mutual
theorem op_ofPy : ∀ {p : PyData} {v : Va}, vofPy p = some v → ∃ d, ofPy p = some d ∧ Rep h N v d ∧ NonRef d
  | .none, v, e => by simp [vofPy] at e; subst e; exact ⟨.non, by simp [ofPy], rfl, fun a e => nomatch e⟩
  | .bool b, v, e => by simp [vofPy] at e; subst e; exact ⟨.bl b, by simp [ofPy], rfl, fun a e => nomatch e⟩
  | .int b, v, e => by simp [vofPy] at e; subst e; exact ⟨.int b, by simp [ofPy], rfl, fun a e => nomatch e⟩
  | .str b, v, e => by simp [vofPy] at e; subst e; exact ⟨.str b, by simp [ofPy], rfl, fun a e => nomatch e⟩
  | .tuple xs, v, e => by
    simp only [vofPy, Option.map_eq_some_iff] at e
    obtain ⟨vs, e, rfl⟩ := e
    obtain ⟨ds, e1, q⟩ := op_ofPys e
    exact ⟨.tup ds, by simp [ofPy, e1], ⟨ds, rfl, q⟩, fun a e => nomatch e⟩
  | .list _, v, e => by simp [vofPy] at e
  | .dict _, v, e => by simp [vofPy] at e
theorem op_ofPys : ∀ {p : List PyData} {v : List Va}, vofPy.vofPys p = some v → ∃ d, ofPy.ofPys p = some d ∧ Reps h N v d
  | [], v, e => by simp [vofPy.vofPys] at e; subst e; exact ⟨[], by simp [ofPy.ofPys], rfl⟩
  | p :: ps, v, e => by
    simp only [vofPy.vofPys] at e
    split at e
    · rename_i a b h1 h2
      cases e
      obtain ⟨d, e1, q1, _⟩ := op_ofPy h1
      obtain ⟨ds, e2, q2⟩ := op_ofPys h2
      exact ⟨d :: ds, by simp [ofPy.ofPys, e1, e2], d, ds, rfl, q1, q2⟩
    · cases e
end
theorem op_best {mx : Bool} {ps : List PyData} {v : Va} (e : vbest mx ps = some v) : ∃ d, best mx ps = some d ∧ Rep h N v d ∧ NonRef d := by
  cases ps with
  | nil => cases e
  | cons p ps =>
    simp only [vbest] at e
    split at e
    · rename_i hs
      obtain ⟨d, e1, q⟩ := op_ofPy (h := h) (N := N) e
      exact ⟨d, by simp only [best]; rw [if_pos hs, e1], q⟩
    · cases e
theorem op_bi {b : Bi} {vs : List Va} {ds : List D} {v : Va} (e : vbi b vs = some v) (q : Reps s.h N' vs ds) (qe : ∀ x d, vs = [x] → ds = [d] → RepE s.h N x d) : OpOk s N v (biF b ds s) := by
  have one : ∀ {x : Va}, vs = [x] → ∃ d, ds = [d] ∧ RepE s.h N x d ∧ Rep s.h N' x d := by
    rintro x rfl
    obtain ⟨d, ds', rfl, q1, q2⟩ := q
    cases q2
    exact ⟨d, rfl, qe x d rfl rfl, q1⟩
  cases b with
  | len =>
    simp only [vbi, vlen] at e
    split at e
    · obtain ⟨d, rfl, q1, _⟩ := one rfl
      obtain ⟨ds, rfl, q1⟩ := q1
      cases e
      exact .inl ⟨_, rfl, by rw [q1.len]; rfl, fun a e => nomatch e⟩
    · obtain ⟨d, rfl, q1, _⟩ := one rfl
      cases q1; cases e
      exact .inl ⟨_, rfl, rfl, fun a e => nomatch e⟩
    · obtain ⟨d, rfl, q1, _⟩ := one rfl
      obtain ⟨a, ds, rfl, g, q1⟩ := q1
      cases e
      exact .inl ⟨.int ds.length, by simp only [biF, lenF, g], by rw [q1.len]; rfl, fun a e => nomatch e⟩
    · obtain ⟨d, rfl, q1, _⟩ := one rfl
      obtain ⟨a, ds, rfl, g, q1⟩ := q1
      cases e
      exact .inl ⟨.int ds.length, by simp only [biF, lenF, g], by rw [q1.len]; rfl, fun a e => nomatch e⟩
    · cases e
  | sum =>
    simp only [vbi, vsum] at e
    split at e
    · obtain ⟨d, rfl, q1, _⟩ := one rfl
      obtain ⟨a, ds, rfl, g, q1⟩ := q1
      simp only [Option.map_eq_some_iff] at e
      obtain ⟨l, e1, rfl⟩ := e
      exact .inl ⟨_, by simp only [biF, sumF, list1, g, op_ints e1 q1], rfl, fun a e => nomatch e⟩
    · cases e
  | any =>
    simp only [vbi, vany] at e
    split at e
    · obtain ⟨d, rfl, q1, _⟩ := one rfl
      obtain ⟨a, ds, rfl, g, q1⟩ := q1
      simp only [Option.map_eq_some_iff] at e
      obtain ⟨l, e1, rfl⟩ := e
      exact .inl ⟨_, by simp only [biF, anyF, list1, g, op_bools e1 q1], rfl, fun a e => nomatch e⟩
    · cases e
  | all =>
    simp only [vbi, vall] at e
    split at e
    · obtain ⟨d, rfl, q1, _⟩ := one rfl
      obtain ⟨a, ds, rfl, g, q1⟩ := q1
      simp only [Option.map_eq_some_iff] at e
      obtain ⟨l, e1, rfl⟩ := e
      exact .inl ⟨_, by simp only [biF, allF, list1, g, op_bools e1 q1], rfl, fun a e => nomatch e⟩
    · cases e
  | tuple =>
    simp only [vbi, vtuple] at e
    split at e
    · obtain ⟨d, rfl, q1, _⟩ := one rfl
      obtain ⟨ds, rfl, q1⟩ := q1
      cases e
      exact .inl ⟨_, rfl, ⟨_, rfl, q1⟩, fun a e => nomatch e⟩
    · obtain ⟨d, rfl, q1, _⟩ := one rfl
      obtain ⟨a, ds, rfl, g, q1⟩ := q1
      cases e
      exact .inl ⟨.tup ds, by simp only [biF, tupleF, g], ⟨_, rfl, q1⟩, fun a e => nomatch e⟩
    · cases e
  | list =>
    simp only [vbi, vlist] at e
    split at e
    · obtain ⟨d, rfl, q1, _⟩ := one rfl
      obtain ⟨ds, rfl, q1⟩ := q1
      cases e
      exact .inr ⟨_, rfl, _, rfl, q1⟩
    · obtain ⟨d, rfl, q1, _⟩ := one rfl
      obtain ⟨a, ds, rfl, g, q1⟩ := q1
      cases e
      exact .inr ⟨.list ds, by simp only [biF, listF, g]; rfl, _, rfl, q1⟩
    · cases e
  | sorted =>
    simp only [vbi, vsorted] at e
    split at e
    · split at e
      · rename_i x xs hx
        obtain ⟨d, rfl, q1, _⟩ := one rfl
        obtain ⟨ds, e1, q2⟩ := op_items hx q1
        simp only [Option.map_eq_some_iff] at e
        obtain ⟨l, e2, rfl⟩ := e
        obtain ⟨es, e3, q3⟩ := op_sort e2 q2
        exact .inr ⟨.list es, by simp only [biF, sortedF, e1, e3]; rfl, _, rfl, q3⟩
      · cases e
    · cases e
  | repr =>
    simp only [vbi, vrepr] at e
    split at e
    · split at e
      · rename_i x p hx
        obtain ⟨d, rfl, _, q1⟩ := one rfl
        split at e
        · rename_i hc
          cases e
          exact .inl ⟨_, by simp only [biF, reprF, S.py, q1.py, hx]; rw [if_pos hc], rfl, fun a e => nomatch e⟩
        · cases e
      · cases e
    · cases e
  | sset =>
    simp only [vbi, vsset] at e
    split at e
    · split at e
      · rename_i x ks hx
        obtain ⟨d, rfl, q1, _⟩ := one rfl
        obtain ⟨ds, rfl, q1⟩ := q1
        split at e
        · rename_i hc
          cases e
          exact .inr ⟨_, by simp only [biF, ssetF, op_keys hx q1]; rw [if_pos hc]; rfl, _, rfl, reps_key _⟩
        · cases e
      · cases e
    · split at e
      · rename_i x ks hx
        obtain ⟨d, rfl, q1, _⟩ := one rfl
        obtain ⟨a, ds, rfl, g, q1⟩ := q1
        split at e
        · rename_i hc
          cases e
          exact .inr ⟨_, by simp only [biF, ssetF, g, op_keys hx q1]; rw [if_pos hc]; rfl, _, rfl, reps_key _⟩
        · cases e
      · cases e
    · cases e
  | rev =>
    simp only [vbi, vrev] at e
    split at e
    · obtain ⟨d, rfl, q1, _⟩ := one rfl
      obtain ⟨ds, rfl, q1⟩ := q1
      cases e
      exact .inl ⟨_, rfl, ⟨_, rfl, q1.reverse⟩, fun a e => nomatch e⟩
    · obtain ⟨d, rfl, q1, _⟩ := one rfl
      obtain ⟨a, ds, rfl, g, q1⟩ := q1
      cases e
      exact .inr ⟨_, by simp only [biF, revF, g]; rfl, _, rfl, q1.reverse⟩
    · cases e
  | rev0 =>
    simp only [vbi, vrev0] at e
    split at e
    · obtain ⟨d, rfl, q1, _⟩ := one rfl
      obtain ⟨ds, rfl, q1⟩ := q1
      cases e
      exact .inl ⟨_, rfl, ⟨_, rfl, (q1.drop 1).reverse⟩, fun a e => nomatch e⟩
    · cases e
  | lset =>
    simp only [vbi, vlset] at e
    split at e
    · obtain ⟨d, rfl, q1, _⟩ := one rfl
      split at e
      · rename_i xs hx
        obtain ⟨ds, e1, q2⟩ := op_seq hx q1
        split at e
        · rename_i ks hk
          split at e
          · rename_i hc
            cases e
            exact .inl ⟨_, by simp only [biF, lsetF, e1, op_keys hk q2]; rw [if_pos hc], rfl, fun a e => nomatch e⟩
          · cases e
        · cases e
      · cases e
    · cases e
  | mm mx =>
    simp only [vbi, vmm] at e
    split at e
    · obtain ⟨d, rfl, q1, _⟩ := one rfl
      split at e
      · rename_i xs hx
        obtain ⟨ds, e1, q2⟩ := op_seq hx q1
        split at e
        · rename_i ps hp
          obtain ⟨d2, e2, e3⟩ := op_best (N := N) (h := s.h) e
          have p1 : s.pys ds = some ps := by rw [← hp]; exact q2.py
          exact .inl ⟨d2, by simp only [biF, mmF, e1, p1, e2, R.of_some], e3⟩
        · cases e
      · cases e
    · cases e
  | mmd mx =>
    simp only [vbi, vmmd] at e
    split at e
    · rename_i x k
      obtain ⟨d, ds', rfl, q1, q2⟩ := q
      obtain ⟨d', ds'', rfl, q2, q3⟩ := q2
      cases q3
      cases q2
      split at e
      · rename_i xs hx
        obtain ⟨ds, e1, q2⟩ := op_seq hx q1.el
        split at e
        · rename_i hp
          cases e
          have p1 : s.pys ds = some [] := by rw [← hp]; exact q2.py
          exact .inl ⟨_, by simp only [biF, mmdF, e1, p1], rfl, fun a e => nomatch e⟩
        · rename_i ps hne hp
          obtain ⟨d2, e2, e3⟩ := op_best (N := N) (h := s.h) e
          have p1 : s.pys ds = some ps := by rw [← hp]; exact q2.py
          cases ps with
          | nil => exact absurd rfl hne
          | cons p ps => exact .inl ⟨d2, by simp only [biF, mmdF, e1, p1, e2, R.of_some], e3⟩
        · cases e
      · cases e
    · cases e
  | mm2 mx =>
    simp only [vbi, vmm2] at e
    split at e
    · obtain ⟨d, ds', rfl, q1, q2⟩ := q
      obtain ⟨d', ds'', rfl, q2, q3⟩ := q2
      cases q3
      cases q1
      cases q2
      cases e
      exact .inl ⟨_, rfl, rfl, fun a e => nomatch e⟩
    · cases e
  | trange =>
    simp only [vbi, vtrange] at e
    split at e
    · obtain ⟨d, ds', rfl, q1, q2⟩ := q
      obtain ⟨d', ds'', rfl, q2, q3⟩ := q2
      cases q3
      cases q1
      cases q2
      split at e
      · rename_i hc
        cases e
        exact .inl ⟨_, by simp only [biF, trangeF]; rw [if_pos hc], ⟨_, rfl, reps_map fun z _ => rfl⟩, fun a e => nomatch e⟩
      · cases e
    · cases e
  | inst k =>
    simp only [vbi, vinst] at e
    split at e
    · obtain ⟨d, rfl, q1, _⟩ := one rfl
      rw [Option.map_eq_some_iff] at e
      obtain ⟨j, e1, rfl⟩ := e
      exact .inl ⟨_, by simp only [biF, instF, kind_rep q1 e1], rfl, fun a e => nomatch e⟩
    · cases e
end
end Dv
end

section
/-! Va6 -/
/-! Va6: outcomes side by side. -/
namespace Dv
open PySem PySem.W

/-- an exception's fields name no object -/
def VExRep : VEx → Ex → Prop
  | .own c fs, .own c' fs' => c = c' ∧ fs.map (·.1) = fs'.map (·.1) ∧ Reps [] (fun _ => False) (fs.map (·.2)) (fs'.map (·.2))
def Ok {α β : Type} (σ : Sl) (P O O1 M : List Nat) (N : Ad) (s : S) (Rl : Ad → S → α → β → Prop) (r : VR α) (r' : R β) : Prop := match r with
  | .bad => True
  | .ok v ρ1 => ∃ d s1 N1, r' = .ok d s1 ∧ St σ O O1 M N s N1 s1 ∧ Inv N1 O1 σ ρ1 s1 ∧ Rl N1 s1 v d
  | .exc e ρ1 => ∃ e' s1 N1, r' = .exc e' s1 ∧ St σ O P O N s N1 s1 ∧ Inv N1 P σ ρ1 s1 ∧ VExRep e e'
section
variable {α β γ δ : Type} {σ : Sl} {ρ ρ1 ρ2 : Ev} {P O O1 O2 M M1 M2 L : List Nat} {N N' N1 N2 : Ad} {s s' s1 s2 : S} {r : VR α} {r' : R β}
theorem Ok.bind {R1 : Ad → S → α → β → Prop} {R2 : Ad → S → γ → δ → Prop} {f : α → Ev → VR γ} {f' : β → S → R δ} (h : Ok σ P O O1 M1 N s R1 r r')
    (k : ∀ v d ρ1 s1 N1, St σ O O1 M1 N s N1 s1 → Inv N1 O1 σ ρ1 s1 → R1 N1 s1 v d → Ok σ P O1 O2 M2 N1 s1 R2 (f v ρ1) (f' d s1)) : Ok σ P O O2 (M1 ++ M2) N s R2 (r.bind f) (r'.bind f') := by
  cases r with
  | bad => trivial
  | exc e ρ1 =>
    obtain ⟨e', s1, N1, rfl, q⟩ := h
    exact ⟨e', s1, N1, rfl, q⟩
  | ok v ρ1 =>
    obtain ⟨d, s1, N1, rfl, q1, q2, q3⟩ := h
    have := k v d ρ1 s1 N1 q1 q2 q3
    rw [VR.bind_ok, R.bind_ok]
    cases hf : f v ρ1 with
    | bad => trivial
    | exc e ρ2 =>
      rw [hf] at this
      obtain ⟨e', s2, N2, r1, r2, r3, r4⟩ := this
      exact ⟨e', s2, N2, r1, (q1.trans r2).more (M1 := O) fun i hi ho => ho, r3, r4⟩
    | ok w ρ2 =>
      rw [hf] at this
      obtain ⟨d', s2, N2, r1, r2, r3, r4⟩ := this
      exact ⟨d', s2, N2, r1, q1.trans r2, r3, r4⟩
theorem Ok.imp {R1 R2 : Ad → S → α → β → Prop} (h : Ok σ P O O1 M1 N s R1 r r') (hm : ∀ i ∈ M1, i ∈ M2) (k : ∀ v d ρ1 s1 N1, St σ O O1 M1 N s N1 s1 → Inv N1 O1 σ ρ1 s1 → R1 N1 s1 v d → R2 N1 s1 v d) : Ok σ P O O1 M2 N s R2 r r' := by
  cases r with
  | bad => trivial
  | exc e ρ1 => exact h
  | ok v ρ1 =>
    obtain ⟨d, s1, N1, e, q1, q2, q3⟩ := h
    exact ⟨d, s1, N1, e, q1.more fun i hi _ => hm i hi, q2, k v d ρ1 s1 N1 q1 q2 q3⟩
/-- the last step: nothing but the value is made -/
theorem Ok.map {R1 : Ad → S → α → β → Prop} {R2 : Ad → S → γ → δ → Prop} {f : α → Ev → VR γ} {f' : β → S → R δ} (h : Ok σ P O O1 M N s R1 r r')
    (k : ∀ v d ρ1 s1 N1, St σ O O1 M N s N1 s1 → Inv N1 O1 σ ρ1 s1 → R1 N1 s1 v d → match f v ρ1 with
      | .ok w ρ2 => ρ2 = ρ1 ∧ ∃ d' s2 N2, f' d s1 = .ok d' s2 ∧ St σ O O1 M N s N2 s2 ∧ Inv N2 O1 σ ρ1 s2 ∧ R2 N2 s2 w d'
      | .exc _ _ => False
      | .bad => True) : Ok σ P O O1 M N s R2 (r.bind f) (r'.bind f') := by
  cases r with
  | bad => trivial
  | exc e ρ1 =>
    obtain ⟨e', s1, N1, rfl, q⟩ := h
    exact ⟨e', s1, N1, rfl, q⟩
  | ok v ρ1 =>
    obtain ⟨d, s1, N1, rfl, q1, q2, q3⟩ := h
    have := k v d ρ1 s1 N1 q1 q2 q3
    rw [VR.bind_ok, R.bind_ok]
    cases hf : f v ρ1 with
    | bad => trivial
    | exc e ρ2 => rw [hf] at this; exact this.elim
    | ok w ρ2 =>
      rw [hf] at this
      obtain ⟨rfl, d', s2, N2, r1, r2, r3, r4⟩ := this
      exact ⟨d', s2, N2, r1, r2, r3, r4⟩
/-- fewer are owned behind -/
theorem Ok.drop {R1 : Ad → S → α → β → Prop} {R2 : Ad → S → α → β → Prop} (h : Ok σ P O O1 M N s R1 r r') (h1 : ∀ i ∈ O2, i ∈ O1)
    (k : ∀ v d ρ1 s1 N1, St σ O O1 M N s N1 s1 → Inv N1 O1 σ ρ1 s1 → R1 N1 s1 v d → R2 (rel σ O1 O2 N1) s1 v d) : Ok σ P O O2 M N s R2 r r' := by
  cases r with
  | bad => trivial
  | exc e ρ1 => exact h
  | ok v ρ1 =>
    obtain ⟨d, s1, N1, e, q1, q2, q3⟩ := h
    exact ⟨d, s1, _, e, q1.drop h1, q2.drop h1, k v d ρ1 s1 N1 q1 q2 q3⟩
theorem ok_now {R1 : Ad → S → α → β → Prop} {v : α} {d : β} (I : Inv N O σ ρ s) (h : R1 N s v d) : Ok σ P O O M N s R1 (.ok v ρ) (.ok d s) := ⟨d, s, N, rfl, St.refl fun _ h => h, I, h⟩
/-! ### values of expressions -/
def RV (σ : Sl) (L : List Nat) (e : C) (N1 : Ad) (s1 : S) (v : Va) (d : D) : Prop := Rep s1.h (fun a => N1 a ∨ Rts σ L a) v d ∧ RepE s1.h (fun a => N1 a ∨ Rts σ (eL e L) a) v d
def EV (σ : Sl) (n0 : Nat) (e : C) (A : Ow) (N1 : Ad) (s1 : S) (v : Va) (d : D) : Prop := Val s1.h n0 N1 (Rts σ A.L) A.fr v d ∧ RepE s1.h (fun a => N1 a ∨ Rts σ (eL e A.L) a) v d
theorem Val.el {h : List Ob} {n0 : Nat} {R : Ad} {fr : Bool} {v : Va} {d : D} (q : Val h n0 N R fr v d) : RepE h (fun a => N a ∨ R a) v d := by
  rcases q with ⟨q, _⟩ | ⟨_, a, o, rfl, _, _, e, q⟩
  · exact q.el
  · cases v with
    | list vs => obtain ⟨ds, rfl, q⟩ := q; exact ⟨a, ds, rfl, e, q⟩
    | dict vs => obtain ⟨ds, rfl, q⟩ := q; exact ⟨a, ds, rfl, e, q⟩
    | _ => exact q.elim
def notLoc : C → Bool
  | .loc _ => false
  | _ => true
theorem eL_not {e : C} (h : notLoc e = true) (L : List Nat) : eL e L = L := by cases e <;> first | rfl | cases h
theorem EV.of {n0 : Nat} {e : C} {A : Ow} {v : Va} {d : D} (h : notLoc e = true) (q : Val s1.h n0 N1 (Rts σ A.L) A.fr v d) : EV σ n0 e A N1 s1 v d := ⟨q, by rw [eL_not h]; exact q.el⟩
theorem Ok.rv {e : C} {A : Ow} {r : VR Va} {r' : R D} (I : Inv N O σ ρ s) (h : Ok σ P O A.O A.M N s (EV σ s.h.length e A) r r') : Ok σ P O A.O A.M N s (RV σ A.L e) r r' := by
  cases r with
  | bad => trivial
  | exc e ρ1 => exact h
  | ok v ρ1 =>
    obtain ⟨d, s1, N1, er, q1, q2, q3, q4⟩ := h
    rcases q3 with ⟨q3, _⟩ | ⟨_, a, o, rfl, hn, na, ea, q3⟩
    · exact ⟨d, s1, N1, er, q1, q2, q3, q4⟩
    · have gr : ∀ x, N1 x → N1 x ∨ x = a := fun x h => .inl h
      have gr2 : ∀ {R : Ad} x, N1 x ∨ R x → (N1 x ∨ x = a) ∨ R x := fun x h => h.imp (gr x) id
      refine ⟨_, s1, fun x => N1 x ∨ x = a, er, q1.grow gr fun x h => ?_, q2.grow gr (fun x h => ?_) fun i x hi r h => ?_, ?_, q4.mono gr2⟩
      · rcases h with h | rfl
        · exact .inl h
        · exact .inr (.inl hn)
      · rcases h with h | rfl
        · exact q2.lt x h
        · exact (List.getElem?_eq_some_iff.mp ea).1
      · rcases h with h | rfl
        · exact (q2.rt i x hi r).1 h
        · exact Nat.lt_irrefl _ (Nat.lt_of_lt_of_le (I.rt i x (q1.dn i hi) r).2 hn)
      · cases v with
        | list vs => obtain ⟨ds, rfl, q⟩ := q3; exact ⟨a, ds, rfl, .inl (.inr rfl), ea, q.mono gr2⟩
        | dict vs => obtain ⟨ds, rfl, q⟩ := q3; exact ⟨a, ds, rfl, .inl (.inr rfl), ea, q.mono gr2⟩
        | _ => exact q3.elim
/-- an operation's outcome -/
theorem OpOk.ok {v : Va} {rd : R D} {n0 : Nat} (I1 : Inv N1 O1 σ ρ1 s1) (hL : ∀ i ∈ L, i ∈ O1) (hn : n0 ≤ s1.h.length) (S1 : St σ O O1 M N s N1 s1) (q : OpOk s1 (fun a => N1 a ∨ Rts σ L a) v rd) :
    ∃ d s2, rd = .ok d s2 ∧ St σ O O1 M N s N1 s2 ∧ Inv N1 O1 σ ρ1 s2 ∧ Val s2.h n0 N1 (Rts σ L) true v d := by
  rcases q with ⟨d, e, q, nr⟩ | ⟨o, e, q⟩
  · exact ⟨d, s1, e, S1, I1, .inl ⟨q, fun _ => nr⟩⟩
  · obtain ⟨h1, h2⟩ := new_ok (n0 := n0) I1 hL hn q
    exact ⟨_, _, e, S1.plus, h1, h2⟩
/-- arguments: those handed over whole stand in their slots -/
def Args (h : List Ob) (N : Ad) (σ : Sl) (io : List Nat) : Nat → List C → List Va → List D → Prop
  | _, [], [], [] => True
  | j, e :: es, v :: vs, d :: ds => (if io.contains j = true then ∃ i, e = .loc i ∧ σ[i]? = some (some d) else Rep h N v d) ∧ Args h N σ io (j + 1) es vs ds
  | _, _, _, _ => False
theorem Args.move {h h' : List Ob} {io : List Nat} (H : ∀ a o, N a → h[a]? = some o → N' a ∧ h'[a]? = some o) : ∀ {j : Nat} {es : List C} {vs : List Va} {ds : List D}, Args h N σ io j es vs ds → Args h' N' σ io j es vs ds
  | j, [], [], [], q => q
  | j, e :: es, v :: vs, d :: ds, q => by
    obtain ⟨q1, q2⟩ := q
    refine ⟨?_, q2.move H⟩
    split
    · rename_i hc; rw [if_pos hc] at q1; exact q1
    · rename_i hc; rw [if_neg hc] at q1; exact q1.move H
  | j, [], [], _ :: _, q => q.elim
  | j, [], _ :: _, _, q => q.elim
  | j, _ :: _, [], _, q => q.elim
  | j, _ :: _, _ :: _, [], q => q.elim
theorem Args.reps {h : List Ob} : ∀ {j : Nat} {es : List C} {vs : List Va} {ds : List D}, Args h N σ [] j es vs ds → Reps h N vs ds
  | j, [], [], [], q => rfl
  | j, e :: es, v :: vs, d :: ds, q => by
    obtain ⟨q1, q2⟩ := q
    rw [if_neg (by simp)] at q1
    exact ⟨d, ds, rfl, q1, q2.reps⟩
  | j, [], [], _ :: _, q => q.elim
  | j, [], _ :: _, _, q => q.elim
  | j, _ :: _, [], _, q => q.elim
  | j, _ :: _, _ :: _, [], q => q.elim
theorem Args.get {h : List Ob} {io : List Nat} : ∀ {j : Nat} {es : List C} {vs : List Va} {ds : List D}, Args h N σ io j es vs ds → vs.length = es.length ∧ ds.length = es.length ∧
    ∀ p v, vs[p]? = some v → ∃ d, ds[p]? = some d ∧ (if io.contains (j + p) = true then ∃ i, es[p]? = some (.loc i) ∧ σ[i]? = some (some d) else Rep h N v d)
  | j, [], [], [], q => ⟨rfl, rfl, fun p v e => by simp at e⟩
  | j, e :: es, v :: vs, d :: ds, q => by
    obtain ⟨q1, q2⟩ := q
    obtain ⟨r1, r2, r3⟩ := q2.get
    refine ⟨by simp [r1], by simp [r2], fun p x ex => ?_⟩
    cases p with
    | zero =>
      cases ex
      refine ⟨d, rfl, ?_⟩
      rw [Nat.add_zero]
      split
      · rename_i hc
        rw [if_pos hc] at q1
        obtain ⟨i, rfl, e2⟩ := q1
        exact ⟨i, rfl, e2⟩
      · rename_i hc
        rw [if_neg hc] at q1
        exact q1
    | succ p =>
      obtain ⟨y, e1, e2⟩ := r3 p x (by simpa using ex)
      refine ⟨y, by simpa using e1, ?_⟩
      rw [show j + (p + 1) = j + 1 + p by omega]
      simpa using e2
  | j, [], [], _ :: _, q => q.elim
  | j, [], _ :: _, _, q => q.elim
  | j, _ :: _, [], _, q => q.elim
  | j, _ :: _, _ :: _, [], q => q.elim
/-! ### static facts -/
theorem chk_ok {A : Ow} {o : Option Ow} (h : chk P O o = some A) : o = some A ∧ (∀ i ∈ P, i ∈ A.O) ∧ (∀ i ∈ A.L, i ∈ A.O) ∧ (∀ i ∈ A.O, i ∈ O) := by
  unfold chk at h
  split at h
  · split at h
    · rename_i hc
      cases h
      simp only [Bool.and_eq_true, lsst_iff] at hc
      exact ⟨rfl, hc.1.1, hc.1.2, hc.2⟩
    · cases h
  · cases h
end
end Dv
end

section
/-! Va7 -/
/-! Va7: calls. -/
namespace Dv
open PySem PySem.W

/-- what a function of plain values says of a function over the heap -/
def COk (tb : Nat → Option Fi) (f : CallT) (g : VCall) : Prop := ∀ k fi, tb k = some fi → ∀ (N : Ad) (vs : List Va) (ds : List D) (s : S), Inv N fi.io (ds.map some) (vs.map some) s → match g k vs with
  | .bad => True
  | .ok v os => ∃ d s1 N1 ρ', f k ds s = .ok d s1 ∧ St (ds.map some) fi.io fi.io fi.io N s N1 s1 ∧ Inv N1 fi.io (ds.map some) ρ' s1 ∧ outs fi.io ρ' = some os ∧ Val s1.h s.h.length N1 (fun _ => False) fi.fr v d ∧ (fi.flat = true → v.flat = true)
  | .exc e os => ∃ e' s1 N1 ρ', f k ds s = .exc e' s1 ∧ St (ds.map some) fi.io fi.io fi.io N s N1 s1 ∧ Inv N1 fi.io (ds.map some) ρ' s1 ∧ outs fi.io ρ' = some os ∧ VExRep e e'
section
variable {σ : Sl} {ρ ρ1 ρ2 ρ' ρc : Ev} {P O O1 O2 M M1 M2 L : List Nat} {N N' N1 N2 Nc : Ad} {s s' s1 s2 : S} {es : List C} {vs vs' os : List Va} {ds : List D} {io is : List Nat}
theorem iosl_mem : ∀ {io is : List Nat}, iosl es io = some is → (∀ i ∈ is, ∃ p ∈ io, es[p]? = some (.loc i)) ∧ ∀ p ∈ io, ∃ i ∈ is, es[p]? = some (.loc i)
  | [], is, h => by cases h; exact ⟨fun i hi => by simp at hi, fun p hp => by simp at hp⟩
  | p :: ps, is, h => by
    unfold iosl at h
    split at h
    · rename_i i l h1 h2
      cases h
      obtain ⟨r1, r2⟩ := iosl_mem h2
      refine ⟨fun j hj => ?_, fun q hq => ?_⟩
      · rcases List.mem_cons.mp hj with rfl | hj
        · exact ⟨p, List.mem_cons_self, h1⟩
        · obtain ⟨q, hq, e⟩ := r1 j hj; exact ⟨q, List.mem_cons_of_mem _ hq, e⟩
      · rcases List.mem_cons.mp hq with rfl | hq
        · exact ⟨i, List.mem_cons_self, h1⟩
        · obtain ⟨j, hj, e⟩ := r2 q hq; exact ⟨j, List.mem_cons_of_mem _ hj, e⟩
    · cases h
theorem iosl_inj : ∀ {io is : List Nat}, iosl es io = some is → is.Nodup → ∀ {p q i : Nat}, p ∈ io → q ∈ io → es[p]? = some (.loc i) → es[q]? = some (.loc i) → p = q
  | [], is, h, nd, p, q, i, hp, _, _, _ => by simp at hp
  | x :: xs, is, h, nd, p, q, i, hp, hq, ep, eq => by
    unfold iosl at h
    split at h
    · rename_i j l h1 h2
      cases h
      obtain ⟨n1, n2⟩ := List.nodup_cons.mp nd
      obtain ⟨_, r2⟩ := iosl_mem h2
      have out : ∀ {y : Nat}, y ∈ xs → es[y]? = some (.loc i) → i ∈ l := fun {y} hy ey => by
        obtain ⟨k, hk, e⟩ := r2 y hy
        rw [e] at ey
        cases ey
        exact hk
      by_cases px : p = x <;> by_cases qx : q = x
      · rw [px, qx]
      · rw [px, h1] at ep; cases ep; exact absurd (out ((List.mem_cons.mp hq).resolve_left qx) eq) n1
      · rw [qx, h1] at eq; cases eq; exact absurd (out ((List.mem_cons.mp hp).resolve_left px) ep) n1
      · exact iosl_inj h2 n2 ((List.mem_cons.mp hp).resolve_left px) ((List.mem_cons.mp hq).resolve_left qx) ep eq
    · cases h
theorem vfront_get : ∀ {io : List Nat} {vs vs' : List Va}, vfront io es vs ρ = some vs' → io.Nodup → vs'.length = vs.length ∧ (∀ p, p ∉ io → vs'[p]? = vs[p]?) ∧ ∀ p v, p ∈ io → vs'[p]? = some v → ∃ i, es[p]? = some (.loc i) ∧ ρ[i]? = some (some v)
  | [], vs, vs', h, nd => by cases h; exact ⟨rfl, fun _ _ => rfl, fun p v hp => by simp at hp⟩
  | p :: ps, vs, vs', h, nd => by
    unfold vfront at h
    split at h
    · rename_i i h1
      split at h
      · rename_i v h2
        obtain ⟨n1, n2⟩ := List.nodup_cons.mp nd
        obtain ⟨r1, r2, r3⟩ := vfront_get h n2
        refine ⟨by simpa using r1, fun q hq => ?_, fun q w hq ew => ?_⟩
        · have hqp : q ≠ p := fun z => hq (z ▸ List.mem_cons_self)
          rw [r2 q fun z => hq (List.mem_cons_of_mem _ z), List.getElem?_set_ne (Ne.symm hqp)]
        · rcases List.mem_cons.mp hq with rfl | hq
          · rw [r2 q n1] at ew
            have hl : q < vs.length := by
              have := (List.getElem?_eq_some_iff.mp ew).1
              simpa using this
            rw [List.getElem?_set_self hl] at ew
            cases ew
            exact ⟨i, h1, h2⟩
          · exact r3 q w hq ew
      · cases h
    · cases h
theorem outs_get : ∀ {io : List Nat} {os : List Va}, outs io ρc = some os → ∀ p ∈ io, ∃ v, ρc[p]? = some (some v)
  | [], os, h, p, hp => by simp at hp
  | q :: qs, os, h, p, hp => by
    unfold outs at h
    split at h
    · rename_i v vs h1 h2
      rcases List.mem_cons.mp hp with rfl | hp
      · exact ⟨v, h1⟩
      · exact outs_get h2 p hp
    · cases h
theorem vback_get : ∀ {io is : List Nat} {os : List Va} {ρ ρ' : Ev}, iosl es io = some is → is.Nodup → outs io ρc = some os → vback io es os ρ = some ρ' →
    ρ'.length = ρ.length ∧ (∀ j, j ∉ is → ρ'[j]? = ρ[j]?) ∧ ∀ p i v, p ∈ io → es[p]? = some (.loc i) → ρ'[i]? = some (some v) → ρc[p]? = some (some v)
  | [], is, os, ρ, ρ', h1, nd, h2, h3 => by
    cases h1; cases h2; cases h3
    exact ⟨rfl, fun _ _ => rfl, fun p i v hp => by simp at hp⟩
  | p :: ps, is, os, ρ, ρ', h1, nd, h2, h3 => by
    unfold iosl at h1
    split at h1
    · rename_i i l e1 e2
      cases h1
      obtain ⟨n1, n2⟩ := List.nodup_cons.mp nd
      unfold outs at h2
      split at h2
      · rename_i v vs g1 g2
        cases h2
        simp only [vback, e1] at h3
        obtain ⟨r1, r2, r3⟩ := vback_get e2 n2 g2 h3
        refine ⟨by simpa using r1, fun j hj => ?_, fun q j w hq eq ew => ?_⟩
        · rw [r2 j fun z => hj (List.mem_cons_of_mem _ z)]
          exact List.getElem?_set_ne fun z => hj (by rw [← z]; exact List.mem_cons_self)
        · rcases List.mem_cons.mp hq with rfl | hq
          · rw [e1] at eq
            cases eq
            rw [r2 i n1] at ew
            have hl : i < ρ.length := by
              have := (List.getElem?_eq_some_iff.mp ew).1
              simpa using this
            rw [List.getElem?_set_self hl] at ew
            cases ew
            exact g1
          · exact r3 q j w hq eq ew
      · cases h2
    · cases h1
/-- what the called function is given -/
theorem front_inv (I : Inv N1 O σ ρ1 s1) (hA : Args s1.h (fun a => N1 a ∨ Rts σ L a) σ io 0 es vs ds) (his : iosl es io = some is) (nd : is.Nodup) (nio : io.Nodup) (hl : ∀ p ∈ io, p < es.length)
    (hs : ∀ i ∈ is, i ∈ O) (hL : ∀ i ∈ L, i ∈ O) (hd : ∀ i ∈ is, i ∉ L) (hv : vfront io es vs ρ1 = some vs') : Inv (fun a => N1 a ∨ Rts σ L a) io (ds.map some) (vs'.map some) s1 := by
  obtain ⟨l1, l2, l3⟩ := hA.get
  obtain ⟨f1, f2, f3⟩ := vfront_get hv nio
  obtain ⟨m1, m2⟩ := iosl_mem his
  -- an argument handed over whole is its slot's object
  have slot : ∀ p d, p ∈ io → ds[p]? = some d → ∃ i ∈ is, es[p]? = some (.loc i) ∧ σ[i]? = some (some d) := fun p d hp hd' => by
    have hvp : p < vs.length := by rw [l1]; exact hl p hp
    obtain ⟨y, e1, e2⟩ := l3 p _ (List.getElem?_eq_getElem hvp)
    rw [if_pos (by simpa using hp)] at e2
    obtain ⟨i, ei, es'⟩ := e2
    rw [hd'] at e1
    cases e1
    obtain ⟨j, hj, ej⟩ := m2 p hp
    rw [ei] at ej
    cases ej
    exact ⟨i, hj, ei, es'⟩
  have rt : ∀ p a, p ∈ io → root (ds.map some) p a → ∃ i ∈ is, es[p]? = some (.loc i) ∧ root σ i a := fun p a hp r => by
    unfold root at r
    rw [List.getElem?_map, Option.map_eq_some_iff] at r
    obtain ⟨d, ed, e⟩ := r
    cases e
    exact slot p _ hp ed
  have val : ∀ {l : List Va} {p : Nat} {v : Va}, (l.map some)[p]? = some (some v) → l[p]? = some v := fun {l p v} h => by
    rw [List.getElem?_map, Option.map_eq_some_iff] at h
    obtain ⟨w, e1, e2⟩ := h
    cases e2
    exact e1
  have put : ∀ {p : Nat} {d : D}, ds[p]? = some d → (ds.map some)[p]? = some (some d) := fun {p d} h => by rw [List.getElem?_map, h]; rfl
  refine ⟨I.wf, fun a h => NR.lt I hL h, fun p v hp ev => ?_, fun p v hp ev => ?_, fun p a hp r => ?_, fun p q a hp hq r r' => ?_, by simp [f1, l1, l2]⟩
  · have ev := val ev
    rw [f2 p hp] at ev
    obtain ⟨d, e1, e2⟩ := l3 p v ev
    rw [if_neg (by simpa using hp)] at e2
    exact ⟨d, put e1, e2⟩
  · have ev := val ev
    obtain ⟨i, ei, ri⟩ := f3 p v hp ev
    have hdl : p < ds.length := by rw [l2]; exact hl p hp
    obtain ⟨j, hj, ej, sj⟩ := slot p _ hp (List.getElem?_eq_getElem hdl)
    rw [ei] at ej
    cases ej
    obtain ⟨d, e1, q⟩ := I.own i v (hs i hj) ri
    rw [sj] at e1
    cases e1
    exact ⟨_, put (List.getElem?_eq_getElem hdl), q.move (fun a o n e => ⟨.inl n, e⟩) fun a o _ e => e⟩
  · obtain ⟨i, hi, _, r⟩ := rt p a hp r
    obtain ⟨h1, h2⟩ := I.rt i a (hs i hi) r
    refine ⟨fun h => ?_, h2⟩
    rcases h with h | ⟨j, hj, rj⟩
    · exact h1 h
    · exact hd i hi (I.dis i j a (hs i hi) (hL j hj) r rj ▸ hj)
  · obtain ⟨i, hi, ei, ri⟩ := rt p a hp r
    obtain ⟨j, hj, ej, rj⟩ := rt q a hq r'
    have := I.dis i j a (hs i hi) (hs j hj) ri rj
    subst this
    exact iosl_inj his nd hp hq ei ej
/-- behind a call that was handed nothing whole -/
theorem behind0 (I : Inv N1 O σ ρ1 s1) (hL : ∀ i ∈ L, i ∈ O) (S2 : St (ds.map some) [] [] [] (fun a => N1 a ∨ Rts σ L a) s1 N2 s2) (J : Inv N2 [] (ds.map some) ρ' s2) :
    Inv (fun a => N2 a ∧ ¬ Rts σ L a) O σ ρ1 s2 ∧ St σ O O [] N1 s1 (fun a => N2 a ∧ ¬ Rts σ L a) s2 := by
  have old : ∀ a, a < s1.h.length → s2.h[a]? = s1.h[a]? := fun a h => S2.old a h fun i hi => by simp at hi
  have sub : ∀ a, N1 a → N2 a ∧ ¬ Rts σ L a := fun a h => ⟨S2.sub a (.inl h), fun ⟨i, hi, r⟩ => (I.rt i a (hL i hi) r).1 h⟩
  have only : ∀ a, N2 a ∧ ¬ Rts σ L a → N1 a ∨ s1.h.length ≤ a := fun a ⟨h, hn⟩ => by
    rcases S2.only a h with (h | h) | h | ⟨i, hi, _⟩
    · exact .inl h
    · exact absurd h hn
    · exact .inr h
    · simp at hi
  refine ⟨(I.stay J.wf S2.len (fun a n => old a (I.lt a n)) fun i a hi r => old a (I.rt i a hi r).2).grow sub (fun a h => J.lt a h.1) fun i a hi r h => ?_, ⟨fun _ h => h, S2.len, fun a ha _ => old a ha, sub, fun a h => ?_⟩⟩
  · rcases only a h with h | h
    · exact (I.rt i a hi r).1 h
    · exact Nat.lt_irrefl _ (Nat.lt_of_lt_of_le (I.rt i a hi r).2 h)
  · rcases only a h with h | h
    · exact .inl h
    · exact .inr (.inl h)
/-- behind a call that was handed some slots' objects -/
theorem behind1 (I : Inv N1 O σ ρ1 s1) (hA : Args s1.h (fun a => N1 a ∨ Rts σ L a) σ io 0 es vs ds) (his : iosl es io = some is) (nd : is.Nodup) (hl : ∀ p ∈ io, p < es.length)
    (hs : ∀ i ∈ is, i ∈ O) (hL : ∀ i ∈ L, i ∈ O) (hd : ∀ i ∈ is, i ∉ L) (S2 : St (ds.map some) io io io (fun a => N1 a ∨ Rts σ L a) s1 N2 s2) (J : Inv N2 io (ds.map some) ρc s2) (ho : outs io ρc = some os) (hb : vback io es os ρ1 = some ρ') :
    Inv N2 (lsub O L) σ ρ' s2 ∧ St σ O (lsub O L) is N1 s1 N2 s2 := by
  obtain ⟨l1, l2, l3⟩ := hA.get
  obtain ⟨m1, m2⟩ := iosl_mem his
  obtain ⟨b1, b2, b3⟩ := vback_get his nd ho hb
  have slot : ∀ p, p ∈ io → ∃ i ∈ is, ∃ d, es[p]? = some (.loc i) ∧ ds[p]? = some d ∧ σ[i]? = some (some d) := fun p hp => by
    have hvp : p < vs.length := by rw [l1]; exact hl p hp
    obtain ⟨y, e1, e2⟩ := l3 p _ (List.getElem?_eq_getElem hvp)
    rw [if_pos (by simpa using hp)] at e2
    obtain ⟨i, ei, es'⟩ := e2
    obtain ⟨j, hj, ej⟩ := m2 p hp
    rw [ei] at ej
    cases ej
    exact ⟨i, hj, y, ei, e1, es'⟩
  -- the other way round: a slot handed over is some argument
  have arg : ∀ i, i ∈ is → ∃ p ∈ io, ∃ d, es[p]? = some (.loc i) ∧ ds[p]? = some d ∧ σ[i]? = some (some d) := fun i hi => by
    obtain ⟨p, hp, e⟩ := m1 i hi
    obtain ⟨j, hj, d, e1, e2, e3⟩ := slot p hp
    rw [e] at e1
    cases e1
    exact ⟨p, hp, d, e, e2, e3⟩
  have argR : ∀ p a, p ∈ io → root (ds.map some) p a → ∃ i ∈ is, root σ i a := fun p a hp r => by
    obtain ⟨i, hi, d, _, e2, e3⟩ := slot p hp
    unfold root at r
    rw [List.getElem?_map, e2] at r
    cases r
    exact ⟨i, hi, e3⟩
  have rArg : ∀ i a, i ∈ is → root σ i a → ∃ p ∈ io, root (ds.map some) p a := fun i a hi r => by
    obtain ⟨p, hp, d, _, e2, e3⟩ := arg i hi
    rw [root, e3] at r
    cases r
    exact ⟨p, hp, by rw [root, List.getElem?_map, e2]; rfl⟩
  have old : ∀ a, a < s1.h.length → (∀ i ∈ is, ¬ root σ i a) → s2.h[a]? = s1.h[a]? := fun a ha hn => S2.old a ha fun p hp _ r => by
    obtain ⟨i, hi, r⟩ := argR p a hp r
    exact hn i hi r
  have oldN : ∀ a, N1 a → s2.h[a]? = s1.h[a]? := fun a n => old a (I.lt a n) fun i hi r => (I.rt i a (hs i hi) r).1 n
  have oldR : ∀ i a, i ∈ O → i ∉ is → root σ i a → s2.h[a]? = s1.h[a]? := fun i a hi hn r => old a (I.rt i a hi r).2 fun j hj rj => hn (I.dis i j a hi (hs j hj) r rj ▸ hj)
  have sub : ∀ a, N1 a → N2 a := fun a h => S2.sub a (.inl h)
  have inO : ∀ {i : Nat}, i ∈ is → i ∈ lsub O L := fun {i} hi => mem_lsub.mpr ⟨hs i hi, hd i hi⟩
  refine ⟨⟨J.wf, J.lt, fun i v hi ev => ?_, fun i v hi ev => ?_, fun i a hi r => ?_, fun i j a hi hj => I.dis i j a (mem_lsub.mp hi).1 (mem_lsub.mp hj).1, by rw [b1]; exact I.len⟩, ⟨fun i hi => (mem_lsub.mp hi).1, S2.len, fun a ha hn => old a ha fun i hi => hn i hi (hs i hi), sub, fun a h => ?_⟩⟩
  · have hn : i ∉ is := fun z => hi (inO z)
    rw [b2 i hn] at ev
    by_cases hO : i ∈ O
    · obtain ⟨d, e1, q⟩ := I.own i v hO ev
      have hL' : i ∈ L := by
        by_cases z : i ∈ L
        · exact z
        · exact absurd (mem_lsub.mpr ⟨hO, z⟩) hi
      exact ⟨d, e1, (q.move (N' := N1) (h' := s2.h) (fun a o n e => ⟨n, by rw [oldN a n]; exact e⟩) fun a o ed e => by rw [oldR i a hO hn (by rw [root, e1, ed])]; exact e).rep sub fun a ed => S2.sub a (.inr ⟨i, hL', by rw [root, e1, ed]⟩)⟩
    · obtain ⟨d, e1, q⟩ := I.rep i v hO ev
      exact ⟨d, e1, q.move fun a o n e => ⟨sub a n, by rw [oldN a n]; exact e⟩⟩
  · by_cases hn : i ∈ is
    · obtain ⟨p, hp, d, e1, e2, e3⟩ := arg i hn
      have := b3 p i v hp e1 ev
      obtain ⟨d', e4, q⟩ := J.own p v hp this
      rw [List.getElem?_map, e2] at e4
      cases e4
      exact ⟨d, e3, q⟩
    · rw [b2 i hn] at ev
      have hO := (mem_lsub.mp hi).1
      obtain ⟨d, e1, q⟩ := I.own i v hO ev
      exact ⟨d, e1, q.move (fun a o n e => ⟨sub a n, by rw [oldN a n]; exact e⟩) fun a o ed e => by rw [oldR i a hO hn (by rw [root, e1, ed])]; exact e⟩
  · have hO := (mem_lsub.mp hi).1
    refine ⟨fun h => ?_, Nat.lt_of_lt_of_le (I.rt i a hO r).2 S2.len⟩
    by_cases hn : i ∈ is
    · obtain ⟨p, hp, rp⟩ := rArg i a hn r
      exact (J.rt p a hp rp).1 h
    · rcases S2.only a h with (h | ⟨j, hj, rj⟩) | h | ⟨p, hp, rp⟩
      · exact (I.rt i a hO r).1 h
      · exact (mem_lsub.mp hi).2 (I.dis i j a hO (hL j hj) r rj ▸ hj)
      · exact Nat.lt_irrefl _ (Nat.lt_of_lt_of_le (I.rt i a hO r).2 h)
      · obtain ⟨j, hj, rj⟩ := argR p a hp rp
        exact hn (I.dis i j a hO (hs j hj) r rj ▸ hj)
  · rcases S2.only a h with (h | ⟨j, hj, rj⟩) | h | ⟨p, hp, rp⟩
    · exact .inl h
    · exact .inr (.inr ⟨j, hL j hj, rj⟩)
    · exact .inr (.inl h)
    · obtain ⟨j, hj, rj⟩ := argR p a hp rp
      exact .inr (.inr ⟨j, hs j hj, rj⟩)
end
end Dv
end

section
/-! Va8 -/
/-! Va8: calls, walks and comprehensions side by side. -/
namespace Dv
open PySem PySem.W

section
variable {tb : Nat → Option Fi} {f : CallT} {g : VCall} {k : Nat} {fi : Fi}
variable {σ σt : Sl} {ρ ρ1 ρ2 ρ' ρt : Ev} {P O O1 O2 M M1 M2 L is : List Nat} {N N' N1 N2 : Ad} {s s' s1 s2 : S} {es : List C} {vs : List Va} {ds : List D}
theorem rts_nil {a : Nat} : ¬ Rts σ [] a := fun ⟨i, hi, _⟩ => by simp at hi
theorem call_ok0 (C : COk tb f g) (hk : tb k = some fi) (hio : fi.io = []) (I : Inv N1 O σ ρ1 s1) (hA : Args s1.h (fun a => N1 a ∨ Rts σ L a) σ [] 0 es vs ds) (hL : ∀ i ∈ L, i ∈ O) (hP : ∀ i ∈ P, i ∈ O) :
    Ok σ P O O [] N1 s1 (fun N2 s2 v d => Val s2.h s1.h.length N2 (Rts σ (if fi.flat then [] else L)) fi.fr v d) (doCall g k fi.io es vs ρ1) (f k ds s1) := by
  have J0 := front_inv (io := []) (is := []) I hA rfl List.nodup_nil List.nodup_nil (fun p hp => by simp at hp) (fun i hi => by simp at hi) hL (fun i hi => by simp at hi) (vs' := vs) rfl
  have := C k fi hk _ vs ds s1 (by rw [hio]; exact J0)
  unfold doCall
  rw [hio]
  simp only [vfront]
  rw [hio] at this
  cases hg : g k vs with
  | bad => trivial
  | ok v os =>
    rw [hg] at this
    obtain ⟨d, s2, N2, ρ', e, S2, J, ho, hv, hf⟩ := this
    cases ho
    simp only [afterCall, vback]
    obtain ⟨h1, h2⟩ := behind0 I hL S2 J
    refine ⟨d, s2, _, e, h2, h1, ?_⟩
    have sub : ∀ a, N2 a ∨ False → (N2 a ∧ ¬ Rts σ L a) ∨ Rts σ L a := fun a h => by
      rcases h with h | h
      · by_cases z : Rts σ L a
        · exact .inr z
        · exact .inl ⟨h, z⟩
      · exact h.elim
    rcases hv with ⟨q, nr⟩ | ⟨hr, a, o, rfl, hn, na, ea, q⟩
    · refine .inl ⟨?_, nr⟩
      cases hfl : fi.flat with
      | true => exact q.flat (hf hfl)
      | false => exact q.mono sub
    · refine .inr ⟨hr, a, o, rfl, hn, fun h => na h.1, ea, ?_⟩
      cases hfl : fi.flat with
      | true =>
        have := hf hfl
        cases v with
        | list vs => simp [Va.flat] at this
        | dict vs => simp [Va.flat] at this
        | _ => exact q.elim
      | false => exact q.move fun a o n e => ⟨sub a n, e⟩
  | exc ex os =>
    rw [hg] at this
    obtain ⟨e', s2, N2, ρ', e, S2, J, ho, hx⟩ := this
    cases ho
    simp only [afterCall, vback]
    obtain ⟨h1, h2⟩ := behind0 I hL S2 J
    exact ⟨e', s2, _, e, (h2.more fun i hi => by simp at hi).drop hP, h1.drop hP, hx⟩
theorem call_ok1 (C : COk tb f g) (hk : tb k = some fi) (I : Inv N1 O σ ρ1 s1) (hA : Args s1.h (fun a => N1 a ∨ Rts σ L a) σ fi.io 0 es vs ds) (his : iosl es fi.io = some is) (nd : is.Nodup) (nio : fi.io.Nodup)
    (hl : ∀ p ∈ fi.io, p < es.length) (hs : ∀ i ∈ is, i ∈ O) (hL : ∀ i ∈ L, i ∈ O) (hd : ∀ i ∈ is, i ∉ L) (hP : ∀ i ∈ P, i ∈ lsub O L) :
    Ok σ P O (lsub O L) is N1 s1 (fun N2 s2 v d => Val s2.h s1.h.length N2 (Rts σ []) fi.fr v d) (doCall g k fi.io es vs ρ1) (f k ds s1) := by
  unfold doCall
  cases hv : vfront fi.io es vs ρ1 with
  | none => trivial
  | some vs' =>
    have J0 := front_inv I hA his nd nio hl hs hL hd hv
    have := C k fi hk _ vs' ds s1 J0
    dsimp only
    cases hg : g k vs' with
    | bad => trivial
    | ok v os =>
      rw [hg] at this
      obtain ⟨d, s2, N2, ρ', e, S2, J, ho, hv, hf⟩ := this
      simp only [afterCall]
      cases hb : vback fi.io es os ρ1 with
      | none => trivial
      | some ρ3 =>
        obtain ⟨h1, h2⟩ := behind1 I hA his nd hl hs hL hd S2 J ho hb
        refine ⟨d, s2, _, e, h2, h1, ?_⟩
        rcases hv with ⟨q, nr⟩ | ⟨hr, a, o, rfl, hn, na, ea, q⟩
        · exact .inl ⟨q.mono fun a h => .inl (h.resolve_right id), nr⟩
        · exact .inr ⟨hr, a, o, rfl, hn, na, ea, q.move fun a o n e => ⟨.inl (n.resolve_right id), e⟩⟩
    | exc ex os =>
      rw [hg] at this
      obtain ⟨e', s2, N2, ρ', e, S2, J, ho, hx⟩ := this
      simp only [afterCall]
      cases hb : vback fi.io es os ρ1 with
      | none => trivial
      | some ρ3 =>
        obtain ⟨h1, h2⟩ := behind1 I hA his nd hl hs hL hd S2 J ho hb
        exact ⟨e', s2, _, e, (h2.more fun i hi _ => hs i hi).drop hP, h1.drop hP, hx⟩
/-! ### what is walked -/
def numD : Nat → List D → List D
  | _, [] => []
  | i, x :: r => .tup [.int i, x] :: numD (i + 1) r
theorem numD_get : ∀ {ds : List D} {j i : Nat}, (numD j ds)[i]? = ds[i]?.map fun d => .tup [.int (j + i : Nat), d]
  | [], j, i => by simp [numD]
  | d :: ds, j, 0 => by simp [numD]
  | d :: ds, j, i + 1 => by
    simp only [numD, List.getElem?_cons_succ]
    rw [numD_get]
    rw [show j + 1 + i = j + (i + 1) by omega]
theorem reps_num {h : List Ob} : ∀ {vs : List Va} {ds : List D} {i : Nat}, Reps h N vs ds → Reps h N (numbered i vs) (numD i ds)
  | [], ds, i, q => by cases q; rfl
  | v :: vs, ds, i, q => by
    obtain ⟨d, ds, rfl, q1, q2⟩ := q
    exact ⟨_, _, rfl, ⟨_, rfl, _, _, rfl, rfl, _, _, rfl, q1, rfl⟩, reps_num q2⟩
def Itw (h : List Ob) (A : Ad) : It → List D → Prop
  | .ds xs, ds => ds = xs
  | .li a, ds => A a ∧ h[a]? = some (.list ds)
  | .en j, ds => ∃ ds0, Itw h A j ds0 ∧ ds = numD 0 ds0
theorem Itw.at {A : Ad} {s : S} : ∀ {j : It} {ds : List D} {i : Nat}, Itw s.h A j ds → j.at i s = some ds[i]?
  | .ds xs, ds, i, q => by cases q; rfl
  | .li a, ds, i, q => by simp only [It.at, q.2]
  | .en j, ds, i, q => by
    obtain ⟨ds0, q, rfl⟩ := q
    simp only [It.at, Itw.at q (i := i), numD_get, Nat.zero_add]
    cases ds0[i]? <;> rfl
theorem Itw.stay {h h' : List Ob} {A A' : Ad} (H : ∀ a, A a → A' a ∧ h'[a]? = h[a]?) : ∀ {j : It} {ds : List D}, Itw h A j ds → Itw h' A' j ds
  | .ds xs, ds, q => q
  | .li a, ds, q => ⟨(H a q.1).1, by rw [(H a q.1).2]; exact q.2⟩
  | .en j, ds, q => by obtain ⟨ds0, q, e⟩ := q; exact ⟨ds0, Itw.stay H q, e⟩
theorem reps_chars {h : List Ob} (l : List Nat) : Reps h N (l.map fun c => .str ⟨#[c]⟩) (l.map fun c => .str ⟨#[c]⟩) := reps_map fun z _ => rfl
/-! ### comprehensions -/
abbrev TurnR (σ : Sl) (L : List Nat) : Ad → S → Option Va → Option D → Prop := fun N2 s2 y y' => match y, y' with
  | none, none => True
  | some v, some d => Rep s2.h (fun a => N2 a ∨ Rts σ L a) v d
  | _, _ => False
theorem lc_ok {j : It} {items : List D} {Ls : List Nat} {b : Va → Ev → VR (Option Va)} {b' : D → S → R (Option D)} (hL : ∀ i ∈ L, i ∈ O) (hLM : ∀ i ∈ L, i ∉ M) (hs : ∀ i ∈ Ls, i ∈ O) (hsM : ∀ i ∈ Ls, i ∉ M)
    (B : ∀ v d N1 s1 ρ1, Inv N1 O σ ρ1 s1 → Rep s1.h N1 v d → Ok σ P O O M N1 s1 (TurnR σ L) (b v ρ1) (b' d s1)) :
    ∀ (xs : List Va) (n i : Nat) (acc : List Va) (acc' : List D) (N1 : Ad) (s1 : S) (ρ1 : Ev), Inv N1 O σ ρ1 s1 → Itw s1.h (fun a => N1 a ∨ Rts σ Ls a) j items → Reps s1.h N1 xs (items.drop i) → Reps s1.h (fun a => N1 a ∨ Rts σ L a) acc acc' → xs.length < n →
      Ok σ P O O M N1 s1 (fun N2 s2 ys ds' => Reps s2.h (fun a => N2 a ∨ Rts σ L a) ys ds') (lcV b xs acc ρ1) (lcL j b' n i acc' s1)
  | xs, 0, i, acc, acc', N1, s1, ρ1, I, ht, hx, ha, hn => by omega
  | [], n + 1, i, acc, acc', N1, s1, ρ1, I, ht, hx, ha, hn => by
    have e : items[i]? = none := by
      have h1 := hx.len
      rw [List.length_drop] at h1
      simp only [List.length_nil] at h1
      exact List.getElem?_eq_none (by omega)
    unfold lcV lcL
    rw [ht.at, e]
    exact ok_now I ha
  | x :: xs, n + 1, i, acc, acc', N1, s1, ρ1, I, ht, hx, ha, hn => by
    obtain ⟨d, ds', ed, hd, hr⟩ := hx
    have e : items[i]? = some d := by
      have : (items.drop i)[0]? = some d := by rw [ed]; rfl
      rwa [List.getElem?_drop, Nat.add_zero] at this
    have e2 : items.drop (i + 1) = ds' := by
      have : (items.drop i).drop 1 = ds' := by rw [ed]; rfl
      rw [← this, List.drop_drop]
    unfold lcV lcL
    rw [ht.at, e]
    dsimp only
    refine (Ok.bind (M2 := M) (B x d N1 s1 ρ1 I hd) fun y y' ρ2 s2 N2 S2 I2 hy => ?_).imp (fun i hi => (List.mem_append.mp hi).elim id id) fun _ _ _ _ _ _ _ h => h
    have ht2 : Itw s2.h (fun a => N2 a ∨ Rts σ Ls a) j items := ht.stay fun a ha => ⟨NR.sub S2 ha, stay_at I hs hsM S2 ha⟩
    have hx2 : Reps s2.h N2 xs (items.drop (i + 1)) := by
      rw [e2]
      exact hr.move fun a o n e => ⟨S2.sub a n, by rw [stay_at (L := []) I (fun i hi => by simp at hi) (fun i hi => by simp at hi) S2 (.inl n)]; exact e⟩
    have ha2 := Reps.keep I hL hLM S2 ha
    cases y with
    | none =>
      cases y' with
      | some _ => exact hy.elim
      | none => exact lc_ok hL hLM hs hsM B xs n (i + 1) acc acc' N2 s2 ρ2 I2 ht2 hx2 ha2 (by simpa using hn)
    | some y =>
      cases y' with
      | none => exact hy.elim
      | some y' =>
        dsimp only
        by_cases hz : acc.length < sizeLine
        · rw [if_pos hz, if_pos (by rw [ha.len]; exact hz)]
          exact lc_ok hL hLM hs hsM B xs n (i + 1) (acc ++ [y]) (acc' ++ [y']) N2 s2 ρ2 I2 ht2 hx2 (ha2.append (Reps.one hy)) (by simpa using hn)
        · rw [if_neg hz]
          trivial
abbrev TurnK (σ : Sl) (L : List Nat) : Ad → S → Option (Va × Va) → Option (D × D) → Prop := fun N2 s2 y y' => match y, y' with
  | none, none => True
  | some v, some d => vkey? v.1 = key? d.1 ∧ Rep s2.h (fun a => N2 a ∨ Rts σ L a) v.2 d.2
  | _, _ => False
theorem dc_ok {j : It} {items : List D} {Ls : List Nat} {b : Va → Ev → VR (Option (Va × Va))} {b' : D → S → R (Option (D × D))} (hL : ∀ i ∈ L, i ∈ O) (hLM : ∀ i ∈ L, i ∉ M) (hs : ∀ i ∈ Ls, i ∈ O) (hsM : ∀ i ∈ Ls, i ∉ M)
    (B : ∀ v d N1 s1 ρ1, Inv N1 O σ ρ1 s1 → Rep s1.h N1 v d → Ok σ P O O M N1 s1 (TurnK σ L) (b v ρ1) (b' d s1)) :
    ∀ (xs : List Va) (n i : Nat) (acc : List (Ke × Va)) (acc' : List (Ke × D)) (N1 : Ad) (s1 : S) (ρ1 : Ev), Inv N1 O σ ρ1 s1 → Itw s1.h (fun a => N1 a ∨ Rts σ Ls a) j items → Reps s1.h N1 xs (items.drop i) → RepK s1.h (fun a => N1 a ∨ Rts σ L a) acc acc' → xs.length < n →
      Ok σ P O O M N1 s1 (fun N2 s2 ys ds' => RepK s2.h (fun a => N2 a ∨ Rts σ L a) ys ds') (dcV b xs acc ρ1) (dcL j b' n i acc' s1)
  | xs, 0, i, acc, acc', N1, s1, ρ1, I, ht, hx, ha, hn => by omega
  | [], n + 1, i, acc, acc', N1, s1, ρ1, I, ht, hx, ha, hn => by
    have e : items[i]? = none := by
      have h1 := hx.len
      rw [List.length_drop] at h1
      simp only [List.length_nil] at h1
      exact List.getElem?_eq_none (by omega)
    unfold dcV dcL
    rw [ht.at, e]
    exact ok_now I ha
  | x :: xs, n + 1, i, acc, acc', N1, s1, ρ1, I, ht, hx, ha, hn => by
    obtain ⟨d, ds', ed, hd, hr⟩ := hx
    have e : items[i]? = some d := by
      have : (items.drop i)[0]? = some d := by rw [ed]; rfl
      rwa [List.getElem?_drop, Nat.add_zero] at this
    have e2 : items.drop (i + 1) = ds' := by
      have : (items.drop i).drop 1 = ds' := by rw [ed]; rfl
      rw [← this, List.drop_drop]
    unfold dcV dcL
    rw [ht.at, e]
    dsimp only
    refine (Ok.bind (M2 := M) (B x d N1 s1 ρ1 I hd) fun y y' ρ2 s2 N2 S2 I2 hy => ?_).imp (fun i hi => (List.mem_append.mp hi).elim id id) fun _ _ _ _ _ _ _ h => h
    have ht2 : Itw s2.h (fun a => N2 a ∨ Rts σ Ls a) j items := ht.stay fun a ha => ⟨NR.sub S2 ha, stay_at I hs hsM S2 ha⟩
    have hx2 : Reps s2.h N2 xs (items.drop (i + 1)) := by
      rw [e2]
      exact hr.move fun a o n e => ⟨S2.sub a n, by rw [stay_at (L := []) I (fun i hi => by simp at hi) (fun i hi => by simp at hi) S2 (.inl n)]; exact e⟩
    have ha2 : RepK s2.h (fun a => N2 a ∨ Rts σ L a) acc acc' := ha.move fun a o n e => ⟨NR.sub S2 n, by rw [stay_at I hL hLM S2 n]; exact e⟩
    cases y with
    | none =>
      cases y' with
      | some _ => exact hy.elim
      | none => exact dc_ok hL hLM hs hsM B xs n (i + 1) acc acc' N2 s2 ρ2 I2 ht2 hx2 ha2 (by simpa using hn)
    | some y =>
      cases y' with
      | none => exact hy.elim
      | some y' =>
        obtain ⟨hk, hv⟩ := hy
        dsimp only
        rw [hk]
        cases key? y'.1 with
        | none => trivial
        | some k =>
          dsimp only
          by_cases hz : acc.length < sizeLine
          · rw [if_pos hz, if_pos (by rw [ha.len]; exact hz)]
            exact dc_ok hL hLM hs hsM B xs n (i + 1) _ _ N2 s2 ρ2 I2 ht2 hx2 (ha2.put k hv) (by simpa using hn)
          · rw [if_neg hz]
            trivial
/-! ### targets -/
theorem foldl_set_get {α : Type} : ∀ (ps : List (Nat × α)) (l : List (Option α)) (i : Nat), i ∉ ps.map (·.1) → (ps.foldl (fun l p => l.set p.1 (some p.2)) l)[i]? = l[i]?
  | [], l, i, h => rfl
  | p :: ps, l, i, h => by
    rw [List.foldl_cons, foldl_set_get ps _ i fun z => h (by simp [z])]
    exact List.getElem?_set_ne fun z => h (by simp [z])
theorem foldl_set_len {α : Type} : ∀ (ps : List (Nat × α)) (l : List (Option α)), (ps.foldl (fun l p => l.set p.1 (some p.2)) l).length = l.length
  | [], l => rfl
  | p :: ps, l => by rw [List.foldl_cons, foldl_set_len ps]; simp
theorem Inv.set1 {i : Nat} {v : Va} {d : D} (I : Inv N O σ ρ s) (hi : i ∉ O) (q : Rep s.h N v d) : Inv N O (σ.set i (some d)) (ρ.set i (some v)) s where
  wf := I.wf
  lt := I.lt
  rep j w hj ew := by
    by_cases hji : j = i
    · subst hji
      have hl : j < ρ.length := by
        have := (List.getElem?_eq_some_iff.mp ew).1
        simpa using this
      rw [List.getElem?_set_self hl] at ew
      cases ew
      exact ⟨d, List.getElem?_set_self (by rw [← I.len]; exact hl), q⟩
    · rw [List.getElem?_set_ne (Ne.symm hji)] at ew ⊢
      exact I.rep j w hj ew
  own j w hj ew := by
    have hji : j ≠ i := fun z => hi (z ▸ hj)
    rw [List.getElem?_set_ne (Ne.symm hji)] at ew ⊢
    exact I.own j w hj ew
  rt j a hj r := by
    have hji : j ≠ i := fun z => hi (z ▸ hj)
    rw [root, List.getElem?_set_ne (Ne.symm hji)] at r
    exact I.rt j a hj r
  dis j l a hj hl r r' := by
    have hji : j ≠ i := fun z => hi (z ▸ hj)
    have hli : l ≠ i := fun z => hi (z ▸ hl)
    rw [root, List.getElem?_set_ne (Ne.symm hji)] at r
    rw [root, List.getElem?_set_ne (Ne.symm hli)] at r'
    exact I.dis j l a hj hl r r'
  len := by simp [I.len]
theorem Inv.sets : ∀ {is : List Nat} {vs : List Va} {ds : List D} {σ : Sl} {ρ : Ev}, Inv N O σ ρ s → (∀ i ∈ is, i ∉ O) → Reps s.h N vs ds →
    Inv N O ((is.zip ds).foldl (fun σ p => σ.set p.1 (some p.2)) σ) ((is.zip vs).foldl (fun ρ p => ρ.set p.1 (some p.2)) ρ) s
  | [], vs, ds, σ, ρ, I, hi, q => by simpa using I
  | i :: is, [], ds, σ, ρ, I, hi, q => by cases q; simpa using I
  | i :: is, v :: vs, ds, σ, ρ, I, hi, q => by
    obtain ⟨d, ds, rfl, q1, q2⟩ := q
    simp only [List.zip_cons_cons, List.foldl_cons]
    exact Inv.sets (I.set1 (hi i List.mem_cons_self) q1) (fun j hj => hi j (List.mem_cons_of_mem _ hj)) q2
theorem tgt_ok {t : Tg} {v : Va} {d : D} (e : t.setV v ρ = some ρt) (q : Rep s.h N v d) (I : Inv N O σ ρ s) (hi : ∀ i ∈ t.ixs', i ∉ O) : ∃ σt, t.set d σ = some σt ∧ Inv N O σt ρt s ∧ ∀ i, i ∉ t.ixs' → σt[i]? = σ[i]? := by
  cases t with
  | nm i =>
    cases e
    exact ⟨_, rfl, I.set1 (hi i (List.mem_singleton.mpr rfl)) q, fun j hj => List.getElem?_set_ne fun z => hj (by rw [← z]; exact List.mem_singleton.mpr rfl)⟩
  | tp is =>
    cases v with
    | tup vs =>
      obtain ⟨ds, rfl, q⟩ := q
      simp only [Tg.setV] at e
      split at e
      · rename_i hl
        cases e
        refine ⟨_, by simp only [Tg.set]; rw [if_pos (by rw [q.len]; exact hl)], I.sets hi q, fun j hj => foldl_set_get _ _ _ fun z => hj ?_⟩
        obtain ⟨p, hp, rfl⟩ := List.mem_map.mp z
        exact (List.of_mem_zip hp).1
      · cases e
    | _ => cases e
/-! ### slots put back -/
theorem back_get : ∀ {is : List Nat} {ρ0 ρ : Ev} {i : Nat}, ρ0.length = ρ.length → (back is ρ0 ρ).length = ρ.length ∧ (back is ρ0 ρ)[i]? = if i ∈ is then ρ0[i]? else ρ[i]?
  | [], ρ0, ρ, i, hl => by simp [back]
  | j :: is, ρ0, ρ, i, hl => by
    unfold back
    rw [List.foldl_cons]
    cases hj : ρ0[j]? with
    | none =>
      obtain ⟨h1, h2⟩ := back_get (is := is) (ρ0 := ρ0) (ρ := ρ) (i := i) hl
      refine ⟨h1, h2.trans ?_⟩
      by_cases hi : i ∈ is
      · rw [if_pos hi, if_pos (List.mem_cons_of_mem _ hi)]
      · rw [if_neg hi]
        by_cases hij : i = j
        · subst hij
          rw [if_pos List.mem_cons_self, hj]
          exact List.getElem?_eq_none (by rw [← hl]; exact List.getElem?_eq_none_iff.mp hj)
        · rw [if_neg fun z => (List.mem_cons.mp z).elim hij hi]
    | some x =>
      obtain ⟨h1, h2⟩ := back_get (is := is) (ρ0 := ρ0) (ρ := ρ.set j x) (i := i) (by simpa using hl)
      refine ⟨h1.trans (by simp), h2.trans ?_⟩
      by_cases hi : i ∈ is
      · rw [if_pos hi, if_pos (List.mem_cons_of_mem _ hi)]
      · rw [if_neg hi]
        by_cases hij : i = j
        · subst hij
          rw [if_pos List.mem_cons_self, hj]
          exact List.getElem?_set_self (by rw [← hl]; exact (List.getElem?_eq_some_iff.mp hj).1)
        · rw [if_neg fun z => (List.mem_cons.mp z).elim hij hi, List.getElem?_set_ne (Ne.symm hij)]
theorem back_inv {is : List Nat} (J : Inv N2 O2 σt ρt s2) (I : Inv N O σ ρ s) (hO : ∀ i ∈ O2, i ∈ O) (hsub : ∀ a, N a → N2 a) (hh : ∀ a, N a → s2.h[a]? = s.h[a]?) (hσ : ∀ i, i ∉ is → σt[i]? = σ[i]?) (hi : ∀ i ∈ is, i ∉ O) (hl : σt.length = σ.length) : Inv N2 O2 σ (back is ρ ρt) s2 := by
  have hl2 : ρ.length = ρt.length := by rw [I.len, J.len, hl]
  refine ⟨J.wf, J.lt, fun i v hn ev => ?_, fun i v hn ev => ?_, fun i a hn r => J.rt i a hn (by rw [root, hσ i fun z => hi i z (hO i hn)]; exact r), fun i j a h1 h2 r r' => J.dis i j a h1 h2 (by rw [root, hσ i fun z => hi i z (hO i h1)]; exact r) (by rw [root, hσ j fun z => hi j z (hO j h2)]; exact r'), by rw [(back_get (i := 0) hl2).1, J.len, hl]⟩
  · rw [(back_get hl2).2] at ev
    by_cases hm : i ∈ is
    · rw [if_pos hm] at ev
      obtain ⟨d, e1, q⟩ := I.rep i v (hi i hm) ev
      exact ⟨d, e1, q.move fun a o n e => ⟨hsub a n, by rw [hh a n]; exact e⟩⟩
    · rw [if_neg hm] at ev
      obtain ⟨d, e1, q⟩ := J.rep i v hn ev
      exact ⟨d, by rw [← hσ i hm]; exact e1, q⟩
  · have hm : i ∉ is := fun z => hi i z (hO i hn)
    rw [(back_get hl2).2, if_neg hm] at ev
    obtain ⟨d, e1, q⟩ := J.own i v hn ev
    exact ⟨d, by rw [← hσ i hm]; exact e1, q⟩
theorem root_eq {is : List Nat} (hσ : ∀ i, i ∉ is → σt[i]? = σ[i]?) (hi : ∀ i ∈ is, i ∉ O) {i a : Nat} (h : i ∈ O) : root σt i a ↔ root σ i a := by
  unfold root
  rw [hσ i fun z => hi i z h]
theorem Ok.scope {α β : Type} {is : List Nat} {Rl : Ad → S → α → β → Prop} {r : VR α} {r' : R β} (h : Ok σt P O O2 M N s Rl r r') (I : Inv N O σ ρ s) (hσ : ∀ i, i ∉ is → σt[i]? = σ[i]?) (hi : ∀ i ∈ is, i ∉ O) (hl : σt.length = σ.length) (It : Inv N O σt ρt s) : Ok σ P O O2 M N s Rl (r.scope is ρ) r' := by
  have stt : ∀ {M O2 : List Nat} {N1 : Ad} {s1 : S}, St σt O O2 M N s N1 s1 → St σ O O2 M N s N1 s1 := fun S1 => ⟨S1.dn, S1.len, fun a ha hm => S1.old a ha fun i h1 h2 r => hm i h1 h2 ((root_eq hσ hi h2).mp r), S1.sub, fun a h => by
    rcases S1.only a h with h | h | ⟨i, h1, h2⟩
    · exact .inl h
    · exact .inr (.inl h)
    · exact .inr (.inr ⟨i, h1, (root_eq hσ hi h1).mp h2⟩)⟩
  have hh : ∀ {M O2 : List Nat} {N1 : Ad} {s1 : S}, St σt O O2 M N s N1 s1 → ∀ a, N a → s1.h[a]? = s.h[a]? := fun S1 a n => S1.old a (I.lt a n) fun i _ h2 r => (It.rt i a h2 r).1 n
  cases r with
  | bad => trivial
  | ok v ρ1 =>
    obtain ⟨d, s1, N1, e, S1, J, q⟩ := h
    exact ⟨d, s1, N1, e, stt S1, back_inv J I S1.dn S1.sub (hh S1) hσ hi hl, q⟩
  | exc ex ρ1 =>
    obtain ⟨d, s1, N1, e, S1, J, q⟩ := h
    exact ⟨d, s1, N1, e, stt S1, back_inv J I S1.dn S1.sub (hh S1) hσ hi hl, q⟩
end
end Dv
end

section
/-! Va9 -/
/-! Va9: expressions side by side: the small parts. -/
namespace Dv
open PySem PySem.W

section
variable {tb : Nat → Option Fi} {f : CallT} {g : VCall} {io : Nat → List Nat} {w : Nat}
variable {σ σt : Sl} {ρ ρ1 ρ2 ρ' ρt : Ev} {P O O1 O2 M M1 M2 L is : List Nat} {N N' N1 N2 : Ad} {s s' s1 s2 : S} {es : List C} {vs : List Va} {ds : List D} {A B Z : Ow} {e : C}
theorem okE_st (h : okE tb P O e = some A) : (∀ i ∈ P, i ∈ A.O) ∧ (∀ i ∈ A.L, i ∈ A.O) ∧ (∀ i ∈ A.O, i ∈ O) := by
  rw [okE.eq_def] at h
  exact (chk_ok h).2
theorem okB_st (h : okB tb P O e = some A) : (∀ i ∈ P, i ∈ A.O) ∧ (∀ i ∈ A.L, i ∈ A.O) ∧ (∀ i ∈ A.O, i ∈ O) := by
  rw [okB.eq_def] at h
  exact (chk_ok h).2
theorem okTs_st (h : okTs tb P O es = some A) : (∀ i ∈ P, i ∈ A.O) ∧ (∀ i ∈ A.L, i ∈ A.O) ∧ (∀ i ∈ A.O, i ∈ O) := by
  rw [okTs.eq_def] at h
  exact (chk_ok h).2
theorem okSeq_ok (h : okSeq A B = true) : (∀ i ∈ A.L, i ∉ B.M) ∧ ∀ i ∈ A.L, i ∈ B.O := by
  unfold okSeq at h
  rw [Bool.and_eq_true, ldis_iff, lsst_iff] at h
  exact h
theorem lastO_cons {As : List Ow} : lastO O (A :: As) = lastO A.O As := rfl
theorem allL_cons {As : List Ow} : allL (A :: As) = A.L ++ allL As := by simp [allL]
theorem allM_cons {As : List Ow} : allM (A :: As) = A.M ++ allM As := by simp [allM]
theorem okAs_cons {io : List Nat} {j : Nat} {As : List Ow} (h : okAs tb P io j O (e :: es) = some As) : ∃ A Bs, As = A :: Bs ∧ okAs tb P io (j + 1) A.O es = some Bs ∧ (∀ i ∈ A.L, i ∉ allM Bs) ∧ (∀ i ∈ A.L, i ∈ lastO A.O Bs) ∧
    ((io.contains j = true ∧ (∃ i, e = .loc i) ∧ A = ⟨[], [], O, false⟩) ∨ (io.contains j = false ∧ okE tb P O e = some A)) := by
  rw [okAs.eq_def] at h
  dsimp only at h
  split at h
  · rename_i A hA
    split at h
    · rename_i Bs hB
      split at h
      · rename_i hc
        cases h
        rw [Bool.and_eq_true, ldis_iff, lsst_iff] at hc
        refine ⟨A, Bs, rfl, hB, hc.1, hc.2, ?_⟩
        by_cases hj : io.contains j = true
        · rw [if_pos hj] at hA
          split at hA
          · cases hA
            exact .inl ⟨hj, ⟨_, rfl⟩, rfl⟩
          · cases hA
        · rw [if_neg hj] at hA
          exact .inr ⟨by simpa using hj, hA⟩
      · cases h
    · cases h
  · cases h
theorem okAs_st {io : List Nat} : ∀ {es : List C} {j : Nat} {O : List Nat} {As : List Ow}, okAs tb P io j O es = some As → (∀ i ∈ P, i ∈ O) → (∀ i ∈ P, i ∈ lastO O As) ∧ (∀ i ∈ allL As, i ∈ lastO O As) ∧ (∀ i ∈ lastO O As, i ∈ O)
  | [], j, O, As, h, hP => by
    rw [okAs.eq_def] at h
    cases h
    exact ⟨hP, fun i hi => by simp [allL] at hi, fun i hi => hi⟩
  | e :: es, j, O, As, h, hP => by
    obtain ⟨A, Bs, rfl, hB, h1, h2, h3⟩ := okAs_cons h
    have hA : (∀ i ∈ P, i ∈ A.O) ∧ ∀ i ∈ A.O, i ∈ O := by
      rcases h3 with ⟨_, _, rfl⟩ | ⟨_, h3⟩
      · exact ⟨hP, fun i hi => hi⟩
      · exact ⟨(okE_st h3).1, (okE_st h3).2.2⟩
    obtain ⟨r1, r2, r3⟩ := okAs_st hB hA.1
    rw [lastO_cons, allL_cons]
    exact ⟨r1, fun i hi => (List.mem_append.mp hi).elim (h2 i) (r2 i), fun i hi => hA.2 i (r3 i hi)⟩
theorem Ok.same {α β : Type} {Rl : Ad → S → α → β → Prop} {r : VR α} {r' : R β} (h : Ok σ P O O1 M N s Rl r r') (h1 : ∀ i ∈ O1, i ∈ O2) (h2 : ∀ i ∈ O2, i ∈ O1) : Ok σ P O O2 M N s Rl r r' := by
  cases r with
  | bad => trivial
  | exc e ρ1 => exact h
  | ok v ρ1 =>
    obtain ⟨d, s1, N1, e, q1, q2, q3⟩ := h
    exact ⟨d, s1, N1, e, q1.dn' h2, q2.to h2 (fun a h => h) (fun i a hi hn => absurd (h1 i hi) hn) q2.lt fun i a hi r => (q2.rt i a (h2 i hi) r).1, q3⟩
theorem RV.keep {v : Va} {d : D} (I1 : Inv N1 O1 σ ρ1 s1) (hL : ∀ i ∈ L, i ∈ O1) (hd : ∀ i ∈ L, i ∉ M2) (b : St σ O1 O2 M2 N1 s1 N2 s2) (q : RV σ L e N1 s1 v d) : RV σ L e N2 s2 v d := by
  obtain ⟨q1, q2⟩ := q
  have hE : ∀ i ∈ eL e L, i ∈ L := fun i hi => by
    cases e <;> first | exact hi | simp [eL] at hi
  refine ⟨q1.keep I1 hL hd b, ?_⟩
  have mv : ∀ a o, N1 a ∨ Rts σ (eL e L) a → s1.h[a]? = some o → (N2 a ∨ Rts σ (eL e L) a) ∧ s2.h[a]? = some o := fun a o n e1 => ⟨NR.sub b n, by rw [stay_at I1 (fun i hi => hL i (hE i hi)) (fun i hi => hd i (hE i hi)) b n]; exact e1⟩
  cases v with
  | list vs =>
    obtain ⟨a, ds, rfl, n, g1, _⟩ := q1
    obtain ⟨a', ds', e', g2, q3⟩ := q2
    cases e'
    exact ⟨a, ds', rfl, by rw [stay_at I1 hL hd b n]; exact g2, q3.move mv⟩
  | dict vs =>
    obtain ⟨a, ds, rfl, n, g1, _⟩ := q1
    obtain ⟨a', ds', e', g2, q3⟩ := q2
    cases e'
    exact ⟨a, ds', rfl, by rw [stay_at I1 hL hd b n]; exact g2, q3.move mv⟩
  | non => exact Rep.move (h := s1.h) (v := .non) mv q2
  | bl b => exact Rep.move (h := s1.h) (v := .bl b) mv q2
  | int b => exact Rep.move (h := s1.h) (v := .int b) mv q2
  | str b => exact Rep.move (h := s1.h) (v := .str b) mv q2
  | fn b => exact Rep.move (h := s1.h) (v := .fn b) mv q2
  | tup b => exact Rep.move (h := s1.h) (v := .tup b) mv q2
  | ro b => exact Rep.move (h := s1.h) (v := .ro b) mv q2
theorem RV.el {v : Va} {d : D} {L' : List Nat} (h : ∀ i ∈ eL e L, i ∈ L') (q : RV σ L e N1 s1 v d) : RepE s1.h (fun a => N1 a ∨ Rts σ L' a) v d := q.2.mono fun a n => NR.more h n
theorem own_el {h : List Ob} {v : Va} {d : D} (q : Own1 h N v d) : RepE h N v d := by
  rcases q with ⟨_, q⟩ | ⟨a, o, rfl, e, q⟩
  · exact q.el
  · cases v with
    | list vs => obtain ⟨ds, rfl, q⟩ := q; exact ⟨a, ds, rfl, e, q⟩
    | dict vs => obtain ⟨ds, rfl, q⟩ := q; exact ⟨a, ds, rfl, e, q⟩
    | _ => exact q.elim
theorem va_nonref {d : D} {v : Va} (e : d.va = some v) : NonRef d := fun a z => by rw [z, D.va] at e; cases e
theorem R.bind_assoc2 {α β γ : Type} (r : R α) (f : α → S → R β) (h : β → S → R γ) : (r.bind f).bind h = r.bind fun x s => (f x s).bind h := by cases r <;> rfl
theorem VR.bind_assoc {α β γ : Type} (r : VR α) (f : α → Ev → VR β) (h : β → Ev → VR γ) : (r.bind f).bind h = r.bind fun x s => (f x s).bind h := by cases r <;> rfl
theorem OpOk.flat {v : Va} {r : R D} (hf : v.flat = true) (q : OpOk s N v r) : OpOk s N' v r := by
  rcases q with ⟨d, e, q, n⟩ | ⟨o, e, q⟩
  · exact .inl ⟨d, e, q.flat hf, n⟩
  · cases v with
    | list vs => simp [Va.flat] at hf
    | dict vs => simp [Va.flat] at hf
    | _ => exact q.elim
/-- an owned object is changed by S.put -/
theorem put_ok {i a n : Nat} {o o' : Ob} {v : Va} (I : Inv N O σ ρ s) (hi : i ∈ O) (r : root σ i a) (e : s.h[a]? = some o) (q : ObRep s.h N v o') (ht : o'.top ≤ max o.top n) (hn : n ≤ s.h.length) :
    Inv N O σ (ρ.set i (some v)) (s.put a o' n) ∧ St σ O O [i] N s N (s.put a o' n) := by
  have h1 := I.wf.tp a o e
  have h2 := I.wf.k
  refine write_ok I hi r e q ?_ ?_ ?_
  · unfold S.mark; split <;> omega
  · unfold S.mark; split <;> omega
  · unfold S.mark; split <;> omega
theorem tops_app : ∀ (a b : List D), D.tops (a ++ b) = max (D.tops a) (D.tops b)
  | [], b => by simp [D.tops]
  | x :: a, b => by simp only [List.cons_append, D.tops, tops_app a b]; omega
theorem tops_mem : ∀ {l : List D} {n : Nat}, D.tops l ≤ n ↔ ∀ d ∈ l, d.top ≤ n
  | [], n => by simp [D.tops]
  | x :: a, n => by simp only [D.tops, Nat.max_le, tops_mem (l := a), List.forall_mem_cons]
theorem vtops_sub {l l' : List D} (h : ∀ d ∈ l', d ∈ l) : D.tops l' ≤ D.tops l := tops_mem.mpr fun d hd => tops_mem.mp (Nat.le_refl _) d (h d hd)
theorem topKv_mem : ∀ {l : List (Ke × D)} {n : Nat}, topKv l ≤ n ↔ ∀ p ∈ l, p.2.top ≤ n
  | [], n => by simp [topKv]
  | x :: a, n => by simp only [topKv, Nat.max_le, topKv_mem (l := a), List.forall_mem_cons]
/-- what is handed to a list's method -/
def MeArg (m : Me) (h : List Ob) (N : Ad) (vs : List Va) (ds : List D) : Prop := match m with
  | .append => ∀ x, vs = [x] → ∃ d, ds = [d] ∧ Rep h N x d
  | .extend => ∀ l, vs = [.list l] → ∃ d, ds = [d] ∧ RepE h N (.list l) d
  | .pop => True
/-- a list's methods -/
theorem me_ok {m : Me} {i : Nat} {xs ys : List Va} {v : Va} (I : Inv N O σ ρ s) (hi : i ∈ O) (hr : ρ[i]? = some (some (.list xs))) (q : Reps s.h N' vs ds) (hq : MeArg m s.h N vs ds) (e : vme m xs vs = some (v, ys)) :
    ∃ d0 d s1, σ[i]? = some (some d0) ∧ isL d0 s = true ∧ meF m d0 ds s = .ok d s1 ∧ Inv N O σ (ρ.set i (some (.list ys))) s1 ∧ St σ O O [i] N s N s1 ∧ Rep s1.h N v d ∧ (m ≠ .pop → NonRef d) := by
  obtain ⟨d0, e0, q0⟩ := I.own i _ hi hr
  rcases q0 with ⟨nr, q0⟩ | ⟨a, o, rfl, ea, q0⟩
  · obtain ⟨a, _, rfl, _⟩ := q0
    exact absurd rfl (nr a)
  obtain ⟨es, rfl, q0⟩ := q0
  have hl : isL (.ref a) s = true := by simp only [isL, ea]
  have kp : ∀ {s1 : S} {x : Va} {y : D}, St σ O O [i] N s N s1 → Rep s.h N x y → Rep s1.h N x y := fun S1 q => q.move fun b o n e => ⟨n, by rw [stay_at (L := []) I (fun i hi => by simp at hi) (fun i hi => by simp at hi) S1 (.inl n)]; exact e⟩
  cases m with
  | append =>
    simp only [vme] at e
    split at e
    · rename_i x
      split at e
      · rename_i hz
        cases e
        obtain ⟨d, rfl, qd⟩ := hq x rfl
        obtain ⟨h1, h2⟩ := put_ok (n := d.top) (o' := .list (es ++ [d])) (v := .list (xs ++ [x])) I hi e0 ea ⟨_, rfl, q0.append (Reps.one qd)⟩ (by simp only [Ob.top, tops_app, D.tops]; omega) (qd.top I.lt)
        exact ⟨_, .non, _, e0, hl, by simp only [meF, appendF, onList, ea]; rw [if_pos (by rw [q0.len]; exact hz)], h1, h2, rfl, fun _ a z => nomatch z⟩
      · cases e
    · cases e
  | extend =>
    simp only [vme] at e
    split at e
    · rename_i l
      split at e
      · rename_i hz
        cases e
        obtain ⟨d, rfl, b, fs, rfl, eb, qd⟩ := hq l rfl
        obtain ⟨h1, h2⟩ := put_ok (n := D.tops fs) (o' := .list (es ++ fs)) (v := .list (xs ++ l)) I hi e0 ea ⟨_, rfl, q0.append qd⟩ (by simp only [Ob.top, tops_app]; omega) (qd.top I.lt)
        exact ⟨_, .non, _, e0, hl, by simp only [meF, extendF, onList, ea, eb]; rw [if_pos (by rw [q0.len, qd.len]; exact hz)], h1, h2, rfl, fun _ a z => nomatch z⟩
      · cases e
    · cases e
  | pop =>
    simp only [vme] at e
    split at e
    · cases q
      split at e
      · rename_i x hx
        cases e
        obtain ⟨d, ed, qd⟩ := q0.get hx
        obtain ⟨h1, h2⟩ := put_ok (n := 0) (o' := .list es.dropLast) (v := .list xs.dropLast) I hi e0 ea ⟨_, rfl, q0.dropLast⟩ (by simp only [Ob.top]; exact Nat.le_trans (vtops_sub fun d hd => (List.dropLast_sublist _).mem hd) (Nat.le_max_left _ _)) (Nat.zero_le _)
        exact ⟨_, d, _, e0, hl, by simp only [meF, popF, onList, ea, q0.len, ed], h1, h2, kp h2 qd, fun z => absurd rfl z⟩
      · cases e
    · rename_i k
      obtain ⟨d, ds', rfl, qk, q'⟩ := q
      cases qk
      cases q'
      split at e
      · rename_i j hj
        split at e
        · rename_i x hx
          split at e
          · rename_i hb
            cases e
            obtain ⟨d, ed, qd⟩ := q0.get hx
            obtain ⟨h1, h2⟩ := put_ok (n := 0) (o' := .list (es.eraseIdx j)) (v := .list (xs.eraseIdx j)) I hi e0 ea ⟨_, rfl, q0.erase j⟩ (by simp only [Ob.top]; exact Nat.le_trans (vtops_sub fun d hd => List.mem_of_mem_eraseIdx hd) (Nat.le_max_left _ _)) (Nat.zero_le _)
            exact ⟨_, d, _, e0, hl, by simp only [meF, popF, onList, ea, q0.len, hj, ed]; rw [if_pos hb], h1, h2, kp h2 qd, fun z => absurd rfl z⟩
          · cases e
        · cases e
      · cases e
    · cases e
theorem vtopKv_put {kvs : List (Ke × D)} {k : Ke} {d : D} : topKv (kput kvs k d) ≤ max (topKv kvs) d.top := by
  unfold kput
  split
  · refine topKv_mem.mpr fun p hp => ?_
    obtain ⟨x, hx, rfl⟩ := List.mem_map.mp hp
    have := topKv_mem.mp (Nat.le_refl _) x hx
    split
    · exact Nat.le_max_right _ _
    · exact Nat.le_trans this (Nat.le_max_left _ _)
  · refine topKv_mem.mpr fun p hp => ?_
    rcases List.mem_append.mp hp with hp | hp
    · exact Nat.le_trans (topKv_mem.mp (Nat.le_refl _) p hp) (Nat.le_max_left _ _)
    · obtain rfl := List.mem_singleton.mp hp
      exact Nat.le_max_right _ _
/-- o[k] = x -/
theorem vset_ok {i : Nat} {o o' k x : Va} {dk dx : D} (I : Inv N O σ ρ s) (hi : i ∈ O) (hr : ρ[i]? = some (some o)) (qk : Rep s.h N' k dk) (qx : Rep s.h N x dx) (e : vset o k x = some o') :
    ∃ d0 s1, σ[i]? = some (some d0) ∧ setItem d0 dk dx s = .ok () s1 ∧ Inv N O σ (ρ.set i (some o')) s1 ∧ St σ O O [i] N s N s1 := by
  obtain ⟨d0, e0, q0⟩ := I.own i _ hi hr
  have lst : (∃ xs, o = .list xs) ∨ ∃ kvs, o = .dict kvs := by cases o <;> first | exact .inl ⟨_, rfl⟩ | exact .inr ⟨_, rfl⟩ | cases e
  rcases q0 with ⟨nr, q0⟩ | ⟨a, ob, rfl, ea, q0⟩
  · rcases lst with ⟨xs, rfl⟩ | ⟨xs, rfl⟩
    · obtain ⟨a, _, rfl, _⟩ := q0
      exact absurd rfl (nr a)
    · obtain ⟨a, _, rfl, _⟩ := q0
      exact absurd rfl (nr a)
  rcases lst with ⟨xs, rfl⟩ | ⟨xs, rfl⟩
  · obtain ⟨es, rfl, q0⟩ := q0
    simp only [vset] at e
    split at e
    · rename_i n
      cases qk
      split at e
      · rename_i j hj
        cases e
        obtain ⟨h1, h2⟩ := put_ok (n := dx.top) (o' := .list (es.set j dx)) (v := .list (xs.set j x)) I hi e0 ea ⟨_, rfl, q0.set j qx⟩ (by
          simp only [Ob.top]
          refine tops_mem.mpr fun d hd => ?_
          rcases List.mem_or_eq_of_mem_set hd with h | h
          · exact Nat.le_trans (tops_mem.mp (Nat.le_refl _) d h) (Nat.le_max_left _ _)
          · rw [h]; exact Nat.le_max_right _ _) (qx.top I.lt)
        exact ⟨_, _, e0, by simp only [setItem, ea, q0.len, hj], h1, h2⟩
      · cases e
    · cases e
  · obtain ⟨es, rfl, q0⟩ := q0
    simp only [vset] at e
    split at e
    · rename_i n hn
      split at e
      · rename_i hz
        cases e
        obtain ⟨h1, h2⟩ := put_ok (n := dx.top) (o' := .dict (kput es n dx)) (v := .dict (vput xs n x)) I hi e0 ea ⟨_, rfl, q0.put n qx⟩ vtopKv_put (qx.top I.lt)
        exact ⟨_, _, e0, by simp only [setItem, ea, op_key qk, hn]; rw [if_pos (by rw [q0.len]; exact hz)], h1, h2⟩
      · cases e
    · cases e
end
end Dv
end

section
/-! Va10 -/
set_option maxHeartbeats 4000000
/-! Va10: expressions side by side. -/
namespace Dv
open PySem PySem.W

theorem vevI_no {f : CallT} {w : Nat} {σ : Sl} {s : S} {it : C} (h : it.walks = false) : evI f w it σ s = (evE f w it σ s).bind fun x s => R.of (itOf x s) s := by
  cases it <;> first | (simp only [evI]; done) | cases h
section
variable {tb : Nat → Option Fi} {f : CallT} {g : VCall} {io : Nat → List Nat} {w : Nat} {σ : Sl} {P : List Nat}
theorem EV.wk {n0 n1 n2 : Nat} {e : C} {A : Ow} {N1 : Ad} {s1 : S} {v : Va} {d : D} (q : EV σ n2 e A N1 s1 v d) (h1 : n1 ≤ n2) (h0 : n0 ≤ n1) : EV σ n0 e A N1 s1 v d := by
  refine ⟨?_, q.2⟩
  rcases q.1 with q | ⟨a, x, o, e1, hn, q⟩
  · exact .inl q
  · exact .inr ⟨a, x, o, e1, Nat.le_trans h0 (Nat.le_trans h1 hn), q⟩
theorem me_key {m : Me} {i : Nat} {es : List C} {vs : List Va} {ds : List D} {ρ1 : Ev} {s1 : S} {N1 N' : Ad} {O r M : List Nat} {d0 : D} (I1 : Inv N1 O σ ρ1 s1) (p1 : i ∉ r) (p2 : i ∈ O) (p3 : ∀ i ∈ r, i ∈ O) (p4 : ∀ i ∈ P, i ∉ r) (p5 : ∀ i ∈ P, i ∈ O) (e0 : σ[i]? = some (some d0)) (q : Reps s1.h N' vs ds) (hq : MeArg m s1.h (fun a => N1 a ∨ Rts σ r a) vs ds) :
    Ok σ P O (lsub O r) [i] N1 s1 (EV σ s1.h.length (.me m (.loc i) es) ⟨[], M, lsub O r, meFr m⟩) (match ρ1[i]? with
      | some (some (.list xs)) => match vme m xs vs with
        | some (v, ys) => .ok v (ρ1.set i (some (.list ys)))
        | none => .bad
      | _ => .bad) (meF m d0 ds s1) := by
  split
  · rename_i xs hx
    split
    · rename_i v ys hm
      have dn : ∀ j ∈ lsub O r, j ∈ O := fun j hj => (mem_lsub.mp hj).1
      have J := I1.drop dn
      have up : ∀ a, N1 a ∨ Rts σ r a → rel σ O (lsub O r) N1 a := fun a n => n.elim .inl fun ⟨j, hj, rj⟩ => .inr ⟨j, p3 j hj, fun z => (mem_lsub.mp z).2 hj, rj⟩
      obtain ⟨d1, d, s2, e1, _, em, I2, S2, qv, nr⟩ := me_ok (m := m) J (mem_lsub.mpr ⟨p2, p1⟩) hx q (by
        cases m with
        | append => exact fun x ex => by obtain ⟨d, ed, qd⟩ := hq x ex; exact ⟨d, ed, qd.mono up⟩
        | extend => exact fun x ex => by obtain ⟨d, ed, qd⟩ := hq x ex; exact ⟨d, ed, qd.mono up⟩
        | pop => trivial) hm
      rw [e0] at e1
      cases e1
      refine ⟨d, s2, _, em, ?_, I2, EV.of rfl (.inl ⟨qv.mono fun a n => .inl n, fun hf => nr fun z => by rw [z] at hf; cases hf⟩)⟩
      exact ((St.refl (O1 := O) (M := []) fun _ h => h).drop dn).trans S2
    · trivial
  · trivial
/-- what is walked -/
def IW (σ : Sl) (I : Iw) (N1 : Ad) (s1 : S) (vs : List Va) (j : It) : Prop := ∃ ds, Itw s1.h (fun a => N1 a ∨ Rts σ I.Ls a) j ds ∧ Reps s1.h (fun a => N1 a ∨ Rts σ I.Le a) vs ds
theorem vitOf_ok {e : C} {L : List Nat} {N1 : Ad} {s1 : S} {v : Va} {d : D} {vs : List Va} {M O : List Nat} (q : RV σ L e N1 s1 v d) (h : vitOf v = some vs) : ∃ j, itOf d s1 = some j ∧ IW σ ⟨L, eL e L, M, O⟩ N1 s1 vs j := by
  obtain ⟨q1, q2⟩ := q
  cases v with
  | tup xs => cases h; obtain ⟨ds, rfl, q⟩ := q2; exact ⟨_, rfl, ds, rfl, q⟩
  | ro xs => cases h; obtain ⟨ds, rfl, q⟩ := q2; exact ⟨_, rfl, ds, rfl, q⟩
  | str z => cases h; cases q1; exact ⟨_, rfl, _, rfl, reps_chars _⟩
  | list xs =>
    cases h
    obtain ⟨a, ds, rfl, n, g1, _⟩ := q1
    obtain ⟨a', ds', e', g2, q3⟩ := q2
    cases e'
    exact ⟨.li a, by simp only [itOf, g1], ds', ⟨n, g2⟩, q3⟩
  | _ => cases h
theorem venum_ok {e : C} {L : List Nat} {N1 : Ad} {s1 : S} {v : Va} {d : D} {vs : List Va} {M O : List Nat} (q : RV σ L e N1 s1 v d) (h : venum v = some vs) : ∃ j, enumF d s1 = .ok j s1 ∧ IW σ ⟨L, eL e L, M, O⟩ N1 s1 vs j := by
  obtain ⟨q1, q2⟩ := q
  cases v with
  | tup xs => cases h; obtain ⟨ds, rfl, q⟩ := q2; exact ⟨_, rfl, _, ⟨ds, rfl, rfl⟩, reps_num q⟩
  | list xs =>
    cases h
    obtain ⟨a, ds, rfl, n, g1, _⟩ := q1
    obtain ⟨a', ds', e', g2, q3⟩ := q2
    cases e'
    exact ⟨.en (.li a), by simp only [enumF, g1], _, ⟨ds', ⟨n, g2⟩, rfl⟩, reps_num q3⟩
  | _ => cases h
theorem vrng_ok {N1 : Ad} {s1 : S} {vs ws : List Va} {ds : List D} {N' : Ad} (q : Reps s1.h N' vs ds) (h : vrng vs = some ws) : ∃ j es, rngF ds s1 = .ok j s1 ∧ Itw s1.h N1 j es ∧ Reps s1.h N1 ws es := by
  unfold vrng at h
  split at h
  · obtain ⟨d, ds', rfl, q1, q2⟩ := q
    cases q1; cases q2
    split at h
    · rename_i hc
      cases h
      exact ⟨.ds _, _, by simp only [rngF]; rw [if_pos hc], rfl, reps_map fun z _ => rfl⟩
    · cases h
  · obtain ⟨d, ds', rfl, q1, q2⟩ := q
    obtain ⟨d2, ds2, rfl, q2, q3⟩ := q2
    cases q1; cases q2; cases q3
    split at h
    · rename_i hc
      cases h
      exact ⟨.ds _, _, by simp only [rngF]; rw [if_pos hc], rfl, reps_map fun z _ => rfl⟩
    · cases h
  · cases h
def notBool : Bool → Bool := fun b => !b
theorem flats_of : ∀ {l : List Va}, (∀ v ∈ l, v.flat = true) → Va.flats l = true
  | [], _ => rfl
  | v :: l, H => by rw [Va.flats, H v List.mem_cons_self, flats_of fun v hv => H v (List.mem_cons_of_mem _ hv)]; rfl
mutual
theorem ofPy_flat : ∀ {p : PyData} {v : Va}, vofPy p = some v → v.flat = true
  | .none, v, e => by simp [vofPy] at e; subst e; rfl
  | .bool b, v, e => by simp [vofPy] at e; subst e; rfl
  | .int b, v, e => by simp [vofPy] at e; subst e; rfl
  | .str b, v, e => by simp [vofPy] at e; subst e; rfl
  | .tuple xs, v, e => by
    simp only [vofPy, Option.map_eq_some_iff] at e
    obtain ⟨vs, e, rfl⟩ := e
    rw [Va.flat]
    exact ofPys_flat e
  | .list _, v, e => by simp [vofPy] at e
  | .dict _, v, e => by simp [vofPy] at e
theorem ofPys_flat : ∀ {p : List PyData} {v : List Va}, vofPy.vofPys p = some v → Va.flats v = true
  | [], v, e => by simp [vofPy.vofPys] at e; subst e; rfl
  | p :: ps, v, e => by
    simp only [vofPy.vofPys] at e
    split at e
    · rename_i a b h1 h2
      cases e
      rw [Va.flats, ofPy_flat h1, ofPys_flat h2]
      rfl
    · cases e
end
theorem best_flat {mx : Bool} {ps : List PyData} {v : Va} (e : vbest mx ps = some v) : v.flat = true := by
  cases ps with
  | nil => cases e
  | cons p ps =>
    simp only [vbest] at e
    split at e
    · exact ofPy_flat e
    · cases e
def bflat : Bi → Bool
  | .tuple => false
  | .list => false
  | .sorted => false
  | .sset => false
  | .rev => false
  | .rev0 => false
  | _ => true
theorem vbi_zero {b : Bi} : vbi b [] = none := by cases b <;> rfl
theorem vbi_two {b : Bi} {x y z : Va} {l : List Va} (e : vbi b (x :: y :: l) = some z) : z.flat = true := by
  cases b with
  | mm2 mx =>
    simp only [vbi, vmm2] at e
    split at e
    · cases e; rfl
    · cases e
  | trange =>
    simp only [vbi, vtrange] at e
    split at e
    · split at e
      · cases e
        rw [Va.flat]
        exact flats_of fun v hv => by obtain ⟨i, _, rfl⟩ := List.mem_map.mp hv; rfl
      · cases e
    · cases e
  | mmd mx =>
    simp only [vbi, vmmd] at e
    split at e
    · split at e
      · split at e
        · cases e; rfl
        · exact best_flat e
        · cases e
      · cases e
    · cases e
  | _ => cases x <;> cases e
theorem vbi_flat {b : Bi} {vs : List Va} {v : Va} (e : vbi b vs = some v) (hb : bflat b = true) : v.flat = true := by
  cases b with
  | len => simp only [vbi, vlen] at e; split at e <;> cases e <;> rfl
  | sum =>
    simp only [vbi, vsum] at e
    split at e
    · simp only [Option.map_eq_some_iff] at e; obtain ⟨_, _, rfl⟩ := e; rfl
    · cases e
  | any =>
    simp only [vbi, vany] at e
    split at e
    · simp only [Option.map_eq_some_iff] at e; obtain ⟨_, _, rfl⟩ := e; rfl
    · cases e
  | all =>
    simp only [vbi, vall] at e
    split at e
    · simp only [Option.map_eq_some_iff] at e; obtain ⟨_, _, rfl⟩ := e; rfl
    · cases e
  | inst k =>
    simp only [vbi, vinst] at e
    split at e
    · simp only [Option.map_eq_some_iff] at e; obtain ⟨_, _, rfl⟩ := e; rfl
    · cases e
  | repr =>
    simp only [vbi, vrepr] at e
    split at e
    · split at e
      · split at e
        · cases e; rfl
        · cases e
      · cases e
    · cases e
  | tuple => cases hb
  | list => cases hb
  | sorted => cases hb
  | sset => cases hb
  | rev => cases hb
  | rev0 => cases hb
  | lset =>
    simp only [vbi, vlset] at e
    split at e
    · split at e
      · split at e
        · split at e
          · cases e; rfl
          · cases e
        · cases e
      · cases e
    · cases e
  | mm mx =>
    simp only [vbi, vmm] at e
    split at e
    · split at e
      · split at e
        · exact best_flat e
        · cases e
      · cases e
    · cases e
  | mmd mx =>
    simp only [vbi, vmmd] at e
    split at e
    · split at e
      · split at e
        · cases e; rfl
        · exact best_flat e
        · cases e
      · cases e
    · cases e
  | mm2 mx =>
    simp only [vbi, vmm2] at e
    split at e
    · cases e; rfl
    · cases e
  | trange =>
    simp only [vbi, vtrange] at e
    split at e
    · split at e
      · cases e
        rw [Va.flat]
        exact flats_of fun v hv => by obtain ⟨i, _, rfl⟩ := List.mem_map.mp hv; rfl
      · cases e
    · cases e
variable (C0 : COk tb f g) (hio : ∀ k fi, tb k = some fi → io k = fi.io)
abbrev Tst (N1 : Ad) (s1 : S) (b b' : Bool) : Prop := b = b'
theorem test_ok {O M : List Nat} {N : Ad} {ρ : Ev} {s : S} {v : Va} {d : D} {N' : Ad} (I : Inv N O σ ρ s) (q : Rep s.h N' v d) : Ok σ P O O M N s Tst (vtest v ρ) (testD d s) := by
  unfold vtest testD
  cases h : vtruthy v with
  | none => trivial
  | some b => rw [op_truthy h q]; exact ok_now I rfl
theorem Ok.of_drop {α β : Type} {O O2 M : List Nat} {N : Ad} {s : S} {Rl : Ad → S → α → β → Prop} {r : VR α} {r' : R β} (dn : ∀ i ∈ O2, i ∈ O) (h : Ok σ P O2 O2 M (rel σ O O2 N) s Rl r r') : Ok σ P O O2 M N s Rl r r' := by
  have S0 : St σ O O2 [] N s (rel σ O O2 N) s := (St.refl (O1 := O) (M := []) fun _ h => h).drop dn
  cases r with
  | bad => trivial
  | ok v ρ1 =>
    obtain ⟨d, s1, N1, e, q1, q2, q3⟩ := h
    exact ⟨d, s1, N1, e, S0.trans q1, q2, q3⟩
  | exc x ρ1 =>
    obtain ⟨d, s1, N1, e, q1, q2, q3⟩ := h
    exact ⟨d, s1, N1, e, (S0.trans q1).more fun i hi ho => ho, q2, q3⟩
theorem walk_ok {I : Iw} {O2 : List Nat} {N1 : Ad} {s1 : S} {vs : List Va} {j : It} {ρ1 : Ev} (I1 : Inv N1 I.O σ ρ1 s1) (dn : ∀ i ∈ O2, i ∈ I.O) (he : ∀ i ∈ I.Le, i ∈ I.O ∧ i ∉ O2) (hs : ∀ i ∈ I.Ls, i ∈ I.O) (q : IW σ I N1 s1 vs j) :
    ∃ ds, Inv (rel σ I.O O2 N1) O2 σ ρ1 s1 ∧ Itw s1.h (fun a => rel σ I.O O2 N1 a ∨ Rts σ (lint I.Ls O2) a) j ds ∧ Reps s1.h (rel σ I.O O2 N1) vs ds := by
  obtain ⟨ds, q1, q2⟩ := q
  refine ⟨ds, I1.drop dn, q1.stay fun a n => ⟨?_, rfl⟩, q2.mono fun a n => ?_⟩
  · rcases n with n | ⟨i, hi, r⟩
    · exact .inl (.inl n)
    · by_cases h : i ∈ O2
      · exact .inr ⟨i, mem_lint.mpr ⟨hi, h⟩, r⟩
      · exact .inl (.inr ⟨i, hs i hi, h, r⟩)
  · rcases n with n | ⟨i, hi, r⟩
    · exact .inl n
    · exact .inr ⟨i, (he i hi).1, (he i hi).2, r⟩
theorem okW_st {it : C} {O : List Nat} {I : Iw} (h : (if it.walks then okR tb P O it else iwE it (okE tb P O it)) = some I) (hP : ∀ i ∈ P, i ∈ O) : (∀ i ∈ P, i ∈ I.O) ∧ (∀ i ∈ I.Ls, i ∈ I.O) ∧ (∀ i ∈ I.Le, i ∈ I.O) ∧ ∀ i ∈ I.O, i ∈ O := by
  have hl : ∀ {e : C} {L : List Nat} {i : Nat}, i ∈ eL e L → i ∈ L := fun {e L i} hi => by cases e <;> first | exact hi | simp [eL] at hi
  have ex : ∀ {e : C} {O : List Nat}, iwE e (okE tb P O e) = some I → (∀ i ∈ P, i ∈ I.O) ∧ (∀ i ∈ I.Ls, i ∈ I.O) ∧ (∀ i ∈ I.Le, i ∈ I.O) ∧ ∀ i ∈ I.O, i ∈ O := fun {e O} h => by
    cases ha : okE tb P O e with
    | none => rw [ha] at h; cases h
    | some A =>
      rw [ha] at h
      cases h
      obtain ⟨a1, a2, a3⟩ := okE_st ha
      exact ⟨a1, a2, fun i hi => a2 i (hl hi), a3⟩
  split at h
  · cases it with
    | rng es =>
      rw [okR] at h
      cases ha : okAs tb P [] 0 O es with
      | none => rw [ha] at h; cases h
      | some As =>
        rw [ha] at h
        cases h
        obtain ⟨a1, a2, a3⟩ := okAs_st ha hP
        exact ⟨a1, fun i hi => by simp at hi, fun i hi => by simp at hi, a3⟩
    | enum e => rw [okR] at h; exact ex h
    | _ => rw [okR.eq_def] at h; cases h
  · exact ex h
/-- a turn's slots -/
theorem rts_eq {σt : Sl} {is O L : List Nat} (hσ : ∀ i, i ∉ is → σt[i]? = σ[i]?) (hi : ∀ i ∈ is, i ∉ O) (hL : ∀ i ∈ L, i ∈ O) {a : Nat} (h : Rts σt L a) : Rts σ L a := by
  obtain ⟨i, h1, h2⟩ := h
  exact ⟨i, h1, (root_eq hσ hi (hL i h1)).mp h2⟩
theorem set_len {t : Tg} {d : D} {σt : Sl} (h : t.set d σ = some σt) : σt.length = σ.length := by
  cases t with
  | nm i => cases h; simp
  | tp is =>
    simp only [Tg.set] at h
    split at h
    · split at h
      · cases h; exact foldl_set_len _ _
      · cases h
    · cases h
include C0 hio
mutual
theorem okE_ok : ∀ (e : C) {σ : Sl} {O : List Nat} {A : Ow}, okE tb P O e = some A → (∀ i ∈ P, i ∈ O) → ∀ {N : Ad} {ρ : Ev} {s : S}, Inv N O σ ρ s → Ok σ P O A.O A.M N s (EV σ s.h.length e A) (vE g io w e ρ) (evE f w e σ s)
  | .loc i, σ, O, A, h, hP, N, ρ, s, I => by
    rw [okE] at h
    obtain ⟨h, _⟩ := chk_ok h
    cases h
    simp only [vE, evE]
    cases hr : ρ[i]? with
    | none => trivial
    | some x =>
      cases x with
      | none => trivial
      | some v =>
        dsimp only
        by_cases hi : i ∈ O
        · obtain ⟨d, e1, q⟩ := I.own i v hi hr
          simp only [e1]
          exact ok_now I ⟨.inl ⟨q.rep (fun a h => .inl h) fun a ed => .inr ⟨i, by simp [hi], by rw [root, e1, ed]⟩, fun h => nomatch h⟩, (own_el q).mono fun a n => .inl n⟩
        · obtain ⟨d, e1, q⟩ := I.rep i v hi hr
          simp only [e1]
          exact ok_now I ⟨.inl ⟨q.mono fun a h => .inl h, fun h => nomatch h⟩, q.el.mono fun a n => .inl n⟩
  | .cst d, σ, O, A, h, hP, N, ρ, s, I => by
    rw [okE] at h
    obtain ⟨h, _⟩ := chk_ok h
    cases h
    simp only [vE, evE]
    cases hv : d.va with
    | none => trivial
    | some v => exact ok_now I (EV.of rfl (.inl ⟨rep_va hv, fun _ => va_nonref hv⟩))
  | .tup es, σ, O, A, h, hP, N, ρ, s, I => by
    rw [okE] at h
    obtain ⟨h, _⟩ := chk_ok h
    split at h
    · rename_i As hA
      cases h
      simp only [vE, evE]
      exact (okAs_ok es hA hP I).map fun vs ds ρ1 s1 N1 S1 I1 q => ⟨rfl, _, s1, N1, rfl, S1, I1, EV.of rfl (.inl ⟨⟨_, rfl, q.reps⟩, fun h => nomatch h⟩)⟩
    · cases h
  | .lst es, σ, O, A, h, hP, N, ρ, s, I => by
    rw [okE] at h
    obtain ⟨h, _⟩ := chk_ok h
    split at h
    · rename_i As hA
      cases h
      simp only [vE, evE]
      exact (okAs_ok es hA hP I).map fun vs ds ρ1 s1 N1 S1 I1 q => by
        obtain ⟨h1, h2⟩ := new_ok (n0 := s.h.length) (v := .list vs) (o := .list ds) I1 (okAs_st hA hP).2.1 S1.len ⟨_, rfl, q.reps⟩
        exact ⟨rfl, _, _, N1, rfl, S1.plus, h1, EV.of rfl h2⟩
    · cases h
  | .dct ks es, σ, O, A, h, hP, N, ρ, s, I => by
    rw [okE] at h
    obtain ⟨h, _⟩ := chk_ok h
    split at h
    · rename_i As hA
      cases h
      simp only [vE, evE]
      exact (okAs_ok es hA hP I).map fun vs ds ρ1 s1 N1 S1 I1 q => by
        by_cases hc : ks.length = vs.length ∧ ks.length ≤ 15 ∧ ks.Nodup
        · rw [if_pos hc, if_pos (by rw [q.reps.len]; exact hc)]
          obtain ⟨h1, h2⟩ := new_ok (n0 := s.h.length) (v := .dict (ks.zip vs)) (o := .dict (ks.zip ds)) I1 (okAs_st hA hP).2.1 S1.len ⟨_, rfl, RepK.zip q.reps⟩
          exact ⟨rfl, _, _, N1, rfl, S1.plus, h1, EV.of rfl h2⟩
        · rw [if_neg hc]
          trivial
    · cases h
  | .bin o a b, σ, O, A, h, hP, N, ρ, s, I => by
    rw [okE] at h
    obtain ⟨h, _⟩ := chk_ok h
    split at h
    · rename_i A hA
      split at h
      · rename_i B hB
        split at h
        · rename_i hc
          cases h
          obtain ⟨q1, q2⟩ := okSeq_ok hc
          obtain ⟨a1, a2, a3⟩ := okE_st hA
          obtain ⟨b1, b2, b3⟩ := okE_st hB
          simp only [vE, evE]
          refine Ok.bind ((okE_ok a hA hP I).rv I) fun x dx ρ1 s1 N1 S1 I1 qx => ?_
          refine Ok.map ((okE_ok b hB a1 I1).rv I1) fun y dy ρ2 s2 N2 S2 I2 qy => ?_
          have qx := qx.keep I1 a2 q1 S2
          cases hz : vbin o x y with
          | none => trivial
          | some z =>
            have r := op_bin hz (qx.el (L' := eL a A.L ++ eL b B.L) fun i hi => List.mem_append_left _ hi) (qy.el fun i hi => List.mem_append_right _ hi)
            have hl : ∀ {e : C} {L : List Nat} {i : Nat}, i ∈ eL e L → i ∈ L := fun {e L i} hi => by cases e <;> first | exact hi | simp [eL] at hi
            obtain ⟨d, s3, e3, S3, I3, v3⟩ := r.ok (n0 := s.h.length) I2 (fun i hi => (List.mem_append.mp hi).elim (fun h => q2 i (hl h)) fun h => b2 i (hl h)) (Nat.le_trans S1.len S2.len) S2
            exact ⟨rfl, d, s3, N2, e3, S3, I3, EV.of rfl v3⟩
        · cases h
      · cases h
    · cases h
  | .neg a, σ, O, A, h, hP, N, ρ, s, I => by
    rw [okE] at h
    obtain ⟨h, _⟩ := chk_ok h
    split at h
    · rename_i A hA
      cases h
      simp only [vE, evE]
      refine Ok.map ((okE_ok a hA hP I).rv I) fun x dx ρ1 s1 N1 S1 I1 qx => ?_
      cases x with
      | int i =>
        obtain ⟨q, _⟩ := qx
        cases q
        exact ⟨rfl, _, s1, N1, rfl, S1, I1, EV.of rfl (.inl ⟨rfl, fun _ a z => nomatch z⟩)⟩
      | _ => trivial
    · cases h
  | .not a, σ, O, A, h, hP, N, ρ, s, I => by
    rw [okE] at h
    obtain ⟨h, _⟩ := chk_ok h
    split at h
    · rename_i A hA
      cases h
      simp only [vE, evE]
      refine Ok.map ((okE_ok a hA hP I).rv I) fun x dx ρ1 s1 N1 S1 I1 qx => ?_
      simp only [vtest, testD]
      cases ht : vtruthy x with
      | none => trivial
      | some b =>
        simp only [VR.of_some, VR.bind_ok]
        rw [op_truthy ht qx.1]
        exact ⟨trivial, _, s1, N1, rfl, S1, I1, EV.of rfl (.inl ⟨rfl, fun _ a z => nomatch z⟩)⟩
    · cases h
  | .and es, σ, O, A, h, hP, N, ρ, s, I => by
    rw [okE] at h
    obtain ⟨h, _⟩ := chk_ok h
    split at h
    · rename_i As hA
      cases h
      simp only [vE, evE]
      exact (and_ok es hA hP I).imp (fun i hi => hi) fun v d ρ1 s1 N1 _ _ q => EV.of rfl (.inl ⟨q, fun h => nomatch h⟩)
    · cases h
  | .or es, σ, O, A, h, hP, N, ρ, s, I => by
    rw [okE] at h
    obtain ⟨h, _⟩ := chk_ok h
    split at h
    · rename_i As hA
      cases h
      simp only [vE, evE]
      exact (or_ok es hA hP I).imp (fun i hi => hi) fun v d ρ1 s1 N1 _ _ q => EV.of rfl (.inl ⟨q, fun h => nomatch h⟩)
    · cases h
  | .ife c a b, σ, O, A, h, hP, N, ρ, s, I => by
    rw [okE] at h
    obtain ⟨h, _⟩ := chk_ok h
    split at h
    · rename_i Z hZ
      split at h
      · rename_i A B hA hB
        split at h
        · rename_i hc
          cases h
          rw [Bool.and_eq_true, lsst_iff, lsst_iff] at hc
          obtain ⟨z1, z2, z3⟩ := okE_st hZ
          simp only [vE, evE]
          refine (Ok.bind ((okE_ok c hZ hP I).rv I) fun x dx ρ1 s1 N1 S1 I1 qx => ?_)
          refine (Ok.bind (M1 := []) (test_ok I1 qx.1) fun t t' ρ2 s2 N2 S2 I2 qt => ?_)
          cases qt
          have dn : ∀ {v : Va} {d : D} {e : C} {A' : Ow} {N3 : Ad} {s3 : S}, A'.fr = false ∨ A.fr = true ∧ B.fr = true → s.h.length ≤ s2.h.length → (∀ i ∈ A'.L, i ∈ A.L ++ B.L) → (A.fr && B.fr) = (A.fr && B.fr) → EV σ s2.h.length e A' N3 s3 v d → (A'.fr = true → NonRef d ∨ True) → EV σ s2.h.length e A' N3 s3 v d := fun _ _ _ _ q _ => q
          cases hfr : A.fr && B.fr with
          | true =>
            rw [Bool.and_eq_true] at hfr
            have up : ∀ {e : C} {A' : Ow} {N3 : Ad} {s3 : S} {v : Va} {d : D}, A'.fr = true → (∀ i ∈ A'.L, i ∈ A.L ++ B.L) → EV σ s2.h.length e A' N3 s3 v d → EV σ s.h.length (.ife c a b) ⟨A.L ++ B.L, Z.M ++ (A.M ++ B.M), A.O, true⟩ N3 s3 v d := fun {e A' N3 s3 v d} e1 e2 q => by
              refine EV.of rfl ?_
              rcases q.1 with ⟨q, nr⟩ | ⟨_, x, o, ed, hn, na, ea, q⟩
              · exact .inl ⟨q.mono fun x n => NR.more e2 n, fun _ => nr e1⟩
              · exact .inr ⟨rfl, x, o, ed, Nat.le_trans S1.len (Nat.le_trans S2.len hn), na, ea, q.move fun x o n e => ⟨NR.more e2 n, e⟩⟩
            cases t with
            | true => exact (okE_ok a hA z1 I2).imp (fun i hi => by simp [hi]) fun v d ρ3 s3 N3 _ _ q => up hfr.1 (fun i hi => List.mem_append_left _ hi) q
            | false => exact ((okE_ok b hB z1 I2).same hc.2 hc.1).imp (fun i hi => by simp [hi]) fun v d ρ3 s3 N3 _ _ q => up hfr.2 (fun i hi => List.mem_append_right _ hi) q
          | false =>
            have up : ∀ {e : C} {L' : List Nat} {N3 : Ad} {s3 : S} {v : Va} {d : D}, (∀ i ∈ L', i ∈ A.L ++ B.L) → RV σ L' e N3 s3 v d → EV σ s.h.length (.ife c a b) ⟨A.L ++ B.L, Z.M ++ (A.M ++ B.M), A.O, false⟩ N3 s3 v d := fun {e L' N3 s3 v d} e2 q => EV.of rfl (.inl ⟨q.1.mono fun x n => NR.more e2 n, fun h => nomatch h⟩)
            cases t with
            | true => exact ((okE_ok a hA z1 I2).rv I2).imp (fun i hi => by simp [hi]) fun v d ρ3 s3 N3 _ _ q => up (fun i hi => List.mem_append_left _ hi) q
            | false => exact (((okE_ok b hB z1 I2).rv I2).same hc.2 hc.1).imp (fun i hi => by simp [hi]) fun v d ρ3 s3 N3 _ _ q => up (fun i hi => List.mem_append_right _ hi) q
        · cases h
      · cases h
    · cases h
  | .cmp o a b, σ, O, A, h, hP, N, ρ, s, I => by
    rw [okE] at h
    obtain ⟨h, _⟩ := chk_ok h
    split at h
    · rename_i A hA
      split at h
      · rename_i B hB
        split at h
        · rename_i hc
          cases h
          obtain ⟨q1, q2⟩ := okSeq_ok hc
          obtain ⟨a1, a2, a3⟩ := okE_st hA
          simp only [vE, evE]
          refine Ok.bind ((okE_ok a hA hP I).rv I) fun x dx ρ1 s1 N1 S1 I1 qx => ?_
          refine Ok.map ((okE_ok b hB a1 I1).rv I1) fun y dy ρ2 s2 N2 S2 I2 qy => ?_
          have qx := qx.keep I1 a2 q1 S2
          cases hz : vcmp o x y with
          | none => trivial
          | some z => exact ⟨rfl, _, s2, N2, by simp only [cmpR, op_cmp hz qx.1 qy.1], S2, I2, EV.of rfl (.inl ⟨rfl, fun _ a z => nomatch z⟩)⟩
        · cases h
      · cases h
    · cases h
  | .chain o1 o2 a b c, σ, O, A, h, hP, N, ρ, s, I => by
    rw [okE] at h
    obtain ⟨h, _⟩ := chk_ok h
    split at h
    · rename_i A hA
      split at h
      · rename_i B hB
        split at h
        · rename_i Z hZ
          split at h
          · rename_i hc
            cases h
            simp only [Bool.and_eq_true, lsst_iff] at hc
            obtain ⟨q1, q2⟩ := okSeq_ok hc.1.1
            obtain ⟨r1, r2⟩ := okSeq_ok hc.1.2
            obtain ⟨a1, a2, a3⟩ := okE_st hA
            obtain ⟨b1, b2, b3⟩ := okE_st hB
            obtain ⟨z1, z2, z3⟩ := okE_st hZ
            simp only [vE, evE]
            refine Ok.bind ((okE_ok a hA hP I).rv I) fun x dx ρ1 s1 N1 S1 I1 qx => ?_
            refine Ok.bind ((okE_ok b hB a1 I1).rv I1) fun y dy ρ2 s2 N2 S2 I2 qy => ?_
            have qx := qx.keep I1 a2 q1 S2
            cases hz : vcmp o1 x y with
            | none => trivial
            | some t =>
              simp only [VR.of_some, VR.bind_ok, op_cmp hz qx.1 qy.1, R.of_some, R.bind_ok]
              cases t with
              | false => exact ok_now I2 (EV.of rfl (.inl ⟨rfl, fun _ a z => nomatch z⟩))
              | true =>
                refine Ok.same (O1 := Z.O) ?_ z3 hc.2
                refine Ok.map ((okE_ok c hZ b1 I2).rv I2) fun z dz ρ3 s3 N3 S3 I3 qz => ?_
                have qy := qy.keep I2 b2 r1 S3
                cases hz2 : vcmp o2 y z with
                | none => trivial
                | some u => exact ⟨rfl, _, s3, N3, by simp only [cmpR, op_cmp hz2 qy.1 qz.1], S3, I3, EV.of rfl (.inl ⟨rfl, fun _ a z => nomatch z⟩)⟩
          · cases h
        · cases h
      · cases h
    · cases h
  | .ix a b, σ, O, A, h, hP, N, ρ, s, I => by
    rw [okE] at h
    obtain ⟨h, _⟩ := chk_ok h
    split at h
    · rename_i A hA
      split at h
      · rename_i B hB
        split at h
        · rename_i hc
          cases h
          obtain ⟨q1, q2⟩ := okSeq_ok hc
          obtain ⟨a1, a2, a3⟩ := okE_st hA
          simp only [vE, evE]
          refine Ok.bind ((okE_ok a hA hP I).rv I) fun x dx ρ1 s1 N1 S1 I1 qx => ?_
          refine Ok.map ((okE_ok b hB a1 I1).rv I1) fun y dy ρ2 s2 N2 S2 I2 qy => ?_
          have qx := qx.keep I1 a2 q1 S2
          cases hz : vidx x y with
          | none => trivial
          | some z =>
            obtain ⟨d, e1, q⟩ := op_idx hz qx.2 qy.1
            exact ⟨rfl, d, s2, N2, e1, S2, I2, EV.of rfl (.inl ⟨q, fun h => nomatch h⟩)⟩
        · cases h
      · cases h
    · cases h
  | .slc a lo hi, σ, O, A, h, hP, N, ρ, s, I => by
    rw [okE] at h
    obtain ⟨h, _⟩ := chk_ok h
    split at h
    · rename_i A hA
      split at h
      · rename_i B hB
        split at h
        · rename_i Z hZ
          split at h
          · rename_i hc
            cases h
            rw [Bool.and_eq_true] at hc
            obtain ⟨q1, q2⟩ := okSeq_ok hc.1
            obtain ⟨r1, r2⟩ := okSeq_ok hc.2
            obtain ⟨a1, a2, a3⟩ := okE_st hA
            obtain ⟨b1, b2, b3⟩ := okB_st hB
            obtain ⟨z1, z2, z3⟩ := okB_st hZ
            simp only [vE, evE]
            refine Ok.bind ((okE_ok a hA hP I).rv I) fun x dx ρ1 s1 N1 S1 I1 qx => ?_
            refine Ok.bind (okB_ok lo hB a1 I1) fun y dy ρ2 s2 N2 S2 I2 qy => ?_
            have qx := qx.keep I1 a2 q1 S2
            refine Ok.map (okB_ok hi hZ b1 I2) fun z dz ρ3 s3 N3 S3 I3 qz => ?_
            have qx := qx.keep I2 q2 r1 S3
            cases hz : vslc x y z with
            | none => trivial
            | some v =>
              unfold vslc at hz
              rw [qy, qz] at hz
              have hl : ∀ {i : Nat}, i ∈ eL a A.L → i ∈ A.L := fun {i} hi => by cases a <;> first | exact hi | simp [eL] at hi
              obtain ⟨d, s4, e4, S4, I4, v4⟩ := (op_slice hz qx.2).ok (n0 := s.h.length) I3 (fun i hi => r2 i (hl hi)) (Nat.le_trans S1.len (Nat.le_trans S2.len S3.len)) S3
              exact ⟨rfl, d, s4, N3, e4, S4, I4, EV.of rfl v4⟩
          · cases h
        · cases h
      · cases h
    · cases h
  | .bnd _, σ, O, A, h, hP, N, ρ, s, I => by
    rw [okE] at h
    cases (chk_ok h).1
  | .rng _, σ, O, A, h, hP, N, ρ, s, I => by
    rw [okE] at h
    cases (chk_ok h).1
  | .enum _, σ, O, A, h, hP, N, ρ, s, I => by
    rw [okE] at h
    cases (chk_ok h).1
  | .call k es, σ, O, A, h, hP, N, ρ, s, I => by
    rw [okE] at h
    obtain ⟨h, _⟩ := chk_ok h
    split at h
    · rename_i fi hk
      split at h
      · rename_i As hA
        split at h
        · rename_i is his
          split at h
          · rename_i hc
            obtain ⟨nd, nio, hl, hs, hd⟩ := hc
            rw [lsst_iff] at hs
            rw [ldis_iff] at hd
            simp only [List.all_eq_true, decide_eq_true_eq] at hl
            obtain ⟨t1, t2, t3⟩ := okAs_st hA hP
            simp only [vE, evE, hio k fi hk]
            split at h
            · rename_i he
              cases h
              have he : fi.io = [] := List.isEmpty_iff.mp he
              refine (Ok.bind (okAs_ok es hA hP I) fun vs ds ρ1 s1 N1 S1 I1 q => ?_).imp (M1 := allM As ++ []) (fun i hi => by simpa using hi) fun _ _ _ _ _ _ _ h => h
              rw [he] at q
              exact (call_ok0 C0 hk he I1 q t2 t1).imp (fun i hi => hi) fun v d ρ2 s2 N2 S2 I2 q => EV.of rfl (by
                rcases q with q | ⟨a, x, o, e1, hn, q⟩
                · exact .inl q
                · exact .inr ⟨a, x, o, e1, Nat.le_trans S1.len hn, q⟩)
            · split at h
              · rename_i hpl
                cases h
                rw [ldis_iff] at hpl
                refine Ok.bind (okAs_ok es hA hP I) fun vs ds ρ1 s1 N1 S1 I1 q => ?_
                exact (call_ok1 C0 hk I1 q his nd nio hl hs t2 hd (fun i hi => mem_lsub.mpr ⟨t1 i hi, hpl i hi⟩)).imp (fun i hi => hi) fun v d ρ2 s2 N2 S2 I2 q => EV.of rfl (by
                  rcases q with q | ⟨a, x, o, e1, hn, q⟩
                  · exact .inl q
                  · exact .inr ⟨a, x, o, e1, Nat.le_trans S1.len hn, q⟩)
              · cases h
          · cases h
        · cases h
      · cases h
    · cases h
  | .bi b es, σ, O, A, h, hP, N, ρ, s, I => by
    rw [okE] at h
    obtain ⟨h, _⟩ := chk_ok h
    split at h
    · rename_i As hA
      cases h
      simp only [vE, evE]
      match es, hA with
      | [], hA =>
        simp only [vEs, VR.bind_ok, vbi_zero]
        trivial
      | e1 :: e2 :: r, hA =>
        refine Ok.map (okAs_ok (e1 :: e2 :: r) hA hP I) fun vs ds ρ1 s1 N1 S1 I1 q => ?_
        obtain ⟨l1, _⟩ := q.get
        match vs, l1, q with
        | v1 :: v2 :: vr, l1, q =>
          cases hz : vbi b (v1 :: v2 :: vr) with
          | none => trivial
          | some z =>
            have r := (op_bi (N := fun a => N1 a ∨ Rts σ [] a) hz q.reps fun x d e => nomatch e).flat (N' := fun a => N1 a ∨ Rts σ [] a) (vbi_two hz)
            obtain ⟨d2, s2, e2, S2, I2, v2⟩ := r.ok (n0 := s.h.length) I1 (fun i hi => by simp at hi) S1.len S1
            exact ⟨rfl, d2, s2, N1, e2, S2, I2, EV.of rfl (by cases b <;> exact v2)⟩
      | [e], hA =>
        obtain ⟨A, Bs, rfl, hB, _, _, h3⟩ := okAs_cons hA
        rw [okAs.eq_def] at hB
        cases hB
        rcases h3 with ⟨h3, _⟩ | ⟨_, h3⟩
        · simp at h3
        obtain ⟨a1, a2, a3⟩ := okE_st h3
        have one : Ok σ P O A.O A.M N s (fun N1 s1 vs ds => ∃ v d, vs = [v] ∧ ds = [d] ∧ RV σ A.L e N1 s1 v d) (vEs g io w [e] ρ) (evEs f w [e] σ s) := by
          simp only [vEs, evEs, VR.bind_ok, R.bind_ok]
          exact ((okE_ok e h3 hP I).rv I).map fun x dx ρ1 s1 N1 S1 I1 qx => ⟨rfl, _, s1, N1, rfl, S1, I1, x, dx, rfl, rfl, qx⟩
        refine (Ok.map one fun vs ds ρ1 s1 N1 S1 I1 q => ?_).imp (M1 := A.M) (fun i hi => by simpa [allM] using hi) fun _ _ _ _ _ _ _ h => h
        obtain ⟨x, d, rfl, rfl, q⟩ := q
        cases hz : vbi b [x] with
        | none => trivial
        | some z =>
          have r := op_bi (N := fun a => N1 a ∨ Rts σ (eL e (allL [A])) a) hz (Reps.one q.1) fun x' d' e1 e2 => by
            cases e1; cases e2
            exact q.el fun i hi => by simpa [allL] using hi
          have hl : ∀ {i : Nat}, i ∈ eL e (allL [A]) → i ∈ A.L := fun {i} hi => by
            have : i ∈ allL [A] := by cases e <;> first | exact hi | simp [eL] at hi
            simpa [allL] using this
          have go : ∀ {L' : List Nat}, (∀ i ∈ L', i ∈ A.L) → OpOk s1 (fun a => N1 a ∨ Rts σ L' a) z (biF b [d] s1) → VR.of (some z) ρ1 = .ok z ρ1 ∧ ∃ d' s2 N2, biF b [d] s1 = .ok d' s2 ∧ St σ O A.O A.M N s N2 s2 ∧ Inv N2 A.O σ ρ1 s2 ∧ Val s2.h s.h.length N2 (Rts σ L') true z d' := fun {L'} hL' r => by
            obtain ⟨d2, s2, e2, S2, I2, v2⟩ := r.ok (n0 := s.h.length) I1 (fun i hi => a2 i (hL' i hi)) S1.len S1
            exact ⟨rfl, d2, s2, N1, e2, S2, I2, v2⟩
          have flat : bflat b = true → OpOk s1 (fun a => N1 a ∨ Rts σ [] a) z (biF b [d] s1) := fun hb => r.flat (vbi_flat hz hb)
          have fin : ∀ {L' : List Nat}, VR.of (some z) ρ1 = .ok z ρ1 ∧ (∃ d' s2 N2, biF b [d] s1 = .ok d' s2 ∧ St σ O A.O A.M N s N2 s2 ∧ Inv N2 A.O σ ρ1 s2 ∧ Val s2.h s.h.length N2 (Rts σ L') true z d') →
              (ρ1 = ρ1 ∧ ∃ d' s2 N2, biF b [d] s1 = .ok d' s2 ∧ St σ O A.O A.M N s N2 s2 ∧ Inv N2 A.O σ ρ1 s2 ∧ EV σ s.h.length (.bi b [e]) ⟨L', allM [A], lastO O [A], true⟩ N2 s2 z d') := fun {L'} ⟨_, d', s2, N2, e2, S2, I2, v2⟩ => ⟨rfl, d', s2, N2, e2, S2, I2, EV.of rfl v2⟩
          cases b with
          | len => exact fin (go (fun i hi => by simp at hi) (flat rfl))
          | sum => exact fin (go (fun i hi => by simp at hi) (flat rfl))
          | any => exact fin (go (fun i hi => by simp at hi) (flat rfl))
          | all => exact fin (go (fun i hi => by simp at hi) (flat rfl))
          | repr => exact fin (go (fun i hi => by simp at hi) (flat rfl))
          | inst k => exact fin (go (fun i hi => by simp at hi) (flat rfl))
          | tuple => exact fin (go (fun i hi => hl hi) r)
          | list => exact fin (go (fun i hi => hl hi) r)
          | sorted => exact fin (go (fun i hi => hl hi) r)
          | sset => exact fin (go (fun i hi => hl hi) r)
          | rev => exact fin (go (fun i hi => hl hi) r)
          | rev0 => exact fin (go (fun i hi => hl hi) r)
          | lset => exact fin (go (fun i hi => by simp at hi) (flat rfl))
          | mm mx => exact fin (go (fun i hi => by simp at hi) (flat rfl))
          | mmd mx => exact fin (go (fun i hi => by simp at hi) (flat rfl))
          | mm2 mx => exact fin (go (fun i hi => by simp at hi) (flat rfl))
          | trange => exact fin (go (fun i hi => by simp at hi) (flat rfl))
    · cases h
  | .me m o es, σ, O, A, h, hP, N, ρ, s, I => by
    rw [okE.eq_def] at h
    dsimp only at h
    replace h := (chk_ok h).1
    split at h
    · rename_i i
      split at h
      · rename_i As hA
        split at h
        · rename_i hc
          cases h
          simp only [Bool.and_eq_true, List.contains_iff_mem, Bool.not_eq_true', ldis_iff] at hc
          obtain ⟨⟨⟨hi, hi2⟩, hr⟩, hpr⟩ := hc
          obtain ⟨t1, t2, t3⟩ := okAs_st hA hP
          simp only [vE, evE]
          split
          · rename_i xs0 hx0
            obtain ⟨d0, e0, q0⟩ := I.own i _ hi hx0
            have hl0 : isL d0 s = true := by
              rcases q0 with ⟨nr, q0⟩ | ⟨a, ob, rfl, ea, q0⟩
              · obtain ⟨a, _, rfl, _⟩ := q0
                exact absurd rfl (nr a)
              · obtain ⟨_, rfl, _⟩ := q0
                simp only [isL, ea]
            simp only [e0, R.bind_ok, hl0]
            match m, hr, hpr with
            | .pop, hr, hpr =>
              refine Ok.bind (okAs_ok es hA hP I) fun vs ds ρ1 s1 N1 S1 I1 q => ?_
              exact (me_key (m := .pop) (r := []) I1 (by simp) hi2 (fun j hj => by simp at hj) (fun j hj => by simp) t1 e0 q.reps trivial).imp (fun j hj => hj) fun v d ρ2 s2 N2 S2 I2 q => q.wk (Nat.le_of_eq rfl) S1.len
            | .append, hr, hpr =>
              refine Ok.bind (okAs_ok es hA hP I) fun vs ds ρ1 s1 N1 S1 I1 q => ?_
              exact (me_key (m := .append) (r := allL As) I1 (by simpa [meL] using hr) hi2 t2 hpr t1 e0 q.reps fun x ex => by
                subst ex
                obtain ⟨d, ds', rfl, q1, q2⟩ := q.reps
                cases q2
                exact ⟨d, rfl, q1⟩).imp (fun j hj => hj) fun v d ρ2 s2 N2 S2 I2 q => q.wk (Nat.le_of_eq rfl) S1.len
            | .extend, hr, hpr =>
              match es, hA, hr, hpr with
              | [], hA, hr, hpr =>
                refine Ok.bind (okAs_ok [] hA hP I) fun vs ds ρ1 s1 N1 S1 I1 q => ?_
                exact (me_key (m := .extend) (r := allL As) I1 (by simpa [meL] using hr) hi2 t2 hpr t1 e0 q.reps fun x ex => by
                  subst ex
                  exact q.elim).imp (fun j hj => hj) fun v d ρ2 s2 N2 S2 I2 q => q.wk (Nat.le_of_eq rfl) S1.len
              | e1 :: e2 :: r, hA, hr, hpr =>
                refine Ok.bind (okAs_ok (e1 :: e2 :: r) hA hP I) fun vs ds ρ1 s1 N1 S1 I1 q => ?_
                exact (me_key (m := .extend) (r := allL As) I1 (by simpa [meL] using hr) hi2 t2 hpr t1 e0 q.reps fun x ex => by
                  subst ex
                  have := q.get.1
                  simp at this).imp (fun j hj => hj) fun v d ρ2 s2 N2 S2 I2 q => q.wk (Nat.le_of_eq rfl) S1.len
              | [e], hA, hr, hpr =>
                obtain ⟨A, Bs, rfl, hB, _, _, h3⟩ := okAs_cons hA
                rw [okAs.eq_def] at hB
                cases hB
                rcases h3 with ⟨h3, _⟩ | ⟨_, h3⟩
                · simp at h3
                have one0 : Ok σ P O A.O A.M N s (fun N1 s1 vs ds => ∃ v d, vs = [v] ∧ ds = [d] ∧ RV σ A.L e N1 s1 v d) (vEs g io w [e] ρ) (evEs f w [e] σ s) := by
                  simp only [vEs, evEs, VR.bind_ok, R.bind_ok]
                  exact ((okE_ok e h3 hP I).rv I).map fun x dx ρ1 s1 N1 S1 I1 qx => ⟨rfl, _, s1, N1, rfl, S1, I1, x, dx, rfl, rfl, qx⟩
                have one := one0.imp (M2 := allM [A]) (fun i hi => by simpa [allM] using hi) fun _ _ _ _ _ _ _ h => h
                have hl : ∀ {j : Nat}, j ∈ eL e (allL [A]) → j ∈ allL [A] := fun {j} hj => by cases e <;> first | exact hj | simp [eL] at hj
                refine Ok.bind one fun vs ds ρ1 s1 N1 S1 I1 q => ?_
                obtain ⟨x, d, rfl, rfl, q⟩ := q
                exact (me_key (m := .extend) (r := eL e (allL [A])) I1 (by simpa [meL] using hr) hi2 (fun j hj => t2 j (hl hj)) hpr t1 e0 (Reps.one q.1) fun l el => by
                  cases el
                  exact ⟨d, rfl, q.el fun j hj => by simpa [allL] using hj⟩).imp (fun j hj => hj) fun v d ρ2 s2 N2 S2 I2 q => q.wk (Nat.le_of_eq rfl) S1.len
          · trivial
        · cases h
      · cases h
    · cases h
  | .met m o es, σ, O, A, h, hP, N, ρ, s, I => by
    rw [okE] at h
    replace h := (chk_ok h).1
    split at h
    · rename_i A hA
      split at h
      · rename_i As hAs
        split at h
        · rename_i hc
          cases h
          rw [Bool.and_eq_true, ldis_iff, lsst_iff] at hc
          obtain ⟨a1, a2, a3⟩ := okE_st hA
          obtain ⟨t1, t2, t3⟩ := okAs_st hAs a1
          simp only [vE, evE]
          refine Ok.bind ((okE_ok o hA hP I).rv I) fun x dx ρ1 s1 N1 S1 I1 qx => ?_
          cases hk : vmrOk m x with
          | false => trivial
          | true =>
            rw [op_mrOk hk qx.1]
            refine Ok.map (okAs_ok es hAs a1 I1) fun vs ds ρ2 s2 N2 S2 I2 q => ?_
            have qx := qx.keep I1 a2 hc.1 S2
            cases hz : vmr m x vs with
            | none => trivial
            | some z =>
              obtain ⟨d, e1, qd⟩ := op_mr hz (qx.el (L' := eL o A.L ++ allL As) fun i hi => List.mem_append_left _ hi) (q.reps.mono fun a n => NR.more (fun i hi => List.mem_append_right _ hi) n)
              refine ⟨rfl, d, s2, N2, e1, S2, I2, EV.of rfl (.inl ⟨?_, fun hf => ?_⟩)⟩
              · cases hm : mrFlat m with
                | true => exact Rep.flat (vmr_flat hz hm) qd
                | false => exact qd
              · exact qd.nonref_flat (vmr_flat hz hf)
        · cases h
      · cases h
    · cases h
  | .lc e t it cs, σ, O, A, h, hP, N, ρ, s, I => by
    rw [okE] at h
    replace h := (chk_ok h).1
    split at h
    · rename_i W hW
      split at h
      · rename_i Z hZ
        split at h
        · rename_i E hE
          split at h
          · rename_i hc
            cases h
            simp only [Bool.and_eq_true, ldis_iff, lsst_iff] at hc
            obtain ⟨⟨⟨hpl, hOE⟩, hLsM⟩, hLM⟩ := hc
            obtain ⟨w1, w2, w3, w4⟩ := okW_st hW hP
            obtain ⟨z1, z2, z3⟩ := okTs_st hZ
            obtain ⟨e1, e2, e3⟩ := okE_st hE
            have dn : ∀ i ∈ lsub W.O (W.Le ++ t.ixs'), i ∈ W.O := fun i hi => (mem_lsub.mp hi).1
            have hix : ∀ i ∈ t.ixs', i ∉ lsub W.O (W.Le ++ t.ixs') := fun i hi z => (mem_lsub.mp z).2 (List.mem_append_right _ hi)
            have hP2 : ∀ i ∈ P, i ∈ lsub W.O (W.Le ++ t.ixs') := fun i hi => mem_lsub.mpr ⟨w1 i hi, hpl i hi⟩
            have hL2 : ∀ i ∈ E.L, i ∈ lsub W.O (W.Le ++ t.ixs') := fun i hi => z3 i (e3 i (e2 i hi))
            simp only [vE, evE]
            rw [← VR.bind_assoc]
            have first : Ok σ P O W.O W.M N s (IW σ W) ((vE g io w it ρ).bind fun x ρ => VR.of (vitOf x) ρ) (evI f w it σ s) := by
              split at hW
              · exact okR_ok it hW hP I
              · rename_i hw
                rw [vevI_no (by simpa using hw)]
                cases ha : okE tb P O it with
                | none => rw [ha] at hW; cases hW
                | some A =>
                  rw [ha] at hW
                  cases hW
                  refine Ok.map ((okE_ok it ha hP I).rv I) fun x dx ρ1 s1 N1 S1 I1 qx => ?_
                  cases hv : vitOf x with
                  | none => trivial
                  | some vs =>
                    obtain ⟨j, ej, qj⟩ := vitOf_ok (M := A.M) (O := A.O) qx hv
                    exact ⟨rfl, j, s1, N1, by simp only [ej, R.of_some], S1, I1, qj⟩
            refine Ok.bind first fun vs j ρ1 s1 N1 S1 I1 q => ?_
            by_cases hw : vs.length < w
            · rw [if_pos hw]
              obtain ⟨ds, J, ht, hr⟩ := walk_ok I1 dn (fun i hi => ⟨w3 i hi, fun z => (mem_lsub.mp z).2 (List.mem_append_left _ hi)⟩) w2 q
              have lp := lc_ok (σ := σ) (P := P) (L := E.L) (M := Z.M ++ E.M) (Ls := lint W.Ls (lsub W.O (W.Le ++ t.ixs'))) (j := j) (items := ds)
                (b := fun d ρ0 => match t.setV d ρ0 with
                  | some ρ => ((vTs g io w cs ρ).bind fun c ρ => match c with
                    | true => (vE g io w e ρ).bind fun y ρ => .ok (some y) ρ
                    | false => .ok none ρ).scope t.ixs' ρ0
                  | none => .bad)
                (b' := fun d s => match t.set d σ with
                  | some σ' => (evTs f w cs σ' s).bind fun c s => match c with
                    | true => (evE f w e σ' s).bind fun y s => .ok (some y) s
                    | false => .ok none s
                  | none => .bad) hL2 hLM (fun i hi => (mem_lint.mp hi).2) (fun i hi => hLsM i (mem_lint.mp hi).1) (fun v d N2 s2 ρ2 I2 qv => by
                  cases hset : t.setV v ρ2 with
                  | none => trivial
                  | some ρt =>
                    obtain ⟨σt, es, It, hσ⟩ := tgt_ok hset qv I2 hix
                    simp only [es]
                    refine Ok.scope ?_ I2 hσ hix (set_len es) It
                    refine Ok.bind (okTs_ok cs hZ hP2 It) fun c c' ρ3 s3 N3 S3 I3 qc => ?_
                    cases qc
                    cases c with
                    | false => exact Ok.same (ok_now I3 trivial) z3 (fun i hi => e3 i (hOE i hi))
                    | true =>
                      refine Ok.same (O1 := E.O) ?_ (fun i hi => z3 i (e3 i hi)) hOE
                      refine Ok.map ((okE_ok e hE z1 I3).rv I3) fun y dy ρ4 s4 N4 S4 I4 qy => ?_
                      exact ⟨rfl, some dy, s4, N4, rfl, S4, I4, (show Rep s4.h (fun a => N4 a ∨ Rts σ E.L a) y dy from qy.1.mono fun a n => n.imp id (rts_eq hσ hix hL2))⟩) vs w 0 [] [] _ s1 ρ1 J ht hr rfl hw
              refine Ok.of_drop dn ?_
              refine Ok.map lp fun ys ds' ρ2 s2 N2 S2 I2 q2 => ?_
              obtain ⟨h1, h2⟩ := new_ok (n0 := s.h.length) (v := .list ys) (o := .list ds') I2 hL2 (Nat.le_trans S1.len S2.len) ⟨_, rfl, q2⟩
              exact ⟨rfl, _, _, N2, rfl, S2.plus, h1, EV.of rfl h2⟩
            · rw [if_neg hw]
              trivial
          · cases h
        · cases h
      · cases h
    · cases h
  | .dc k v t it cs, σ, O, A, h, hP, N, ρ, s, I => by
    rw [okE] at h
    replace h := (chk_ok h).1
    split at h
    · rename_i W hW
      split at h
      · rename_i Z hZ
        split at h
        · rename_i K hK
          split at h
          · rename_i E hE
            split at h
            · rename_i hc
              cases h
              simp only [Bool.and_eq_true, ldis_iff, lsst_iff] at hc
              obtain ⟨⟨⟨⟨hpl, hOE⟩, hLsM⟩, hLM⟩, hKE⟩ := hc
              obtain ⟨k1, k2⟩ := okSeq_ok hKE
              obtain ⟨w1, w2, w3, w4⟩ := okW_st hW hP
              obtain ⟨z1, z2, z3⟩ := okTs_st hZ
              obtain ⟨y1, y2, y3⟩ := okE_st hK
              obtain ⟨e1, e2, e3⟩ := okE_st hE
              have dn : ∀ i ∈ lsub W.O (W.Le ++ t.ixs'), i ∈ W.O := fun i hi => (mem_lsub.mp hi).1
              have hix : ∀ i ∈ t.ixs', i ∉ lsub W.O (W.Le ++ t.ixs') := fun i hi z => (mem_lsub.mp z).2 (List.mem_append_right _ hi)
              have hP2 : ∀ i ∈ P, i ∈ lsub W.O (W.Le ++ t.ixs') := fun i hi => mem_lsub.mpr ⟨w1 i hi, hpl i hi⟩
              have hL2 : ∀ i ∈ E.L, i ∈ lsub W.O (W.Le ++ t.ixs') := fun i hi => z3 i (y3 i (e3 i (e2 i hi)))
              simp only [vE, evE]
              rw [← VR.bind_assoc]
              have first : Ok σ P O W.O W.M N s (IW σ W) ((vE g io w it ρ).bind fun x ρ => VR.of (vitOf x) ρ) (evI f w it σ s) := by
                split at hW
                · exact okR_ok it hW hP I
                · rename_i hw
                  rw [vevI_no (by simpa using hw)]
                  cases ha : okE tb P O it with
                  | none => rw [ha] at hW; cases hW
                  | some A =>
                    rw [ha] at hW
                    cases hW
                    refine Ok.map ((okE_ok it ha hP I).rv I) fun x dx ρ1 s1 N1 S1 I1 qx => ?_
                    cases hv : vitOf x with
                    | none => trivial
                    | some vs =>
                      obtain ⟨j, ej, qj⟩ := vitOf_ok (M := A.M) (O := A.O) qx hv
                      exact ⟨rfl, j, s1, N1, by simp only [ej, R.of_some], S1, I1, qj⟩
              refine Ok.bind first fun vs j ρ1 s1 N1 S1 I1 q => ?_
              by_cases hw : vs.length < w
              · rw [if_pos hw]
                obtain ⟨ds, J, ht, hr⟩ := walk_ok I1 dn (fun i hi => ⟨w3 i hi, fun z => (mem_lsub.mp z).2 (List.mem_append_left _ hi)⟩) w2 q
                have lp := dc_ok (σ := σ) (P := P) (L := E.L) (M := Z.M ++ (K.M ++ E.M)) (Ls := lint W.Ls (lsub W.O (W.Le ++ t.ixs'))) (j := j) (items := ds)
                  (b := fun d ρ0 => match t.setV d ρ0 with
                    | some ρ => ((vTs g io w cs ρ).bind fun c ρ => match c with
                      | true => (vE g io w k ρ).bind fun x ρ => (vE g io w v ρ).bind fun y ρ => .ok (some (x, y)) ρ
                      | false => .ok none ρ).scope t.ixs' ρ0
                    | none => .bad)
                  (b' := fun d s => match t.set d σ with
                    | some σ' => (evTs f w cs σ' s).bind fun c s => match c with
                      | true => (evE f w k σ' s).bind fun x s => (evE f w v σ' s).bind fun y s => .ok (some (x, y)) s
                      | false => .ok none s
                    | none => .bad) hL2 hLM (fun i hi => (mem_lint.mp hi).2) (fun i hi => hLsM i (mem_lint.mp hi).1) (fun v0 d N2 s2 ρ2 I2 qv => by
                    cases hset : t.setV v0 ρ2 with
                    | none => trivial
                    | some ρt =>
                      obtain ⟨σt, es, It, hσ⟩ := tgt_ok hset qv I2 hix
                      simp only [es]
                      refine Ok.scope ?_ I2 hσ hix (set_len es) It
                      refine Ok.bind (okTs_ok cs hZ hP2 It) fun c c' ρ3 s3 N3 S3 I3 qc => ?_
                      cases qc
                      cases c with
                      | false => exact Ok.same (ok_now I3 trivial) z3 (fun i hi => y3 i (e3 i (hOE i hi)))
                      | true =>
                        refine Ok.same (O1 := E.O) ?_ (fun i hi => z3 i (y3 i (e3 i hi))) hOE
                        refine Ok.bind ((okE_ok k hK z1 I3).rv I3) fun x dx ρ4 s4 N4 S4 I4 qx => ?_
                        refine Ok.map ((okE_ok v hE y1 I4).rv I4) fun y dy ρ5 s5 N5 S5 I5 qy => ?_
                        have qx := qx.keep I4 y2 k1 S5
                        exact ⟨rfl, some (dx, dy), s5, N5, rfl, S5, I5, (show vkey? x = key? dx ∧ Rep s5.h (fun a => N5 a ∨ Rts σ E.L a) y dy from ⟨(op_key qx.1).symm, qy.1.mono fun a n => n.imp id (rts_eq hσ hix hL2)⟩)⟩) vs w 0 [] [] _ s1 ρ1 J ht hr rfl hw
                refine Ok.of_drop dn ?_
                refine Ok.map lp fun ys ds' ρ2 s2 N2 S2 I2 q2 => ?_
                obtain ⟨h1, h2⟩ := new_ok (n0 := s.h.length) (v := .dict ys) (o := .dict ds') I2 hL2 (Nat.le_trans S1.len S2.len) ⟨_, rfl, q2⟩
                exact ⟨rfl, _, _, N2, rfl, S2.plus, h1, EV.of rfl h2⟩
              · rw [if_neg hw]
                trivial
            · cases h
          · cases h
        · cases h
      · cases h
    · cases h
theorem okAs_ok : ∀ (es : List C) {σ : Sl} {ios : List Nat} {j : Nat} {O : List Nat} {As : List Ow}, okAs tb P ios j O es = some As → (∀ i ∈ P, i ∈ O) → ∀ {N : Ad} {ρ : Ev} {s : S}, Inv N O σ ρ s →
    Ok σ P O (lastO O As) (allM As) N s (fun N1 s1 vs ds => Args s1.h (fun a => N1 a ∨ Rts σ (allL As) a) σ ios j es vs ds) (vEs g io w es ρ) (evEs f w es σ s)
  | [], σ, ios, j, O, As, h, hP, N, ρ, s, I => by
    rw [okAs.eq_def] at h
    cases h
    simp only [vEs, evEs]
    exact ok_now I trivial
  | e :: r, σ, ios, j, O, As, h, hP, N, ρ, s, I => by
    obtain ⟨A, Bs, rfl, hB, h1, h2, h3⟩ := okAs_cons h
    simp only [vEs, evEs]
    rw [lastO_cons, allM_cons, allL_cons]
    rcases h3 with ⟨hj, ⟨i, rfl⟩, rfl⟩ | ⟨hj, hA⟩
    · dsimp only at hB ⊢
      have first : Ok σ P O O [] N s (fun N1 s1 v d => σ[i]? = some (some d)) (vE g io w (.loc i) ρ) (evE f w (.loc i) σ s) := by
        simp only [vE, evE]
        cases hr : ρ[i]? with
        | none => trivial
        | some x =>
          cases x with
          | none => trivial
          | some v =>
            dsimp only
            by_cases hi : i ∈ O
            · obtain ⟨d, e1, q⟩ := I.own i v hi hr
              simp only [e1]
              exact ok_now I rfl
            · obtain ⟨d, e1, q⟩ := I.rep i v hi hr
              simp only [e1]
              exact ok_now I rfl
      refine Ok.bind first fun x dx ρ1 s1 N1 S1 I1 qx => ?_
      exact Ok.map (okAs_ok r hB hP I1) fun vs ds ρ2 s2 N2 S2 I2 q => ⟨rfl, _, s2, N2, rfl, S2, I2, by rw [if_pos hj]; exact ⟨i, rfl, qx⟩, q⟩
    · obtain ⟨a1, a2, a3⟩ := okE_st hA
      refine Ok.bind ((okE_ok e hA hP I).rv I) fun x dx ρ1 s1 N1 S1 I1 qx => ?_
      exact Ok.map (okAs_ok r hB a1 I1) fun vs ds ρ2 s2 N2 S2 I2 q => ⟨rfl, _, s2, N2, rfl, S2, I2, by
        rw [if_neg (by rw [hj]; exact Bool.false_ne_true)]
        exact (qx.keep I1 a2 h1 S2).1.mono fun a n => NR.more (fun i hi => List.mem_append_left _ hi) n, q.move fun a o n e => ⟨NR.more (fun i hi => List.mem_append_right _ hi) n, e⟩⟩
theorem and_ok : ∀ (es : List C) {σ : Sl} {j : Nat} {O : List Nat} {As : List Ow}, okAs tb P [] j O es = some As → (∀ i ∈ P, i ∈ O) → ∀ {N : Ad} {ρ : Ev} {s : S}, Inv N O σ ρ s →
    Ok σ P O (lastO O As) (allM As) N s (fun N1 s1 v d => Rep s1.h (fun a => N1 a ∨ Rts σ (allL As) a) v d) (vAnd g io w es ρ) (evAnd f w es σ s)
  | [], σ, j, O, As, h, hP, N, ρ, s, I => by
    simp only [vAnd]
    trivial
  | [e], σ, j, O, As, h, hP, N, ρ, s, I => by
    obtain ⟨A, Bs, rfl, hB, h1, h2, h3⟩ := okAs_cons h
    rw [okAs.eq_def] at hB
    cases hB
    rcases h3 with ⟨h3, _⟩ | ⟨_, hA⟩
    · simp at h3
    simp only [vAnd, evAnd]
    exact ((okE_ok e hA hP I).rv I).imp (fun i hi => by simpa [allM] using hi) fun v d ρ1 s1 N1 _ _ q => q.1.mono fun a n => NR.more (fun i hi => by simpa [allL] using hi) n
  | e :: e2 :: r, σ, j, O, As, h, hP, N, ρ, s, I => by
    obtain ⟨A, Bs, rfl, hB, h1, h2, h3⟩ := okAs_cons h
    rcases h3 with ⟨h3, _⟩ | ⟨_, hA⟩
    · simp at h3
    obtain ⟨a1, a2, a3⟩ := okE_st hA
    simp only [vAnd, evAnd]
    rw [lastO_cons, allM_cons, allL_cons]
    refine Ok.bind ((okE_ok e hA hP I).rv I) fun x dx ρ1 s1 N1 S1 I1 qx => ?_
    unfold vbool boolD
    cases ht : vtruthy x with
    | none => trivial
    | some t =>
      rw [op_truthy ht qx.1]
      cases t with
      | true => exact (and_ok (e2 :: r) hB a1 I1).imp (fun i hi => hi) fun v d ρ2 s2 N2 _ _ q => q.mono fun a n => NR.more (fun i hi => List.mem_append_right _ hi) n
      | false => exact Ok.drop (ok_now (M := allM Bs) (R1 := fun N1 s1 v d => RV σ A.L e N1 s1 v d) I1 qx) (okAs_st hB a1).2.2 fun v d ρ2 s2 N2 _ _ q => q.1.mono fun a n => n.elim (fun h => .inl (.inl h)) fun ⟨i, hi, r⟩ => .inr ⟨i, List.mem_append_left _ hi, r⟩
theorem or_ok : ∀ (es : List C) {σ : Sl} {j : Nat} {O : List Nat} {As : List Ow}, okAs tb P [] j O es = some As → (∀ i ∈ P, i ∈ O) → ∀ {N : Ad} {ρ : Ev} {s : S}, Inv N O σ ρ s →
    Ok σ P O (lastO O As) (allM As) N s (fun N1 s1 v d => Rep s1.h (fun a => N1 a ∨ Rts σ (allL As) a) v d) (vOr g io w es ρ) (evOr f w es σ s)
  | [], σ, j, O, As, h, hP, N, ρ, s, I => by
    simp only [vOr]
    trivial
  | [e], σ, j, O, As, h, hP, N, ρ, s, I => by
    obtain ⟨A, Bs, rfl, hB, h1, h2, h3⟩ := okAs_cons h
    rw [okAs.eq_def] at hB
    cases hB
    rcases h3 with ⟨h3, _⟩ | ⟨_, hA⟩
    · simp at h3
    simp only [vOr, evOr]
    exact ((okE_ok e hA hP I).rv I).imp (fun i hi => by simpa [allM] using hi) fun v d ρ1 s1 N1 _ _ q => q.1.mono fun a n => NR.more (fun i hi => by simpa [allL] using hi) n
  | e :: e2 :: r, σ, j, O, As, h, hP, N, ρ, s, I => by
    obtain ⟨A, Bs, rfl, hB, h1, h2, h3⟩ := okAs_cons h
    rcases h3 with ⟨h3, _⟩ | ⟨_, hA⟩
    · simp at h3
    obtain ⟨a1, a2, a3⟩ := okE_st hA
    simp only [vOr, evOr]
    rw [lastO_cons, allM_cons, allL_cons]
    refine Ok.bind ((okE_ok e hA hP I).rv I) fun x dx ρ1 s1 N1 S1 I1 qx => ?_
    unfold vbool boolD
    cases ht : vtruthy x with
    | none => trivial
    | some t =>
      rw [op_truthy ht qx.1]
      cases t with
      | false => exact (or_ok (e2 :: r) hB a1 I1).imp (fun i hi => hi) fun v d ρ2 s2 N2 _ _ q => q.mono fun a n => NR.more (fun i hi => List.mem_append_right _ hi) n
      | true => exact Ok.drop (ok_now (M := allM Bs) (R1 := fun N1 s1 v d => RV σ A.L e N1 s1 v d) I1 qx) (okAs_st hB a1).2.2 fun v d ρ2 s2 N2 _ _ q => q.1.mono fun a n => n.elim (fun h => .inl (.inl h)) fun ⟨i, hi, r⟩ => .inr ⟨i, List.mem_append_left _ hi, r⟩
theorem okTs_ok : ∀ (es : List C) {σ : Sl} {O : List Nat} {A : Ow}, okTs tb P O es = some A → (∀ i ∈ P, i ∈ O) → ∀ {N : Ad} {ρ : Ev} {s : S}, Inv N O σ ρ s → Ok σ P O A.O A.M N s Tst (vTs g io w es ρ) (evTs f w es σ s)
  | [], σ, O, A, h, hP, N, ρ, s, I => by
    rw [okTs] at h
    obtain ⟨h, _⟩ := chk_ok h
    cases h
    simp only [vTs, evTs]
    exact ok_now I rfl
  | e :: r, σ, O, A, h, hP, N, ρ, s, I => by
    rw [okTs] at h
    obtain ⟨h, _⟩ := chk_ok h
    split at h
    · rename_i A hA
      split at h
      · rename_i B hB
        split at h
        · rename_i hc
          cases h
          rw [lsst_iff] at hc
          obtain ⟨a1, a2, a3⟩ := okE_st hA
          simp only [vTs, evTs]
          refine Ok.bind ((okE_ok e hA hP I).rv I) fun x dx ρ1 s1 N1 S1 I1 qx => ?_
          refine Ok.bind (M1 := []) (test_ok I1 qx.1) fun t t' ρ2 s2 N2 S2 I2 qt => ?_
          cases qt
          cases t with
          | true => exact okTs_ok r hB a1 I2
          | false => exact Ok.same (ok_now I2 rfl) hc (okTs_st hB).2.2
        · cases h
      · cases h
    · cases h
theorem okR_ok : ∀ (e : C) {σ : Sl} {O : List Nat} {W : Iw}, okR tb P O e = some W → (∀ i ∈ P, i ∈ O) → ∀ {N : Ad} {ρ : Ev} {s : S}, Inv N O σ ρ s → Ok σ P O W.O W.M N s (IW σ W) ((vE g io w e ρ).bind fun x ρ => VR.of (vitOf x) ρ) (evI f w e σ s)
  | .rng es, σ, O, W, h, hP, N, ρ, s, I => by
    rw [okR] at h
    cases ha : okAs tb P [] 0 O es with
    | none => rw [ha] at h; cases h
    | some As =>
      rw [ha] at h
      cases h
      simp only [vE, evI]
      rw [VR.bind_assoc]
      refine Ok.map (okAs_ok es ha hP I) fun vs ds ρ1 s1 N1 S1 I1 q => ?_
      cases hv : vrng vs with
      | none => trivial
      | some ws =>
        obtain ⟨j, es', ej, h1, h2⟩ := vrng_ok (N1 := N1) q.reps hv
        exact ⟨rfl, j, s1, N1, ej, S1, I1, es', h1.stay fun a n => ⟨.inl n, rfl⟩, h2.mono fun a n => .inl n⟩
  | .enum e, σ, O, W, h, hP, N, ρ, s, I => by
    rw [okR] at h
    cases ha : okE tb P O e with
    | none => rw [ha] at h; cases h
    | some A =>
      rw [ha] at h
      cases h
      simp only [vE, evI]
      rw [VR.bind_assoc]
      refine Ok.map ((okE_ok e ha hP I).rv I) fun x dx ρ1 s1 N1 S1 I1 qx => ?_
      cases hv : venum x with
      | none => trivial
      | some ws =>
        obtain ⟨j, ej, qj⟩ := venum_ok (M := A.M) (O := A.O) qx hv
        exact ⟨rfl, j, s1, N1, ej, S1, I1, qj⟩
  | .cst _, σ, O, W, h, hP, N, ρ, s, I => by rw [okR.eq_def] at h; cases h
  | .loc _, σ, O, W, h, hP, N, ρ, s, I => by rw [okR.eq_def] at h; cases h
  | .tup _, σ, O, W, h, hP, N, ρ, s, I => by rw [okR.eq_def] at h; cases h
  | .lst _, σ, O, W, h, hP, N, ρ, s, I => by rw [okR.eq_def] at h; cases h
  | .dct _ _, σ, O, W, h, hP, N, ρ, s, I => by rw [okR.eq_def] at h; cases h
  | .bin _ _ _, σ, O, W, h, hP, N, ρ, s, I => by rw [okR.eq_def] at h; cases h
  | .neg _, σ, O, W, h, hP, N, ρ, s, I => by rw [okR.eq_def] at h; cases h
  | .not _, σ, O, W, h, hP, N, ρ, s, I => by rw [okR.eq_def] at h; cases h
  | .and _, σ, O, W, h, hP, N, ρ, s, I => by rw [okR.eq_def] at h; cases h
  | .or _, σ, O, W, h, hP, N, ρ, s, I => by rw [okR.eq_def] at h; cases h
  | .ife _ _ _, σ, O, W, h, hP, N, ρ, s, I => by rw [okR.eq_def] at h; cases h
  | .cmp _ _ _, σ, O, W, h, hP, N, ρ, s, I => by rw [okR.eq_def] at h; cases h
  | .chain _ _ _ _ _, σ, O, W, h, hP, N, ρ, s, I => by rw [okR.eq_def] at h; cases h
  | .ix _ _, σ, O, W, h, hP, N, ρ, s, I => by rw [okR.eq_def] at h; cases h
  | .slc _ _ _, σ, O, W, h, hP, N, ρ, s, I => by rw [okR.eq_def] at h; cases h
  | .bnd _, σ, O, W, h, hP, N, ρ, s, I => by rw [okR.eq_def] at h; cases h
  | .call _ _, σ, O, W, h, hP, N, ρ, s, I => by rw [okR.eq_def] at h; cases h
  | .bi _ _, σ, O, W, h, hP, N, ρ, s, I => by rw [okR.eq_def] at h; cases h
  | .me _ _ _, σ, O, W, h, hP, N, ρ, s, I => by rw [okR.eq_def] at h; cases h
  | .met _ _ _, σ, O, W, h, hP, N, ρ, s, I => by rw [okR.eq_def] at h; cases h
  | .lc _ _ _ _, σ, O, W, h, hP, N, ρ, s, I => by rw [okR.eq_def] at h; cases h
  | .dc _ _ _ _ _, σ, O, W, h, hP, N, ρ, s, I => by rw [okR.eq_def] at h; cases h
theorem okB_ok : ∀ (e : C) {σ : Sl} {O : List Nat} {A : Ow}, okB tb P O e = some A → (∀ i ∈ P, i ∈ O) → ∀ {N : Ad} {ρ : Ev} {s : S}, Inv N O σ ρ s → Ok σ P O A.O A.M N s (fun _ _ v o => vbnd v = some o) (vE g io w e ρ) (evB f w e σ s)
  | .bnd e, σ, O, A, h, hP, N, ρ, s, I => by
    rw [okB] at h
    obtain ⟨h, _⟩ := chk_ok h
    split at h
    · rename_i A hA
      cases h
      simp only [vE, evB]
      refine Ok.map ((okE_ok e hA hP I).rv I) fun x dx ρ1 s1 N1 S1 I1 qx => ?_
      cases x with
      | int i =>
        obtain ⟨q, _⟩ := qx
        cases q
        exact ⟨rfl, _, s1, N1, rfl, S1, I1, rfl⟩
      | _ => trivial
    · cases h
  | .cst D.non, σ, O, A, h, hP, N, ρ, s, I => by
    rw [okB] at h
    obtain ⟨h, _⟩ := chk_ok h
    cases h
    simp only [vE, evB]
    exact ok_now (v := Va.non) (d := none) I rfl
  | .cst (.bl _), σ, O, A, h, hP, N, ρ, s, I => by rw [okB.eq_def] at h; cases (chk_ok h).1
  | .cst (.int _), σ, O, A, h, hP, N, ρ, s, I => by rw [okB.eq_def] at h; cases (chk_ok h).1
  | .cst (.str _), σ, O, A, h, hP, N, ρ, s, I => by rw [okB.eq_def] at h; cases (chk_ok h).1
  | .cst (.tup _), σ, O, A, h, hP, N, ρ, s, I => by rw [okB.eq_def] at h; cases (chk_ok h).1
  | .cst (.ref _), σ, O, A, h, hP, N, ρ, s, I => by rw [okB.eq_def] at h; cases (chk_ok h).1
  | .cst (.fn _), σ, O, A, h, hP, N, ρ, s, I => by rw [okB.eq_def] at h; cases (chk_ok h).1
  | .cst (.ro _), σ, O, A, h, hP, N, ρ, s, I => by rw [okB.eq_def] at h; cases (chk_ok h).1
  | .loc _, σ, O, A, h, hP, N, ρ, s, I => by rw [okB.eq_def] at h; cases (chk_ok h).1
  | .tup _, σ, O, A, h, hP, N, ρ, s, I => by rw [okB.eq_def] at h; cases (chk_ok h).1
  | .lst _, σ, O, A, h, hP, N, ρ, s, I => by rw [okB.eq_def] at h; cases (chk_ok h).1
  | .dct _ _, σ, O, A, h, hP, N, ρ, s, I => by rw [okB.eq_def] at h; cases (chk_ok h).1
  | .bin _ _ _, σ, O, A, h, hP, N, ρ, s, I => by rw [okB.eq_def] at h; cases (chk_ok h).1
  | .neg _, σ, O, A, h, hP, N, ρ, s, I => by rw [okB.eq_def] at h; cases (chk_ok h).1
  | .not _, σ, O, A, h, hP, N, ρ, s, I => by rw [okB.eq_def] at h; cases (chk_ok h).1
  | .and _, σ, O, A, h, hP, N, ρ, s, I => by rw [okB.eq_def] at h; cases (chk_ok h).1
  | .or _, σ, O, A, h, hP, N, ρ, s, I => by rw [okB.eq_def] at h; cases (chk_ok h).1
  | .ife _ _ _, σ, O, A, h, hP, N, ρ, s, I => by rw [okB.eq_def] at h; cases (chk_ok h).1
  | .cmp _ _ _, σ, O, A, h, hP, N, ρ, s, I => by rw [okB.eq_def] at h; cases (chk_ok h).1
  | .chain _ _ _ _ _, σ, O, A, h, hP, N, ρ, s, I => by rw [okB.eq_def] at h; cases (chk_ok h).1
  | .ix _ _, σ, O, A, h, hP, N, ρ, s, I => by rw [okB.eq_def] at h; cases (chk_ok h).1
  | .slc _ _ _, σ, O, A, h, hP, N, ρ, s, I => by rw [okB.eq_def] at h; cases (chk_ok h).1
  | .call _ _, σ, O, A, h, hP, N, ρ, s, I => by rw [okB.eq_def] at h; cases (chk_ok h).1
  | .bi _ _, σ, O, A, h, hP, N, ρ, s, I => by rw [okB.eq_def] at h; cases (chk_ok h).1
  | .me _ _ _, σ, O, A, h, hP, N, ρ, s, I => by rw [okB.eq_def] at h; cases (chk_ok h).1
  | .met _ _ _, σ, O, A, h, hP, N, ρ, s, I => by rw [okB.eq_def] at h; cases (chk_ok h).1
  | .lc _ _ _ _, σ, O, A, h, hP, N, ρ, s, I => by rw [okB.eq_def] at h; cases (chk_ok h).1
  | .dc _ _ _ _ _, σ, O, A, h, hP, N, ρ, s, I => by rw [okB.eq_def] at h; cases (chk_ok h).1
  | .rng _, σ, O, A, h, hP, N, ρ, s, I => by rw [okB.eq_def] at h; cases (chk_ok h).1
  | .enum _, σ, O, A, h, hP, N, ρ, s, I => by rw [okB.eq_def] at h; cases (chk_ok h).1
end
end
end Dv
end

section
/-! Va11 -/
set_option maxHeartbeats 4000000
/-! Va11: statements side by side. -/
namespace Dv
open PySem PySem.W

structure StX (P O O1 : List Nat) (σ : Sl) (N : Ad) (s : S) (σ1 : Sl) (N1 : Ad) (s1 : S) : Prop where
  len : s.h.length ≤ s1.h.length
  old : ∀ a, a < s.h.length → (∀ i ∈ O, ¬ root σ i a) → s1.h[a]? = s.h[a]?
  sub : ∀ a, N a → N1 a
  only : ∀ a, N1 a → N a ∨ s.h.length ≤ a ∨ ∃ i ∈ O, root σ i a
  pr : ∀ p ∈ P, σ1[p]? = σ[p]?
  rts : ∀ i a, i ∈ O1 → root σ1 i a → (∃ j ∈ O, root σ j a ∧ (i ∉ P → j ∉ P)) ∨ s.h.length ≤ a
  ln : σ1.length = σ.length
section
variable {P O O1 O2 : List Nat} {σ σ1 σ2 : Sl} {ρ ρ1 ρ2 : Ev} {N N1 N2 : Ad} {s s1 s2 : S} {fr : Bool}
theorem StX.trans (a : StX P O O1 σ N s σ1 N1 s1) (b : StX P O1 O2 σ1 N1 s1 σ2 N2 s2) : StX P O O2 σ N s σ2 N2 s2 where
  len := Nat.le_trans a.len b.len
  old x hx hn := by
    rw [b.old x (Nat.lt_of_lt_of_le hx a.len) fun i hi r => ?_, a.old x hx hn]
    rcases a.rts i x hi r with ⟨j, hj, r, _⟩ | h
    · exact hn j hj r
    · omega
  sub x h := b.sub x (a.sub x h)
  only x h := by
    rcases b.only x h with h | h | ⟨i, hi, r⟩
    · exact a.only x h
    · exact .inr (.inl (Nat.le_trans a.len h))
    · rcases a.rts i x hi r with ⟨j, hj, r, _⟩ | h
      · exact .inr (.inr ⟨j, hj, r⟩)
      · exact .inr (.inl h)
  pr p hp := (b.pr p hp).trans (a.pr p hp)
  rts i x hi r := by
    rcases b.rts i x hi r with ⟨j, hj, r, hp⟩ | h
    · rcases a.rts j x hj r with ⟨k, hk, r, hp2⟩ | h
      · exact .inl ⟨k, hk, r, fun z => hp2 (hp z)⟩
      · exact .inr h
    · exact .inr (Nat.le_trans a.len h)
  ln := b.ln.trans a.ln
theorem StX.refl (h : ∀ i ∈ O1, i ∈ O) : StX P O O1 σ N s σ N s := ⟨Nat.le_refl _, fun _ _ _ => rfl, fun _ h => h, fun _ h => .inl h, fun _ _ => rfl, fun i a hi r => .inl ⟨i, h i hi, r, id⟩, rfl⟩
theorem St.x {M : List Nat} (a : St σ O O1 M N s N1 s1) : StX P O O1 σ N s σ N1 s1 := ⟨a.len, fun x hx hn => a.old x hx fun i _ hi => hn i hi, a.sub, a.only, fun _ _ => rfl, fun i x hi r => .inl ⟨i, a.dn i hi, r, id⟩, rfl⟩
/-- fewer owned behind -/
theorem StX.drop (a : StX P O O1 σ N s σ1 N1 s1) (h : ∀ i ∈ O2, i ∈ O1) : StX P O O2 σ N s σ1 (rel σ1 O1 O2 N1) s1 :=
  a.trans ((St.refl (O1 := O1) (M := []) (fun _ h => h)).drop h).x
def RetV (P O : List Nat) (σ : Sl) (s : S) (fr : Bool) (N1 : Ad) (s1 : S) (v : Va) (d : D) : Prop :=
  (Rep s1.h N1 v d ∧ (fr = true → NonRef d)) ∨ (fr = true ∧ ∃ a o, d = .ref a ∧ ¬ N1 a ∧ s1.h[a]? = some o ∧ ObRep s1.h N1 v o ∧ (s.h.length ≤ a ∨ ∃ i ∈ O, i ∉ P ∧ root σ i a))
def XOk (P O : List Nat) (fr : Bool) (σ : Sl) (N : Ad) (s : S) (On : List Nat) (B : List (List Nat)) (r : VR VFl) (r' : R (Fl × Sl)) : Prop := match r with
  | .bad => True
  | .ok .nx ρ1 => ∃ σ1 s1 N1, r' = .ok (.nx, σ1) s1 ∧ StX P O On σ N s σ1 N1 s1 ∧ Inv N1 On σ1 ρ1 s1
  | .ok .bk ρ1 => ∃ σ1 s1 N1, r' = .ok (.bk, σ1) s1 ∧ ∃ Ob ∈ B, StX P O Ob σ N s σ1 N1 s1 ∧ Inv N1 Ob σ1 ρ1 s1
  | .ok .ct ρ1 => ∃ σ1 s1 N1, r' = .ok (.ct, σ1) s1 ∧ ∃ Ob ∈ B, StX P O Ob σ N s σ1 N1 s1 ∧ Inv N1 Ob σ1 ρ1 s1
  | .ok (.rt v) ρ1 => ∃ d σ1 s1 N1, r' = .ok (.rt d, σ1) s1 ∧ StX P O P σ N s σ1 N1 s1 ∧ (∃ ρz, (∀ p ∈ P, ρz[p]? = ρ1[p]?) ∧ Inv N1 P σ1 ρz s1) ∧ RetV P O σ s fr N1 s1 v d
  | .exc e ρ1 => ∃ e' σ1 s1 N1, r' = .exc e' s1 ∧ StX P O P σ N s σ1 N1 s1 ∧ Inv N1 P σ1 ρ1 s1 ∧ VExRep e e'
theorem RetV.back (a : StX P O O1 σ N s σ1 N1 s1) {v : Va} {d : D} {Nz : Ad} {sz : S} (q : RetV P O1 σ1 s1 fr Nz sz v d) : RetV P O σ s fr Nz sz v d := by
  rcases q with q | ⟨h, x, o, e1, e2, e3, e4, e5⟩
  · exact .inl q
  · refine .inr ⟨h, x, o, e1, e2, e3, e4, ?_⟩
    rcases e5 with e5 | ⟨i, hi, hp, r⟩
    · exact .inl (Nat.le_trans a.len e5)
    · rcases a.rts i x hi r with ⟨j, hj, r, hq⟩ | h
      · exact .inr ⟨j, hj, hq hp, r⟩
      · exact .inl h
/-- behind some first steps -/
theorem XOk.after {On : List Nat} {B : List (List Nat)} {r : VR VFl} {r' : R (Fl × Sl)} (a : StX P O O1 σ N s σ1 N1 s1) (h : XOk P O1 fr σ1 N1 s1 On B r r') : XOk P O fr σ N s On B r r' := by
  cases r with
  | bad => trivial
  | exc e ρ1 =>
    obtain ⟨e', σ2, s2, N2, e1, e2, e3, e4⟩ := h
    exact ⟨e', σ2, s2, N2, e1, a.trans e2, e3, e4⟩
  | ok fl ρ1 =>
    cases fl with
    | nx => obtain ⟨σ2, s2, N2, e1, e2, e3⟩ := h; exact ⟨σ2, s2, N2, e1, a.trans e2, e3⟩
    | bk => obtain ⟨σ2, s2, N2, e1, Ob, hb, e2, e3⟩ := h; exact ⟨σ2, s2, N2, e1, Ob, hb, a.trans e2, e3⟩
    | ct => obtain ⟨σ2, s2, N2, e1, Ob, hb, e2, e3⟩ := h; exact ⟨σ2, s2, N2, e1, Ob, hb, a.trans e2, e3⟩
    | rt v => obtain ⟨d, σ2, s2, N2, e1, e2, e3, e4⟩ := h; exact ⟨d, σ2, s2, N2, e1, a.trans e2, e3, e4.back a⟩
theorem XOk.more {On On' : List Nat} {B B' : List (List Nat)} {r : VR VFl} {r' : R (Fl × Sl)} (h : XOk P O fr σ N s On B r r') (h1 : ∀ i ∈ On', i ∈ On) (h2 : ∀ b ∈ B, b ∈ B') : XOk P O fr σ N s On' B' r r' := by
  cases r with
  | bad => trivial
  | exc e ρ1 => exact h
  | ok fl ρ1 =>
    cases fl with
    | nx => obtain ⟨σ2, s2, N2, e1, e2, e3⟩ := h; exact ⟨σ2, s2, _, e1, e2.drop h1, e3.drop h1⟩
    | bk => obtain ⟨σ2, s2, N2, e1, Ob, hb, e2, e3⟩ := h; exact ⟨σ2, s2, N2, e1, Ob, h2 Ob hb, e2, e3⟩
    | ct => obtain ⟨σ2, s2, N2, e1, Ob, hb, e2, e3⟩ := h; exact ⟨σ2, s2, N2, e1, Ob, h2 Ob hb, e2, e3⟩
    | rt v => exact h
/-- an expression first -/
theorem Ok.thenX {α β : Type} {M : List Nat} {Rl : Ad → S → α → β → Prop} {r : VR α} {r' : R β} {On : List Nat} {B : List (List Nat)} {k : α → Ev → VR VFl} {k' : β → S → R (Fl × Sl)} (h : Ok σ P O O1 M N s Rl r r')
    (hk : ∀ v d ρ1 s1 N1, St σ O O1 M N s N1 s1 → Inv N1 O1 σ ρ1 s1 → Rl N1 s1 v d → XOk P O1 fr σ N1 s1 On B (k v ρ1) (k' d s1)) : XOk P O fr σ N s On B (r.bind k) (r'.bind k') := by
  cases r with
  | bad => trivial
  | exc e ρ1 =>
    obtain ⟨e', s1, N1, rfl, q1, q2, q3⟩ := h
    exact ⟨e', σ, s1, N1, rfl, q1.x, q2, q3⟩
  | ok v ρ1 =>
    obtain ⟨d, s1, N1, rfl, q1, q2, q3⟩ := h
    exact (hk v d ρ1 s1 N1 q1 q2 q3).after q1.x
/-- a name is given a value: a new object is owned -/
theorem Inv.own1 {i : Nat} {v : Va} {d : D} (I : Inv N O σ ρ s) (hi : i ∉ O) (q : (NonRef d ∧ Rep s.h N v d) ∨ ∃ a o, d = .ref a ∧ ¬ N a ∧ (∀ j ∈ O, ¬ root σ j a) ∧ s.h[a]? = some o ∧ ObRep s.h N v o) : Inv N (O ++ [i]) (σ.set i (some d)) (ρ.set i (some v)) s := by
  have cs : ∀ {j : Nat}, j ∈ O ++ [i] → j ∈ O ∨ j = i := fun {j} h => (List.mem_append.mp h).imp id List.mem_singleton.mp
  have ne : ∀ {j : Nat}, j ∈ O → j ≠ i := fun {j} h z => hi (z ▸ h)
  have rI : ∀ {a : Nat}, root (σ.set i (some d)) i a → d = .ref a := fun {a} r => by
    unfold root at r
    rw [List.getElem?_set] at r
    rw [if_pos rfl] at r
    split at r
    · cases r; rfl
    · cases r
  have rO : ∀ {j a : Nat}, j ∈ O → root (σ.set i (some d)) j a → root σ j a := fun {j a} h r => by
    unfold root at r ⊢
    rwa [List.getElem?_set_ne (Ne.symm (ne h))] at r
  refine ⟨I.wf, I.lt, fun j w hj ew => ?_, fun j w hj ew => ?_, fun j a hj r => ?_, fun j l a hj hl r r' => ?_, by simp [I.len]⟩
  · have h1 : j ∉ O := fun z => hj (List.mem_append_left _ z)
    have h2 : j ≠ i := fun z => hj (List.mem_append_right _ (List.mem_singleton.mpr z))
    rw [List.getElem?_set_ne (Ne.symm h2)] at ew ⊢
    exact I.rep j w h1 ew
  · rcases cs hj with h | rfl
    · rw [List.getElem?_set_ne (Ne.symm (ne h))] at ew ⊢
      exact I.own j w h ew
    · have hl : j < ρ.length := by
        have := (List.getElem?_eq_some_iff.mp ew).1
        simpa using this
      rw [List.getElem?_set_self hl] at ew
      cases ew
      refine ⟨d, List.getElem?_set_self (by rw [← I.len]; exact hl), ?_⟩
      rcases q with q | ⟨a, o, h1, _, _, h2, h3⟩
      · exact .inl q
      · exact .inr ⟨a, o, h1, h2, h3⟩
  · rcases cs hj with h | rfl
    · exact I.rt j a h (rO h r)
    · have := rI r
      subst this
      rcases q with ⟨nr, _⟩ | ⟨a', o, h1, h2, _, h3, _⟩
      · exact absurd rfl (nr a)
      · cases h1
        exact ⟨h2, (List.getElem?_eq_some_iff.mp h3).1⟩
  · have out : ∀ {m : Nat}, m ∈ O → root σ m a → d = .ref a → False := fun {m} hm rm ed => by
      rcases q with ⟨nr, _⟩ | ⟨a', o, h1, _, h2, _, _⟩
      · exact nr a ed
      · rw [ed] at h1
        cases h1
        exact h2 m hm rm
    rcases cs hj with h | rfl
    · rcases cs hl with h' | rfl
      · exact I.dis j l a h h' (rO h r) (rO h' r')
      · exact (out h (rO h r) (rI r')).elim
    · rcases cs hl with h' | rfl
      · exact (out h' (rO h' r') (rI r)).elim
      · rfl
/-- slots that are written -/
theorem stx_set {is : List Nat} (hp : ∀ p ∈ P, p ∉ is) (hσ : ∀ j, j ∉ is → σ1[j]? = σ[j]?) (hl : σ1.length = σ.length) (h1 : ∀ j a, j ∈ O1 → root σ1 j a → (j ∈ O ∧ j ∉ is) ∨ s.h.length ≤ a) : StX P O O1 σ N s σ1 N s := ⟨Nat.le_refl _, fun _ _ _ => rfl, fun _ h => h, fun _ h => .inl h, fun p h => hσ p (hp p h), fun i a hi r => by
    rcases h1 i a hi r with ⟨h, h'⟩ | h
    · exact .inl ⟨i, h, by rw [root, ← hσ i h']; exact r, id⟩
    · exact .inr h, hl⟩
end
end Dv
end

section
/-! Va12 -/
set_option maxHeartbeats 4000000
/-! Va12: statements side by side. -/
namespace Dv
open PySem PySem.W

/-- values that are given to names at once -/
def Fre (h : List Ob) (n0 : Nat) (N R : Ad) : List Ow → List Va → List D → List Nat → Prop
  | [], [], [], F => F = []
  | A :: As, v :: vs, d :: ds, F => (Rep h (fun a => N a ∨ R a) v d ∧ (A.fr = true → NonRef d) ∧ Fre h n0 N R As vs ds F) ∨
      (A.fr = true ∧ ∃ a o F', d = .ref a ∧ F = a :: F' ∧ a ∉ F' ∧ n0 ≤ a ∧ ¬ N a ∧ h[a]? = some o ∧ ObRep h (fun a => N a ∨ R a) v o ∧ Fre h n0 N R As vs ds F')
  | _, _, _, _ => False
theorem Fre.len {h : List Ob} {n0 : Nat} {N R : Ad} : ∀ {As : List Ow} {vs : List Va} {ds : List D} {F : List Nat}, Fre h n0 N R As vs ds F → vs.length = As.length ∧ ds.length = As.length ∧ ∀ x ∈ F, n0 ≤ x ∧ ¬ N x
  | [], [], [], F, q => by cases q; exact ⟨rfl, rfl, fun x hx => by simp at hx⟩
  | A :: As, v :: vs, d :: ds, F, q => by
    rcases q with ⟨_, _, q⟩ | ⟨_, a, o, F', _, rfl, _, h1, h2, _, _, q⟩
    · obtain ⟨r1, r2, r3⟩ := q.len
      exact ⟨by simp [r1], by simp [r2], r3⟩
    · obtain ⟨r1, r2, r3⟩ := q.len
      refine ⟨by simp [r1], by simp [r2], fun x hx => ?_⟩
      rcases List.mem_cons.mp hx with rfl | hx
      · exact ⟨h1, h2⟩
      · exact r3 x hx
  | [], [], _ :: _, F, q => q.elim
  | [], _ :: _, _, F, q => q.elim
  | _ :: _, [], _, F, q => q.elim
  | _ :: _, _ :: _, [], F, q => q.elim
theorem Fre.to {h : List Ob} {n0 n1 : Nat} {N R N' R' : Ad} (hn : n1 ≤ n0) (h1 : ∀ a, N a ∨ R a → N' a ∨ R' a) : ∀ {As : List Ow} {vs : List Va} {ds : List D} {F : List Nat}, (∀ x ∈ F, ¬ N' x) → Fre h n0 N R As vs ds F → Fre h n1 N' R' As vs ds F
  | [], [], [], F, hF, q => q
  | A :: As, v :: vs, d :: ds, F, hF, q => by
    rcases q with ⟨q1, q2, q⟩ | ⟨q1, a, o, F', q2, rfl, q3, q4, q5, q6, q7, q⟩
    · exact .inl ⟨q1.mono h1, q2, Fre.to hn h1 hF q⟩
    · exact .inr ⟨q1, a, o, F', q2, rfl, q3, Nat.le_trans hn q4, hF a List.mem_cons_self, q6, q7.move fun a o n e => ⟨h1 a n, e⟩, Fre.to hn h1 (fun x hx => hF x (List.mem_cons_of_mem _ hx)) q⟩
  | [], [], _ :: _, F, hF, q => q.elim
  | [], _ :: _, _, F, hF, q => q.elim
  | _ :: _, [], _, F, hF, q => q.elim
  | _ :: _, _ :: _, [], F, hF, q => q.elim
section
variable {tb : Nat → Option Fi} {f : CallT} {g : VCall} {io : Nat → List Nat} {w : Nat} {P : List Nat} {fr : Bool}
theorem sets_own {N : Ad} {s : S} {n0 : Nat} : ∀ {is : List Nat} {As : List Ow} {vs : List Va} {ds : List D} {F : List Nat} {σ : Sl} {ρ : Ev} {O : List Nat}, Inv N O σ ρ s → is.Nodup → (∀ i ∈ is, i ∉ O) → Fre s.h n0 N (fun _ => False) As vs ds F → is.length = As.length → (∀ x ∈ F, ∀ j ∈ O, ¬ root σ j x) →
    Inv N (O ++ freshes is As) ((is.zip ds).foldl (fun σ p => σ.set p.1 (some p.2)) σ) ((is.zip vs).foldl (fun ρ p => ρ.set p.1 (some p.2)) ρ) s ∧
    ∀ j a, j ∈ O ++ freshes is As → root ((is.zip ds).foldl (fun σ p => σ.set p.1 (some p.2)) σ) j a → (j ∈ O ∧ root σ j a) ∨ a ∈ F
  | [], As, vs, ds, F, σ, ρ, O, I, nd, hi, q, hl, hF => by
    simp only [List.zip_nil_left, List.foldl_nil]
    cases As <;> simp only [freshes, List.append_nil] <;> exact ⟨I, fun j a hj r => .inl ⟨hj, r⟩⟩
  | i :: is, [], vs, ds, F, σ, ρ, O, I, nd, hi, q, hl, hF => by simp at hl
  | i :: is, A :: As, [], ds, F, σ, ρ, O, I, nd, hi, q, hl, hF => q.elim
  | i :: is, A :: As, v :: vs, [], F, σ, ρ, O, I, nd, hi, q, hl, hF => q.elim
  | i :: is, A :: As, v :: vs, d :: ds, F, σ, ρ, O, I, nd, hi, q, hl, hF => by
    obtain ⟨n1, n2⟩ := List.nodup_cons.mp nd
    have hiO := hi i List.mem_cons_self
    have rO : ∀ {j a : Nat}, j ∈ O → root (σ.set i (some d)) j a → root σ j a := fun {j a} h r => by
      unfold root at r ⊢
      rwa [List.getElem?_set_ne fun z => hiO (by rw [z]; exact h)] at r
    have rI : ∀ {a : Nat}, root (σ.set i (some d)) i a → d = .ref a := fun {a} r => by
      unfold root at r
      rw [List.getElem?_set, if_pos rfl] at r
      split at r
      · cases r; rfl
      · cases r
    simp only [List.zip_cons_cons, List.foldl_cons]
    cases hfr : A.fr with
    | false =>
      rcases q with ⟨q1, q2, q⟩ | ⟨q1, _⟩
      · have := sets_own (I.set1 hiO (q1.mono fun a h => h.resolve_right id)) n2 (fun j hj => hi j (List.mem_cons_of_mem _ hj)) q (by simpa using hl) fun x hx j hj r => hF x hx j hj (rO hj r)
        rw [show freshes (i :: is) (A :: As) = freshes is As by simp [freshes, hfr]]
        refine ⟨this.1, fun j a hj r => ?_⟩
        rcases this.2 j a hj r with ⟨h1, h2⟩ | h
        · exact .inl ⟨h1, rO h1 h2⟩
        · exact .inr h
      · rw [hfr] at q1; cases q1
    | true =>
      have e : O ++ freshes (i :: is) (A :: As) = (O ++ [i]) ++ freshes is As := by simp [freshes, hfr]
      have hi' : ∀ j ∈ is, j ∉ O ++ [i] := fun j hj z => (List.mem_append.mp z).elim (hi j (List.mem_cons_of_mem _ hj)) fun z => n1 (List.mem_singleton.mp z ▸ hj)
      rw [e]
      rcases q with ⟨q1, q2, q⟩ | ⟨q1, a, o, F', rfl, rfl, q3, q4, q5, q6, q7, q⟩
      · have I2 := I.own1 hiO (.inl ⟨q2 hfr, q1.mono fun a h => h.resolve_right id⟩)
        have := sets_own I2 n2 hi' q (by simpa using hl) fun x hx j hj r => by
          rcases List.mem_append.mp hj with h | h
          · exact hF x hx j h (rO h r)
          · rw [List.mem_singleton.mp h] at r
            exact q2 hfr x (rI r)
        refine ⟨this.1, fun j b hj r => ?_⟩
        rcases this.2 j b hj r with ⟨h1, h2⟩ | h
        · rcases List.mem_append.mp h1 with h | h
          · exact .inl ⟨h, rO h h2⟩
          · rw [List.mem_singleton.mp h] at h2
            exact absurd (rI h2) (q2 hfr b)
        · exact .inr h
      · have I2 := I.own1 hiO (.inr ⟨a, o, rfl, q5, fun j hj => hF a List.mem_cons_self j hj, q6, q7.move fun a o n e => ⟨n.resolve_right id, e⟩⟩)
        have := sets_own I2 n2 hi' q (by simpa using hl) fun x hx j hj r => by
          rcases List.mem_append.mp hj with h | h
          · exact hF x (List.mem_cons_of_mem _ hx) j h (rO h r)
          · rw [List.mem_singleton.mp h] at r
            cases rI r
            exact q3 hx
        refine ⟨this.1, fun j b hj r => ?_⟩
        rcases this.2 j b hj r with ⟨h1, h2⟩ | h
        · rcases List.mem_append.mp h1 with h | h
          · exact .inl ⟨h, rO h h2⟩
          · rw [List.mem_singleton.mp h] at h2
            cases rI h2
            exact .inr List.mem_cons_self
        · exact .inr (List.mem_cons_of_mem _ h)
theorem fix_ok {step : List Nat → Option (List Nat × List (List Nat))} : ∀ {n : Nat} {O Oh : List Nat}, okFix step n O = some Oh → (∀ i ∈ Oh, i ∈ O) ∧ ∃ O' B, step Oh = some (O', B) ∧ (∀ i ∈ Oh, i ∈ O') ∧ ∀ b ∈ B, ∀ i ∈ Oh, i ∈ b
  | 0, O, Oh, h => by cases h
  | n + 1, O, Oh, h => by
    unfold okFix at h
    split at h
    · rename_i O' B hs
      split at h
      · rename_i hc
        cases h
        simp only [Bool.and_eq_true, lsst_iff, List.all_eq_true] at hc
        exact ⟨fun i hi => hi, O', B, hs, hc.1, hc.2⟩
      · obtain ⟨r1, r2⟩ := fix_ok h
        have fl : ∀ (B : List (List Nat)) (X : List Nat) {i : Nat}, i ∈ B.foldl lint X → i ∈ X := by
          intro B
          induction B with
          | nil => exact fun X i hi => hi
          | cons b B ih => exact fun X i hi => (mem_lint.mp (ih _ hi)).1
        exact ⟨fun i hi => (mem_lint.mp (fl B _ (r1 i hi))).1, r2⟩
    · cases h
/-- a for's turns -/
theorem for_ok {Oh On : List Nat} {Bs : List (List Nat)} {body : Va → Ev → VR VFl} {body' : D → Sl → S → R (Fl × Sl)} {j : It} {items : List D} (h1 : ∀ i ∈ Oh, i ∈ On) (h2 : ∀ b ∈ Bs, ∀ i ∈ Oh, i ∈ b)
    (Bd : ∀ v d N1 s1 σ1 ρ1, Inv N1 Oh σ1 ρ1 s1 → Rep s1.h N1 v d → XOk P Oh fr σ1 N1 s1 On Bs (body v ρ1) (body' d σ1 s1)) :
    ∀ (xs : List Va) (n i : Nat) (N1 : Ad) (s1 : S) (σ1 : Sl) (ρ1 : Ev), Inv N1 Oh σ1 ρ1 s1 → Itw s1.h N1 j items → Reps s1.h N1 xs (items.drop i) → xs.length < n → XOk P Oh fr σ1 N1 s1 Oh [] (forV body xs ρ1) (forL j body' n i σ1 s1)
  | xs, 0, i, N1, s1, σ1, ρ1, I, ht, hx, hn => by omega
  | [], n + 1, i, N1, s1, σ1, ρ1, I, ht, hx, hn => by
    have e : items[i]? = none := by
      have h1 := hx.len
      rw [List.length_drop] at h1
      simp only [List.length_nil] at h1
      exact List.getElem?_eq_none (by omega)
    unfold forV forL
    rw [ht.at, e]
    exact ⟨σ1, s1, N1, rfl, StX.refl fun _ h => h, I⟩
  | x :: xs, n + 1, i, N1, s1, σ1, ρ1, I, ht, hx, hn => by
    obtain ⟨d, ds', ed, hd, hr⟩ := hx
    have e : items[i]? = some d := by
      have : (items.drop i)[0]? = some d := by rw [ed]; rfl
      rwa [List.getElem?_drop, Nat.add_zero] at this
    have e2 : items.drop (i + 1) = ds' := by
      have : (items.drop i).drop 1 = ds' := by rw [ed]; rfl
      rw [← this, List.drop_drop]
    unfold forV forL
    rw [ht.at, e]
    dsimp only
    have hb := Bd x d N1 s1 σ1 ρ1 I hd
    have again : ∀ {σ2 : Sl} {s2 : S} {N2 : Ad} {ρ2 : Ev} {O2 : List Nat}, (∀ i ∈ Oh, i ∈ O2) → StX P Oh O2 σ1 N1 s1 σ2 N2 s2 → Inv N2 O2 σ2 ρ2 s2 → XOk P Oh fr σ1 N1 s1 Oh [] (forV body xs ρ2) (forL j body' n (i + 1) σ2 s2) := fun {σ2 s2 N2 ρ2 O2} hO S2 I2 => by
      have S3 := S2.drop hO
      have kp : ∀ a, N1 a → s2.h[a]? = s1.h[a]? := fun a na => S2.old a (I.lt a na) fun i hi r => (I.rt i a hi r).1 na
      exact (for_ok h1 h2 Bd xs n (i + 1) _ s2 σ2 ρ2 (I2.drop hO) (ht.stay fun a na => ⟨S3.sub a na, kp a na⟩) (by rw [e2]; exact hr.move fun a o na ea => ⟨S3.sub a na, by rw [kp a na]; exact ea⟩) (by simpa using hn)).after S3
    cases hr : body x ρ1 with
    | bad => trivial
    | exc ex ρ2 =>
      rw [hr] at hb
      obtain ⟨e', σ2, s2, N2, q1, q2, q3, q4⟩ := hb
      rw [q1]
      exact ⟨e', σ2, s2, N2, rfl, q2, q3, q4⟩
    | ok fl ρ2 =>
      rw [hr] at hb
      cases fl with
      | nx =>
        obtain ⟨σ2, s2, N2, q1, q2, q3⟩ := hb
        rw [q1]
        exact again h1 q2 q3
      | ct =>
        obtain ⟨σ2, s2, N2, q1, Ob, ho, q2, q3⟩ := hb
        rw [q1]
        exact again (h2 Ob ho) q2 q3
      | bk =>
        obtain ⟨σ2, s2, N2, q1, Ob, ho, q2, q3⟩ := hb
        rw [q1]
        exact ⟨σ2, s2, _, rfl, q2.drop (h2 Ob ho), q3.drop (h2 Ob ho)⟩
      | rt v =>
        obtain ⟨d, σ2, s2, N2, q1, q2, q3, q4⟩ := hb
        rw [q1]
        exact ⟨d, σ2, s2, N2, rfl, q2, q3, q4⟩
/-- a while's turns -/
theorem whl_ok {Oh O1 On : List Nat} {Bs : List (List Nat)} {M : List Nat} {c : Ev → VR Bool} {c' : Sl → S → R Bool} {body : Ev → VR VFl} {body' : Sl → S → R (Fl × Sl)} (h0 : ∀ i ∈ Oh, i ∈ O1) (h1 : ∀ i ∈ Oh, i ∈ On) (h2 : ∀ b ∈ Bs, ∀ i ∈ Oh, i ∈ b)
    (Bc : ∀ N1 s1 σ1 ρ1, Inv N1 Oh σ1 ρ1 s1 → Ok σ1 P Oh O1 M N1 s1 Tst (c ρ1) (c' σ1 s1))
    (Bd : ∀ N1 s1 σ1 ρ1, Inv N1 Oh σ1 ρ1 s1 → XOk P Oh fr σ1 N1 s1 On Bs (body ρ1) (body' σ1 s1)) :
    ∀ (n : Nat) (N1 : Ad) (s1 : S) (σ1 : Sl) (ρ1 : Ev), Inv N1 Oh σ1 ρ1 s1 → XOk P Oh fr σ1 N1 s1 Oh [] (whlV c body n ρ1) (whlL c' body' n σ1 s1)
  | 0, N1, s1, σ1, ρ1, I => by trivial
  | n + 1, N1, s1, σ1, ρ1, I => by
    unfold whlV whlL
    have hc := Bc N1 s1 σ1 ρ1 I
    cases hr : c ρ1 with
    | bad => trivial
    | exc ex ρ2 =>
      rw [hr] at hc
      obtain ⟨e', s2, N2, q1, q2, q3, q4⟩ := hc
      rw [q1]
      exact ⟨e', σ1, s2, N2, rfl, q2.x, q3, q4⟩
    | ok t ρ2 =>
      rw [hr] at hc
      obtain ⟨t', s2, N2, q1, q2, q3, q4⟩ := hc
      cases q4
      rw [q1]
      have S0 := (q2.x (P := P)).drop h0
      have I0 := q3.drop h0
      rw [VR.bind_ok]
      cases t with
      | false => exact ⟨σ1, s2, _, rfl, S0, I0⟩
      | true =>
        dsimp only
        have hb := Bd _ s2 σ1 ρ2 I0
        have again : ∀ {σ3 : Sl} {s3 : S} {N3 : Ad} {ρ3 : Ev} {O3 : List Nat}, (∀ i ∈ Oh, i ∈ O3) → StX P Oh O3 σ1 (rel σ1 O1 Oh N2) s2 σ3 N3 s3 → Inv N3 O3 σ3 ρ3 s3 → XOk P Oh fr σ1 N1 s1 Oh [] (whlV c body n ρ3) (whlL c' body' n σ3 s3) := fun {σ3 s3 N3 ρ3 O3} hO S3 I3 =>
          (whl_ok h0 h1 h2 Bc Bd n _ s3 σ3 ρ3 (I3.drop hO)).after (S0.trans (S3.drop hO))
        cases hr2 : body ρ2 with
        | bad => trivial
        | exc ex ρ3 =>
          rw [hr2] at hb
          obtain ⟨e', σ3, s3, N3, r1, r2, r3, r4⟩ := hb
          rw [r1]
          exact ⟨e', σ3, s3, N3, rfl, S0.trans r2, r3, r4⟩
        | ok fl ρ3 =>
          rw [hr2] at hb
          rw [VR.bind_ok]
          cases fl with
          | nx =>
            obtain ⟨σ3, s3, N3, r1, r2, r3⟩ := hb
            rw [r1]
            exact again h1 r2 r3
          | ct =>
            obtain ⟨σ3, s3, N3, r1, Ob, ho, r2, r3⟩ := hb
            rw [r1]
            exact again (h2 Ob ho) r2 r3
          | bk =>
            obtain ⟨σ3, s3, N3, r1, Ob, ho, r2, r3⟩ := hb
            rw [r1]
            exact ⟨σ3, s3, _, rfl, S0.trans (r2.drop (h2 Ob ho)), r3.drop (h2 Ob ho)⟩
          | rt v =>
            obtain ⟨d, σ3, s3, N3, r1, r2, r3, r4⟩ := hb
            rw [r1]
            exact ⟨d, σ3, s3, N3, rfl, S0.trans r2, r3, r4.back S0⟩
end
end Dv
end

section
/-! Va13 -/
set_option maxHeartbeats 4000000
/-! Va13: statements and functions of plain values are sound. -/
namespace Dv
open PySem PySem.W

section
variable {tb : Nat → Option Fi} {f : CallT} {g : VCall} {io : Nat → List Nat} {w : Nat} {P : List Nat} {fr : Bool}
variable (C0 : COk tb f g) (hio : ∀ k fi, tb k = some fi → io k = fi.io)
/-- an expression first; the outcome is told from the start -/
theorem Ok.thenX0 {α β : Type} {σ : Sl} {O O1 M : List Nat} {N : Ad} {s : S} {Rl : Ad → S → α → β → Prop} {r : VR α} {r' : R β} {On : List Nat} {B : List (List Nat)} {k : α → Ev → VR VFl} {k' : β → S → R (Fl × Sl)} (h : Ok σ P O O1 M N s Rl r r')
    (hk : ∀ v d ρ1 s1 N1, St σ O O1 M N s N1 s1 → Inv N1 O1 σ ρ1 s1 → Rl N1 s1 v d → XOk P O fr σ N s On B (k v ρ1) (k' d s1)) : XOk P O fr σ N s On B (r.bind k) (r'.bind k') := by
  cases r with
  | bad => trivial
  | exc e ρ1 =>
    obtain ⟨e', s1, N1, rfl, q1, q2, q3⟩ := h
    exact ⟨e', σ, s1, N1, rfl, q1.x, q2, q3⟩
  | ok v ρ1 =>
    obtain ⟨d, s1, N1, rfl, q1, q2, q3⟩ := h
    exact hk v d ρ1 s1 N1 q1 q2 q3
theorem StX.sets {O O' is : List Nat} {σ σ1 σt : Sl} {N N1 : Ad} {s s1 : S} (a : StX P O O' σ N s σ1 N1 s1) (hp : ∀ p ∈ P, p ∉ is) (hσ : ∀ i, i ∉ is → σt[i]? = σ1[i]?) (hl : σt.length = σ1.length) (hi : ∀ i ∈ is, i ∉ O') : StX P O O' σ N s σt N1 s1 :=
  ⟨a.len, a.old, a.sub, a.only, fun p h => (hσ p (hp p h)).trans (a.pr p h), fun i x h r => a.rts i x h (by rw [root, ← hσ i fun z => hi i z h]; exact r), hl.trans a.ln⟩
/-- a new object's value stands while more is evaluated -/
theorem Val.keep {σ : Sl} {ρ ρ1 : Ev} {O O1 O2 M M2 L : List Nat} {N N1 N2 : Ad} {s s1 s2 : S} {fr : Bool} {v : Va} {d : D} (I : Inv N O σ ρ s) (S1 : St σ O O1 M N s N1 s1) (I1 : Inv N1 O1 σ ρ1 s1) (hL : ∀ i ∈ L, i ∈ O1) (hd : ∀ i ∈ L, i ∉ M2) (b : St σ O1 O2 M2 N1 s1 N2 s2)
    (q : Val s1.h s.h.length N1 (Rts σ L) fr v d) : (Rep s2.h (fun a => N2 a ∨ Rts σ L a) v d ∧ (fr = true → NonRef d)) ∨ (fr = true ∧ ∃ a o, d = .ref a ∧ s.h.length ≤ a ∧ a < s1.h.length ∧ ¬ N2 a ∧ s2.h[a]? = some o ∧ ObRep s2.h (fun a => N2 a ∨ Rts σ L a) v o) := by
  rcases q with ⟨q, n⟩ | ⟨hf, a, o, rfl, hn, na, ea, q⟩
  · exact .inl ⟨q.keep I1 hL hd b, n⟩
  · have la := (List.getElem?_eq_some_iff.mp ea).1
    have nr : ∀ i ∈ O1, ¬ root σ i a := fun i hi r => Nat.lt_irrefl _ (Nat.lt_of_lt_of_le (I.rt i a (S1.dn i hi) r).2 hn)
    refine .inr ⟨hf, a, o, rfl, hn, la, fun h => ?_, by rw [b.old a la fun i _ hi => nr i hi]; exact ea, q.move fun x o n e => ⟨NR.sub b n, by rw [stay_at I1 hL hd b n]; exact e⟩⟩
    rcases b.only a h with h | h | ⟨i, hi, r⟩
    · exact na h
    · omega
    · exact nr i hi r
include C0 hio
theorem okPs_ok : ∀ (es : List C) {σ : Sl} {O : List Nat} {As : List Ow}, okPs tb P O es = some As → (∀ i ∈ P, i ∈ O) → (∀ i ∈ P, i ∈ lastO O As) ∧ (∀ i ∈ allL As, i ∈ lastO O As) ∧ (∀ i ∈ lastO O As, i ∈ O) ∧ As.length = es.length ∧ ∀ {N : Ad} {ρ : Ev} {s : S}, Inv N O σ ρ s →
    Ok σ P O (lastO O As) (allM As) N s (fun N1 s1 vs ds => ∃ F, Fre s1.h s.h.length N1 (Rts σ (allL As)) As vs ds F) (vEs g io w es ρ) (evEs f w es σ s)
  | [], σ, O, As, h, hP => by
    unfold okPs at h
    cases h
    refine ⟨hP, fun i hi => by simp [allL] at hi, fun i hi => hi, rfl, fun {N ρ s} I => ?_⟩
    simp only [vEs, evEs]
    exact ok_now I ⟨[], rfl⟩
  | e :: r, σ, O, As, h, hP => by
    unfold okPs at h
    split at h
    · rename_i A hA
      split at h
      · rename_i Bs hB
        split at h
        · rename_i hc
          cases h
          rw [Bool.and_eq_true, ldis_iff, lsst_iff] at hc
          obtain ⟨a1, a2, a3⟩ := okE_st hA
          obtain ⟨b1, b2, b3, b4, b5⟩ := okPs_ok r (σ := σ) hB a1
          rw [lastO_cons, allL_cons, allM_cons]
          refine ⟨b1, fun i hi => (List.mem_append.mp hi).elim (hc.2 i) (b2 i), fun i hi => a3 i (b3 i hi), by simp [b4], fun {N ρ s} I => ?_⟩
          simp only [vEs, evEs]
          refine Ok.bind (okE_ok C0 hio e hA hP I) fun x dx ρ1 s1 N1 S1 I1 qx => ?_
          refine Ok.map (b5 I1) fun vs ds ρ2 s2 N2 S2 I2 q => ?_
          obtain ⟨F, q⟩ := q
          refine ⟨rfl, _, s2, N2, rfl, S2, I2, ?_⟩
          have q' : Fre s2.h s.h.length N2 (Rts σ (A.L ++ allL Bs)) Bs vs ds F := q.to S1.len (fun a n => NR.more (fun i hi => List.mem_append_right _ hi) n) fun x hx => (q.len.2.2 x hx).2
          have mL : ∀ {a : Nat}, N2 a ∨ Rts σ A.L a → N2 a ∨ Rts σ (A.L ++ allL Bs) a := fun {a} n => NR.more (fun i hi => List.mem_append_left _ hi) n
          rcases Val.keep I S1 I1 a2 hc.1 S2 qx.1 with ⟨q1, q2⟩ | ⟨hf, a, o, rfl, hn, la, na, ea, q1⟩
          · exact ⟨F, .inl ⟨q1.mono fun a n => mL n, q2, q'⟩⟩
          · exact ⟨a :: F, .inr ⟨hf, a, o, F, rfl, rfl, fun hx => by have := (q.len.2.2 a hx).1; omega, hn, na, ea, q1.move fun a o n e => ⟨mL n, e⟩, q'⟩⟩
        · cases h
      · cases h
    · cases h
omit C0 hio in
theorem asg_own {σ : Sl} {ρ ρ1 : Ev} {O O1 O' M : List Nat} {N N1 : Ad} {s s1 : S} {L : List Nat} {i : Nat} {frv : Bool} {v : Va} {d : D} (I : Inv N O σ ρ s) (S1 : St σ O O1 M N s N1 s1) (I1 : Inv N1 O1 σ ρ1 s1) (hO : ∀ j ∈ O', j ∈ O1) (hL : ∀ j ∈ L, j ∈ O1 ∧ j ∉ O') (hi : i ∉ O') (hp : i ∉ P)
    (q : Val s1.h s.h.length N1 (Rts σ L) frv v d) :
    ∃ σ2 N2, (Tg.nm i).set d σ = some σ2 ∧ StX P O (O' ++ if frv then [i] else []) σ N s σ2 N2 s1 ∧ Inv N2 (O' ++ if frv then [i] else []) σ2 (ρ1.set i (some v)) s1 := by
  have I2 := I1.drop hO
  have S2 : StX P O O' σ N s σ (rel σ O1 O' N1) s1 := S1.x.drop hO
  have up : ∀ a, N1 a ∨ Rts σ L a → rel σ O1 O' N1 a := fun a n => n.elim .inl fun ⟨j, hj, r⟩ => .inr ⟨j, (hL j hj).1, (hL j hj).2, r⟩
  have ne : ∀ {j : Nat}, j ∈ O' → j ≠ i := fun {j} h z => hi (z ▸ h)
  have st : ∀ {O2 : List Nat}, (∀ j a, j ∈ O2 → root (σ.set i (some d)) j a → (j ∈ O' ∧ j ∉ [i]) ∨ s1.h.length ≤ a ∨ s.h.length ≤ a) → StX P O O2 σ N s (σ.set i (some d)) (rel σ O1 O' N1) s1 := fun {O2} h => ⟨S2.len, S2.old, S2.sub, S2.only, fun p h => List.getElem?_set_ne fun z => hp (by rw [z]; exact h), fun j a hj r => by
    rcases h j a hj r with ⟨h1, h2⟩ | h | h
    · exact S2.rts j a h1 (by rw [root, List.getElem?_set_ne (Ne.symm (ne h1))] at r; exact r)
    · exact .inr (Nat.le_trans S1.len h)
    · exact .inr h, by simp⟩
  have rI : ∀ {a : Nat}, root (σ.set i (some d)) i a → d = .ref a := fun {a} r => by
    unfold root at r
    rw [List.getElem?_set, if_pos rfl] at r
    split at r
    · cases r; rfl
    · cases r
  have hn1 : ∀ {j : Nat}, j ∈ O' → j ∉ [i] := fun {j} h z => ne h (List.mem_singleton.mp z)
  refine ⟨_, rel σ O1 O' N1, rfl, ?_⟩
  cases frv with
  | false =>
    rcases q with ⟨q, _⟩ | ⟨hf, _⟩
    · simp only [Bool.false_eq_true, if_false, List.append_nil]
      exact ⟨st fun j a hj r => .inl ⟨hj, hn1 hj⟩, I2.set1 hi (q.mono up)⟩
    · cases hf
  | true =>
    simp only [if_true]
    rcases q with ⟨q, nr⟩ | ⟨_, a, o, rfl, hn, na, ea, q⟩
    · refine ⟨st fun j b hj r => ?_, I2.own1 hi (.inl ⟨nr rfl, q.mono up⟩)⟩
      rcases List.mem_append.mp hj with h | h
      · exact .inl ⟨h, hn1 h⟩
      · rw [List.mem_singleton.mp h] at r
        exact absurd (rI r) (nr rfl b)
    · have nr : ∀ j ∈ O1, ¬ root σ j a := fun j hj r => Nat.lt_irrefl _ (Nat.lt_of_lt_of_le (I.rt j a (S1.dn j hj) r).2 hn)
      refine ⟨st fun j b hj r => ?_, I2.own1 hi (.inr ⟨a, o, rfl, fun h => ?_, fun j hj => nr j (hO j hj), ea, q.move fun x o n e => ⟨up x n, e⟩⟩)⟩
      · rcases List.mem_append.mp hj with h | h
        · exact .inl ⟨h, hn1 h⟩
        · rw [List.mem_singleton.mp h] at r
          cases rI r
          exact .inr (.inr hn)
      · rcases h with h | ⟨j, hj, _, r⟩
        · exact na h
        · exact nr j hj r
/-- what a for walks -/
theorem okI_ok {it : C} {σ : Sl} {O : List Nat} {W : Iw} (hW : okI tb P O it = some W) (hP : ∀ i ∈ P, i ∈ O) {N : Ad} {ρ : Ev} {s : S} (I : Inv N O σ ρ s) : Ok σ P O W.O W.M N s (IW σ W) ((vE g io w it ρ).bind fun x ρ => VR.of (vitOf x) ρ) (evI f w it σ s) := by
  unfold okI at hW
  split at hW
  · exact okR_ok C0 hio it hW hP I
  · rename_i hw
    rw [vevI_no (by simpa using hw)]
    cases ha : okE tb P O it with
    | none => rw [ha] at hW; cases hW
    | some A =>
      rw [ha] at hW
      cases hW
      refine Ok.map ((okE_ok C0 hio it ha hP I).rv I) fun x dx ρ1 s1 N1 S1 I1 qx => ?_
      cases hv : vitOf x with
      | none => trivial
      | some vs =>
        obtain ⟨j, ej, qj⟩ := vitOf_ok (M := A.M) (O := A.O) qx hv
        exact ⟨rfl, j, s1, N1, by simp only [ej, R.of_some], S1, I1, qj⟩
mutual
theorem okX_ok : ∀ (t : T) {O On : List Nat} {B : List (List Nat)}, okX tb P fr O t = some (On, B) → (∀ i ∈ P, i ∈ O) → ∀ {N : Ad} {σ : Sl} {ρ : Ev} {s : S}, Inv N O σ ρ s → XOk P O fr σ N s On B (vX g io w t ρ) (exT f w t σ s)
  | .asg t e, O, On, B, h, hP, N, σ, ρ, s, I => by
    rw [okX.eq_def] at h
    dsimp only at h
    split at h
    · rename_i is es
      split at h
      · rename_i As hA
        split at h
        · rename_i hc
          cases h
          obtain ⟨hl, nd, hpL, hpi⟩ := hc
          rw [ldis_iff] at hpL hpi
          obtain ⟨t1, t2, t3, t4, t5⟩ := okPs_ok C0 hio es (σ := σ) hA hP
          simp only [vX, exT, vE, evE]
          rw [VR.bind_assoc, R.bind_assoc2]
          refine Ok.thenX0 (t5 I) fun vs ds ρ1 s1 N1 S1 I1 q => ?_
          simp only [VR.bind_ok, R.bind_ok]
          obtain ⟨F, q⟩ := q
          obtain ⟨l1, l2, l3⟩ := q.len
          have lv : vs.length = is.length := by rw [l1, t4, hl]
          have ld : ds.length = is.length := by rw [l2, t4, hl]
          simp only [Tg.setV, Tg.set]
          rw [if_pos lv, if_pos ld]
          have dn : ∀ i ∈ lsub (lsub (lastO O As) (allL As)) is, i ∈ lastO O As := fun i hi => (mem_lsub.mp (mem_lsub.mp hi).1).1
          have nF : ∀ x ∈ F, ∀ j ∈ lastO O As, ¬ root σ j x := fun x hx j hj r => Nat.lt_irrefl _ (Nat.lt_of_lt_of_le (I.rt j x (t3 j hj) r).2 (l3 x hx).1)
          have I2 := I1.drop dn
          have S2 : StX P O (lsub (lsub (lastO O As) (allL As)) is) σ N s σ (rel σ (lastO O As) (lsub (lsub (lastO O As) (allL As)) is) N1) s1 := S1.x.drop dn
          have q2 : Fre s1.h s.h.length (rel σ (lastO O As) (lsub (lsub (lastO O As) (allL As)) is) N1) (fun _ => False) As vs ds F := q.to (Nat.le_refl _) (fun a n => .inl (by
            rcases n with n | ⟨j, hj, r⟩
            · exact .inl n
            · exact .inr ⟨j, t2 j hj, fun z => (mem_lsub.mp (mem_lsub.mp z).1).2 hj, r⟩)) fun x hx z => by
            rcases z with z | ⟨j, hj, _, r⟩
            · exact (l3 x hx).2 z
            · exact nF x hx j hj r
          obtain ⟨I3, R3⟩ := sets_own I2 nd (fun i hi z => (mem_lsub.mp z).2 hi) q2 (by rw [← lv, l1]) fun x hx j hj => nF x hx j (dn j hj)
          refine ⟨_, s1, _, rfl, ?_, I3⟩
          refine ⟨S2.len, S2.old, S2.sub, S2.only, fun p hp => foldl_set_get _ _ _ fun z => ?_, fun j a hj r => ?_, foldl_set_len _ _⟩
          · obtain ⟨y, hy, rfl⟩ := List.mem_map.mp z
            exact hpi _ hp (List.of_mem_zip hy).1
          · rcases R3 j a hj r with ⟨h1, h2⟩ | h
            · exact S2.rts j a h1 h2
            · exact .inr (l3 a h).1
        · cases h
      · cases h
    · rename_i i
      split at h
      · rename_i A hA
        split at h
        · rename_i hc
          cases h
          simp only [Bool.and_eq_true, ldis_iff, Bool.not_eq_true', List.contains_eq_mem, decide_eq_false_iff_not] at hc
          obtain ⟨a1, a2, a3⟩ := okE_st hA
          simp only [vX, exT]
          refine Ok.thenX0 (okE_ok C0 hio e hA hP I) fun v d ρ1 s1 N1 S1 I1 q => ?_
          obtain ⟨σ2, N2, e2, S2, I2⟩ := asg_own (O' := lsub (lsub A.O A.L) [i]) (L := A.L) (i := i) I S1 I1 (fun j hj => (mem_lsub.mp (mem_lsub.mp hj).1).1) (fun j hj => ⟨a2 j hj, fun z => (mem_lsub.mp (mem_lsub.mp z).1).2 hj⟩) (fun z => (mem_lsub.mp z).2 (List.mem_singleton.mpr rfl)) hc.2 q.1
          simp only [e2]
          exact ⟨σ2, s1, N2, rfl, S2, I2⟩
        · cases h
      · cases h
    · rename_i is _
      split at h
      · rename_i A hA
        split at h
        · rename_i hc
          cases h
          simp only [Bool.and_eq_true, ldis_iff] at hc
          obtain ⟨a1, a2, a3⟩ := okE_st hA
          simp only [vX, exT]
          refine Ok.thenX ((okE_ok C0 hio e hA hP I).rv I) fun v d ρ1 s1 N1 S1 I1 q => ?_
          cases hset : (Tg.tp is).setV v ρ1 with
          | none => trivial
          | some ρt =>
            have dn : ∀ i ∈ lsub (lsub A.O A.L) is, i ∈ A.O := fun i hi => (mem_lsub.mp (mem_lsub.mp hi).1).1
            have hni : ∀ i ∈ is, i ∉ lsub (lsub A.O A.L) is := fun i hi z => (mem_lsub.mp z).2 hi
            have qd : Rep s1.h (rel σ A.O (lsub (lsub A.O A.L) is) N1) v d := q.1.mono fun a n => by
              rcases n with n | ⟨j, hj, r⟩
              · exact .inl n
              · exact .inr ⟨j, a2 j hj, fun z => (mem_lsub.mp (mem_lsub.mp z).1).2 hj, r⟩
            obtain ⟨σt, es, It, hσ⟩ := tgt_ok hset qd (I1.drop dn) hni
            simp only [es]
            have S2 : StX P A.O (lsub (lsub A.O A.L) is) σ N1 s1 σ (rel σ A.O (lsub (lsub A.O A.L) is) N1) s1 := (StX.refl (O1 := A.O) fun _ h => h).drop dn
            exact ⟨σt, s1, _, rfl, S2.sets (is := is) hc.2 hσ (set_len es) hni, It⟩
        · cases h
      · cases h
  | .sub o i e, O, On, B, h, hP, N, σ, ρ, s, I => by
    rw [okX.eq_def] at h
    dsimp only at h
    split at h
    · rename_i j
      split at h
      · rename_i E hE
        split at h
        · rename_i K hK
          split at h
          · rename_i hc
            cases h
            simp only [Bool.and_eq_true, ldis_iff, Bool.not_eq_true', List.contains_eq_mem, decide_eq_false_iff_not, decide_eq_true_eq] at hc
            obtain ⟨⟨⟨hq, hj⟩, hjL⟩, hpL⟩ := hc
            obtain ⟨q1, q2⟩ := okSeq_ok hq
            obtain ⟨e1, e2, e3⟩ := okE_st hE
            obtain ⟨k1, k2, k3⟩ := okE_st hK
            simp only [vX, exT]
            refine Ok.thenX ((okE_ok C0 hio e hE hP I).rv I) fun x dx ρ1 s1 N1 S1 I1 qx => ?_
            split
            · rename_i o0 ho0
              obtain ⟨d0, ed0, _⟩ := I1.own j o0 (k3 j hj) ho0
              simp only [evE, ed0, R.bind_ok]
              refine Ok.thenX ((okE_ok C0 hio i hK e1 I1).rv I1) fun y dy ρ2 s2 N2 S2 I2 qy => ?_
              have qx := qx.keep I1 e2 q1 S2
              split
              · rename_i o1 ho1
                split
                · rename_i o2 ho2
                  have dn : ∀ i ∈ lsub K.O E.L, i ∈ K.O := fun i hi => (mem_lsub.mp hi).1
                  have qd : Rep s2.h (rel σ K.O (lsub K.O E.L) N2) x dx := qx.1.mono fun a n => by
                    rcases n with n | ⟨l, hl, r⟩
                    · exact .inl n
                    · exact .inr ⟨l, q2 l hl, fun z => (mem_lsub.mp z).2 hl, r⟩
                  obtain ⟨d1, s3, g1, g2, g3, g4⟩ := vset_ok (I2.drop dn) (mem_lsub.mpr ⟨hj, hjL⟩) ho1 qy.1 qd ho2
                  rw [ed0] at g1
                  cases g1
                  rw [g2]
                  have S3 : StX P K.O (lsub K.O E.L) σ N2 s2 σ (rel σ K.O (lsub K.O E.L) N2) s2 := (StX.refl (O1 := K.O) fun _ h => h).drop dn
                  exact ⟨σ, s3, _, rfl, S3.trans g4.x, g3⟩
                · trivial
              · trivial
            · trivial
          · cases h
        · cases h
      · cases h
    · cases h
  | .ex e, O, On, B, h, hP, N, σ, ρ, s, I => by
    rw [okX] at h
    split at h
    · rename_i A hA
      cases h
      simp only [vX, exT]
      exact Ok.thenX (okE_ok C0 hio e hA hP I) fun v d ρ1 s1 N1 S1 I1 q => ⟨σ, s1, N1, rfl, StX.refl fun _ h => h, I1⟩
    · cases h
  | .ret e, O, On, B, h, hP, N, σ, ρ, s, I => by
    rw [okX.eq_def] at h
    dsimp only at h
    split at h
    · rename_i i
      split at h
      · rename_i hc
        cases h
        simp only [Bool.and_eq_true, Bool.not_eq_true', List.contains_eq_mem, decide_eq_false_iff_not, Bool.or_eq_true, decide_eq_true_eq] at hc
        obtain ⟨hip, hfr⟩ := hc
        simp only [vX, exT, vE, evE]
        cases hr : ρ[i]? with
        | none => trivial
        | some x =>
          cases x with
          | none => trivial
          | some v =>
            simp only [VR.bind_ok]
            have gen : ∀ {d : D}, σ[i]? = some (some d) → Own1 s.h N v d → (fr = true → NonRef d) → XOk P O fr σ N s O [] (.ok (.rt v) ρ) (.ok (.rt d, σ) s) := fun {d} e1 q nr => by
              refine ⟨d, σ, s, _, rfl, (StX.refl (O1 := O) fun _ h => h).drop hP, ⟨ρ, fun _ _ => rfl, I.drop hP⟩, .inl ⟨?_, nr⟩⟩
              by_cases hi : i ∈ O
              · exact q.rep (fun a h => .inl h) fun a ed => .inr ⟨i, hi, hip, by rw [root, e1, ed]⟩
              · obtain ⟨d', e2, q'⟩ := I.rep i v hi hr
                rw [e1] at e2
                cases e2
                exact q'.mono fun a h => .inl h
            by_cases hi : i ∈ O
            · obtain ⟨d, e1, q⟩ := I.own i v hi hr
              simp only [e1, R.bind_ok]
              rcases q with ⟨nr, q⟩ | ⟨a, o, rfl, ea, q⟩
              · exact gen e1 (.inl ⟨nr, q⟩) fun _ => nr
              · cases hf : fr with
                | false => exact hf ▸ gen e1 (.inr ⟨a, o, rfl, ea, q⟩) fun z => by rw [hf] at z; cases z
                | true =>
                  have ra : root σ i a := e1
                  have rp : ∀ j x, j ∈ P → root σ j x → ¬ (rel σ O (i :: P) N x) := fun j x hj r z => by
                    rcases z with z | ⟨l, hl, hn, r'⟩
                    · exact (I.rt j x (hP j hj) r).1 z
                    · have := I.dis j l x (hP j hj) hl r r'
                      subst this
                      exact hn (List.mem_cons_of_mem _ hj)
                  have hO : ∀ j ∈ i :: P, j ∈ O := fun j hj => (List.mem_cons.mp hj).elim (fun z => by rw [z]; exact hi) (hP j)
                  have I1 := I.drop hO
                  have S1 : StX P O (i :: P) σ N s σ (rel σ O (i :: P) N) s := (StX.refl (O1 := O) fun _ h => h).drop hO
                  refine ⟨.ref a, σ, s, rel σ O (i :: P) N, rfl, ⟨S1.len, S1.old, S1.sub, S1.only, S1.pr, fun j x hj r => S1.rts j x (List.mem_cons_of_mem _ hj) r, rfl⟩, ⟨ρ.set i none, fun p hp => List.getElem?_set_ne fun z => hip (by rw [z]; exact hp), ⟨I1.wf, I1.lt, fun j w hj ew => ?_, fun j w hj ew => I1.own j w (List.mem_cons_of_mem _ hj) (by rwa [List.getElem?_set_ne fun z => hip (by rw [z]; exact hj)] at ew), fun j x hj r => I1.rt j x (List.mem_cons_of_mem _ hj) r, fun j l x hj hl => I1.dis j l x (List.mem_cons_of_mem _ hj) (List.mem_cons_of_mem _ hl), by simpa using I1.len⟩⟩, .inr ⟨rfl, a, o, rfl, ?_, ea, q.move fun x o n e => ⟨.inl n, e⟩, .inr ⟨i, hi, hip, e1⟩⟩⟩
                  · by_cases hji : j = i
                    · subst hji
                      rw [List.getElem?_set] at ew
                      simp only [if_true] at ew
                      split at ew <;> cases ew
                    · rw [List.getElem?_set_ne fun z => hji z.symm] at ew
                      exact I1.rep j w (fun z => (List.mem_cons.mp z).elim hji hj) ew
                  · exact (I1.rt i a List.mem_cons_self ra).1
            · have hff : fr = false := by cases hf : fr <;> simp_all
              obtain ⟨d, e1, q⟩ := I.rep i v hi hr
              simp only [e1, R.bind_ok]
              exact ⟨d, σ, s, _, rfl, (StX.refl (O1 := O) fun _ h => h).drop hP, ⟨ρ, fun _ _ => rfl, I.drop hP⟩, .inl ⟨q.mono fun a h => .inl h, fun z => by rw [hff] at z; cases z⟩⟩
      · cases h
    · rename_i e' _
      split at h
      · rename_i A hA
        split at h
        · rename_i hc
          cases h
          simp only [Bool.and_eq_true, ldis_iff, Bool.or_eq_true, Bool.not_eq_true'] at hc
          obtain ⟨a1, a2, a3⟩ := okE_st hA
          simp only [vX, exT]
          refine Ok.thenX0 (okE_ok C0 hio e hA hP I) fun v d ρ1 s1 N1 S1 I1 q => ?_
          have up : ∀ a, N1 a ∨ Rts σ A.L a → rel σ A.O P N1 a := fun a n => n.elim .inl fun ⟨j, hj, r⟩ => .inr ⟨j, a2 j hj, fun z => hc.1 j z hj, r⟩
          rcases q.1 with ⟨q, nr⟩ | ⟨hf, a, o, rfl, hn, na, ea, q⟩
          · exact ⟨d, σ, s1, _, rfl, S1.x.drop a1, ⟨ρ1, fun _ _ => rfl, I1.drop a1⟩, .inl ⟨q.mono up, fun z => hc.2.elim (fun y => by rw [z] at y; cases y) nr⟩⟩
          · have nA : ¬ rel σ A.O P N1 a := fun z => by
              rcases z with z | ⟨j, hj, _, r⟩
              · exact na z
              · exact Nat.lt_irrefl _ (Nat.lt_of_lt_of_le (I.rt j a (a3 j hj) r).2 hn)
            cases hfr : fr with
            | true => exact ⟨.ref a, σ, s1, _, rfl, S1.x.drop a1, ⟨ρ1, fun _ _ => rfl, I1.drop a1⟩, .inr ⟨rfl, a, o, rfl, nA, ea, q.move fun x o n e => ⟨up x n, e⟩, .inl hn⟩⟩
            | false =>
              have I2 := I1.drop a1
              have S2 : StX P O P σ N s σ (rel σ A.O P N1) s1 := S1.x.drop a1
              refine ⟨.ref a, σ, s1, fun x => rel σ A.O P N1 x ∨ x = a, rfl, ⟨S2.len, S2.old, fun x h => .inl (S2.sub x h), fun x h => ?_, S2.pr, S2.rts, rfl⟩, ⟨ρ1, fun _ _ => rfl, I2.grow (fun x h => .inl h) (fun x h => ?_) fun i x hi r h => ?_⟩, .inl ⟨?_, fun z => by cases z⟩⟩
              · rcases h with h | rfl
                · exact S2.only x h
                · exact .inr (.inl hn)
              · rcases h with h | rfl
                · exact I2.lt x h
                · exact (List.getElem?_eq_some_iff.mp ea).1
              · rcases h with h | rfl
                · exact (I2.rt i x hi r).1 h
                · exact Nat.lt_irrefl _ (Nat.lt_of_lt_of_le (I.rt i x (hP i hi) r).2 hn)
              · have up2 : ∀ x, N1 x ∨ Rts σ A.L x → rel σ A.O P N1 x ∨ x = a := fun x n => .inl (up x n)
                cases v with
                | list vs => obtain ⟨ds, rfl, q⟩ := q; exact ⟨a, ds, rfl, .inr rfl, ea, q.mono up2⟩
                | dict vs => obtain ⟨ds, rfl, q⟩ := q; exact ⟨a, ds, rfl, .inr rfl, ea, q.mono up2⟩
                | _ => exact q.elim
        · cases h
      · cases h
  | .ifs c a b, O, On, B, h, hP, N, σ, ρ, s, I => by
    rw [okX] at h
    split at h
    · rename_i Z hZ
      split at h
      · rename_i A x B' y hA hB
        cases h
        obtain ⟨z1, z2, z3⟩ := okE_st hZ
        simp only [vX, exT]
        refine Ok.thenX ((okE_ok C0 hio c hZ hP I).rv I) fun v d ρ1 s1 N1 S1 I1 q => ?_
        refine Ok.thenX (M := []) (test_ok I1 q.1) fun t t' ρ2 s2 N2 S2 I2 qt => ?_
        cases qt
        cases t with
        | true => exact (okXs_ok a hA z1 I2).more (fun i hi => (mem_lint.mp hi).1) fun b hb => List.mem_append_left _ hb
        | false => exact (okXs_ok b hB z1 I2).more (fun i hi => (mem_lint.mp hi).2) fun b hb => List.mem_append_right _ hb
      · cases h
    · cases h
  | .for_ t it b, O, On, B, h, hP, N, σ, ρ, s, I => by
    rw [okX] at h
    split at h
    · rename_i W hW
      split at h
      · rename_i hpl
        split at h
        · rename_i Oh hfix
          split at h
          · rename_i hpo
            cases h
            rw [ldis_iff] at hpl
            rw [lsst_iff] at hpo
            obtain ⟨f1, O', Bs, f2, f3, f4⟩ := fix_ok hfix
            obtain ⟨w1, w2, w3, w4⟩ := okW_st hW hP
            have dn : ∀ i ∈ On, i ∈ W.O := fun i hi => (mem_lsub.mp (f1 i hi)).1
            have nLe : ∀ i ∈ W.Le, i ∉ On := fun i hi z => (mem_lsub.mp (f1 i z)).2 (List.mem_append_left _ hi)
            have nLs : ∀ i ∈ W.Ls, i ∉ On := fun i hi z => (mem_lsub.mp (f1 i z)).2 (List.mem_append_right _ (List.mem_append_left _ hi))
            have nix : ∀ i ∈ t.ixs', i ∉ On := fun i hi z => (mem_lsub.mp (f1 i z)).2 (List.mem_append_right _ (List.mem_append_right _ hi))
            have pix : ∀ i ∈ P, i ∉ t.ixs' := fun i hi z => hpl i hi (List.mem_append_right _ (List.mem_append_right _ z))
            simp only [vX, exT]
            rw [← VR.bind_assoc]
            refine Ok.thenX (okI_ok C0 hio hW hP I) fun vs j ρ1 s1 N1 S1 I1 q => ?_
            by_cases hw : vs.length < w
            · rw [if_pos hw]
              obtain ⟨ds, J, ht, hr⟩ := walk_ok I1 dn (fun i hi => ⟨w3 i hi, nLe i hi⟩) w2 q
              have ht' : Itw s1.h (rel σ W.O On N1) j ds := ht.stay fun a n => ⟨n.elim id fun ⟨i, hi, _⟩ => absurd (mem_lint.mp hi).2 (nLs i (mem_lint.mp hi).1), rfl⟩
              have S0 : StX P W.O On σ N1 s1 σ (rel σ W.O On N1) s1 := (StX.refl (O1 := W.O) fun _ h => h).drop dn
              refine XOk.after S0 ?_
              refine for_ok (On := O') (Bs := Bs) f3 f4 (fun v d N2 s2 σ2 ρ2 I2 qv => ?_) vs w 0 _ s1 σ ρ1 J ht' hr hw
              cases hset : t.setV v ρ2 with
              | none => trivial
              | some ρt =>
                obtain ⟨σt, es, It, hσ⟩ := tgt_ok hset qv I2 nix
                simp only [es]
                exact (okXs_ok b f2 hpo It).after ((StX.refl (O1 := On) fun _ h => h).sets (is := t.ixs') pix hσ (set_len es) nix)
            · rw [if_neg hw]
              trivial
          · cases h
        · cases h
      · cases h
    · cases h
  | .whl c b, O, On, B, h, hP, N, σ, ρ, s, I => by
    rw [okX] at h
    split at h
    · rename_i Oh hfix
      split at h
      · rename_i hpo
        cases h
        rw [lsst_iff] at hpo
        obtain ⟨f1, O', Bs, f2, f3, f4⟩ := fix_ok hfix
        split at f2
        · rename_i Z hZ
          split at f2
          · rename_i hz
            rw [lsst_iff] at hz
            simp only [vX, exT]
            have S0 : StX P O On σ N s σ (rel σ O On N) s := (StX.refl (O1 := O) fun _ h => h).drop f1
            refine XOk.after S0 ?_
            refine whl_ok (O1 := Z.O) (On := O') (Bs := Bs) (M := Z.M ++ []) hz f3 f4 (fun N1 s1 σ1 ρ1 I1 => ?_) (fun N1 s1 σ1 ρ1 I1 => okXs_ok b f2 hpo I1) w _ s σ ρ (I.drop f1)
            exact Ok.bind ((okE_ok C0 hio c hZ hpo I1).rv I1) fun x dx ρ2 s2 N2 S2 I2 qx => test_ok I2 qx.1
          · cases f2
        · cases f2
      · cases h
    · cases h
  | .pass, O, On, B, h, hP, N, σ, ρ, s, I => by
    rw [okX] at h
    cases h
    simp only [vX, exT]
    exact ⟨σ, s, N, rfl, StX.refl fun _ h => h, I⟩
  | .brk, O, On, B, h, hP, N, σ, ρ, s, I => by
    rw [okX] at h
    cases h
    simp only [vX, exT]
    exact ⟨σ, s, N, rfl, O, List.mem_singleton.mpr rfl, StX.refl fun _ h => h, I⟩
  | .cnt, O, On, B, h, hP, N, σ, ρ, s, I => by
    rw [okX] at h
    cases h
    simp only [vX, exT]
    exact ⟨σ, s, N, rfl, O, List.mem_singleton.mpr rfl, StX.refl fun _ h => h, I⟩
theorem okXs_ok : ∀ (ts : List T) {O On : List Nat} {B : List (List Nat)}, okXs tb P fr O ts = some (On, B) → (∀ i ∈ P, i ∈ O) → ∀ {N : Ad} {σ : Sl} {ρ : Ev} {s : S}, Inv N O σ ρ s → XOk P O fr σ N s On B (vXs g io w ts ρ) (exTs f w ts σ s)
  | [], O, On, B, h, hP, N, σ, ρ, s, I => by
    rw [okXs] at h
    cases h
    simp only [vXs, exTs]
    exact ⟨σ, s, N, rfl, StX.refl fun _ h => h, I⟩
  | t :: r, O, On, B, h, hP, N, σ, ρ, s, I => by
    rw [okXs] at h
    split at h
    · rename_i O1 x hx
      split at h
      · rename_i hp
        rw [lsst_iff] at hp
        split at h
        · rename_i O2 y hy
          cases h
          have ht := okX_ok t hx hP I
          simp only [vXs, exTs]
          cases hr : vX g io w t ρ with
          | bad => trivial
          | exc e ρ1 =>
            rw [hr] at ht
            obtain ⟨e', σ1, s1, N1, q1, q2, q3, q4⟩ := ht
            rw [q1]
            exact ⟨e', σ1, s1, N1, rfl, q2, q3, q4⟩
          | ok fl ρ1 =>
            rw [hr] at ht
            cases fl with
            | nx =>
              obtain ⟨σ1, s1, N1, q1, q2, q3⟩ := ht
              rw [q1]
              simp only [VR.bind_ok, R.bind_ok]
              exact ((okXs_ok r hy hp q3).more (fun i hi => hi) fun b hb => List.mem_append_right _ hb).after q2
            | bk =>
              obtain ⟨σ1, s1, N1, q1, Ob, hb, q2, q3⟩ := ht
              rw [q1]
              exact ⟨σ1, s1, N1, rfl, Ob, List.mem_append_left _ hb, q2, q3⟩
            | ct =>
              obtain ⟨σ1, s1, N1, q1, Ob, hb, q2, q3⟩ := ht
              rw [q1]
              exact ⟨σ1, s1, N1, rfl, Ob, List.mem_append_left _ hb, q2, q3⟩
            | rt v =>
              obtain ⟨d, σ1, s1, N1, q1, q2, q3, q4⟩ := ht
              rw [q1]
              exact ⟨d, σ1, s1, N1, rfl, q2, q3, q4⟩
        · cases h
      · cases h
    · cases h
end
end
end Dv
end

section
/-! Va14 -/
set_option maxHeartbeats 4000000
/-! Va14: functions of plain values are sound. -/
namespace Dv
open PySem PySem.W

section
variable {N N1 : Ad} {s s1 : S} {io : List Nat}
theorem app_none {α : Type} {l : List (Option α)} {m i : Nat} {x : α} (h : (l ++ List.replicate m none)[i]? = some (some x)) : l[i]? = some (some x) := by
  by_cases hi : i < l.length
  · rwa [List.getElem?_append_left hi] at h
  · rw [List.getElem?_append_right (by omega), List.getElem?_replicate] at h
    split at h <;> cases h
theorem root_app {σ : Sl} {m i a : Nat} (h : root (σ ++ List.replicate m none) i a) : root σ i a := app_none h
theorem root_app' {σ : Sl} {m i a : Nat} (h : root σ i a) : root (σ ++ List.replicate m none) i a := by
  unfold root at h ⊢
  rw [List.getElem?_append_left (List.getElem?_eq_some_iff.mp h).1]
  exact h
theorem Inv.app {O : List Nat} {σ : Sl} {ρ : Ev} {m : Nat} (I : Inv N O σ ρ s) : Inv N O (σ ++ List.replicate m none) (ρ ++ List.replicate m none) s where
  wf := I.wf
  lt := I.lt
  rep i v hi e := by
    obtain ⟨d, e1, q⟩ := I.rep i v hi (app_none e)
    exact ⟨d, by rw [List.getElem?_append_left (List.getElem?_eq_some_iff.mp e1).1]; exact e1, q⟩
  own i v hi e := by
    obtain ⟨d, e1, q⟩ := I.own i v hi (app_none e)
    exact ⟨d, by rw [List.getElem?_append_left (List.getElem?_eq_some_iff.mp e1).1]; exact e1, q⟩
  rt i a hi r := I.rt i a hi (root_app r)
  dis i j a hi hj r r' := I.dis i j a hi hj (root_app r) (root_app r')
  len := by simp [I.len]
/-- the handed slots alone -/
def onlyIo (io : List Nat) (n : Nat) (ρ : Ev) : Ev := (List.range n).map fun i => if io.contains i = true then (match ρ[i]? with
  | some x => x
  | none => none) else none
theorem only_get {n i : Nat} {ρ : Ev} {v : Va} : (onlyIo io n ρ)[i]? = some (some v) ↔ i < n ∧ i ∈ io ∧ ρ[i]? = some (some v) := by
  unfold onlyIo
  rw [List.getElem?_map]
  by_cases hi : i < n
  · rw [List.getElem?_range hi]
    simp only [Option.map_some, Option.some.injEq, List.contains_iff_mem]
    by_cases hm : i ∈ io
    · simp only [hm, if_true, hi, true_and]
      cases ρ[i]? with
      | none => simp
      | some x => simp
    · simp [hm]
  · have : (List.range n)[i]? = none := List.getElem?_eq_none (by simpa using hi)
    rw [this]
    simp [hi]
theorem only_outs {n : Nat} {ρ ρ' : Ev} : ∀ {is : List Nat} {os : List Va}, (∀ p ∈ is, p ∈ io ∧ p < n) → (∀ p ∈ is, ρ'[p]? = ρ[p]?) → outs is ρ = some os → outs is (onlyIo io n ρ') = some os
  | [], os, h, he, e => e
  | p :: ps, os, h, he, e => by
    unfold outs at e
    split at e
    · rename_i v vs h1 h2
      cases e
      unfold outs
      rw [only_get.mpr ⟨(h p List.mem_cons_self).2, (h p List.mem_cons_self).1, (he p List.mem_cons_self).trans h1⟩, only_outs (fun q hq => h q (List.mem_cons_of_mem _ hq)) (fun q hq => he q (List.mem_cons_of_mem _ hq)) h2]
    · cases e
/-- behind the call, without what it made for itself -/
theorem gc_ok {d : D} {n0 k0 : Nat} {X : Ad} (w0 : k0 ≤ n0) (w1 : Wf s1) (hl : n0 ≤ s1.h.length) : gc n0 k0 d s1 = s1 ∨ (gc n0 k0 d s1 = { s1 with h := s1.h.take n0 } ∧ d.top ≤ n0 ∧ s1.k ≤ n0) := by
  unfold gc
  split
  · rename_i hc
    refine .inr ⟨rfl, hc.1, ?_⟩
    rcases hc.2 with h | h
    · exact h
    · omega
  · exact .inl rfl
/-- what a body's end says to the caller -/
theorem end_ok {σ1 : Sl} {ρ1 ρz : Ev} {vs : List Va} {ds : List D} {m : Nat} {os : List Va} (I : Inv N io (ds.map some) (vs.map some) s) (hp : ∀ p ∈ io, p < ds.length) (S1 : StX io io io (ds.map some ++ List.replicate m none) N s σ1 N1 s1) (J : Inv N1 io σ1 ρz s1)
    (hz : ∀ p ∈ io, ρz[p]? = ρ1[p]?) (ho : outs io ρ1 = some os) :
    Inv N1 io (ds.map some) (onlyIo io ds.length ρz) s1 ∧ St (ds.map some) io io io N s N1 s1 ∧ outs io (onlyIo io ds.length ρz) = some os := by
  have at1 : ∀ p ∈ io, σ1[p]? = (ds.map some)[p]? := fun p h => by
    rw [S1.pr p h, List.getElem?_append_left (by simpa using hp p h)]
  have rt : ∀ {p a : Nat}, p ∈ io → (root σ1 p a ↔ root (ds.map some) p a) := fun {p a} h => by unfold root; rw [at1 p h]
  refine ⟨⟨J.wf, J.lt, fun p v h e => ?_, fun p v h e => ?_, fun p a h r => J.rt p a h ((rt h).mpr r), fun p q a h h' r r' => J.dis p q a h h' ((rt h).mpr r) ((rt h').mpr r'), by simp [onlyIo]⟩, ⟨fun _ h => h, S1.len, fun a ha hn => S1.old a ha fun i hi r => hn i hi hi (root_app r), S1.sub, fun a h => ?_⟩, only_outs (fun p h => ⟨h, hp p h⟩) hz ho⟩
  · exact absurd (only_get.mp e).2.1 h
  · obtain ⟨d, e1, q⟩ := J.own p v h (only_get.mp e).2.2
    exact ⟨d, by rw [← at1 p h]; exact e1, q⟩
  · rcases S1.only a h with h | h | ⟨i, hi, r⟩
    · exact .inl h
    · exact .inr (.inl h)
    · exact .inr (.inr ⟨i, hi, root_app r⟩)
theorem gc_end {ρ' : Ev} {vs : List Va} {ds : List D} {fr : Bool} {v : Va} {d : D} (I : Inv N io (ds.map some) (vs.map some) s) (hv : ∀ p ∈ io, p < vs.length) (J : Inv N1 io (ds.map some) ρ' s1) (S1 : St (ds.map some) io io io N s N1 s1) (q : (Rep s1.h N1 v d ∧ (fr = true → NonRef d)) ∨ (fr = true ∧ ∃ a o, d = .ref a ∧ ¬ N1 a ∧ s1.h[a]? = some o ∧ ObRep s1.h N1 v o ∧ s.h.length ≤ a))
    (hr : ∀ p v, p ∉ io → ρ'[p]? = some (some v) → False) :
    ∃ N2, St (ds.map some) io io io N s N2 (gc s.h.length s.k d s1) ∧ Inv N2 io (ds.map some) ρ' (gc s.h.length s.k d s1) ∧ Val (gc s.h.length s.k d s1).h s.h.length N2 (fun _ => False) fr v d := by
  have toVal : ∀ {h : List Ob} {N2 : Ad}, (Rep h N2 v d ∧ (fr = true → NonRef d)) ∨ (fr = true ∧ ∃ a o, d = .ref a ∧ ¬ N2 a ∧ h[a]? = some o ∧ ObRep h N2 v o ∧ s.h.length ≤ a) → Val h s.h.length N2 (fun _ => False) fr v d := fun {h N2} q => by
    rcases q with ⟨q, n⟩ | ⟨hf, a, o, e, na, ea, q, hn⟩
    · exact .inl ⟨q.mono fun a h => .inl h, n⟩
    · exact .inr ⟨hf, a, o, e, hn, na, ea, q.move fun a o n e => ⟨.inl n, e⟩⟩
  rcases gc_ok (X := N) (d := d) I.wf.k J.wf S1.len with e | ⟨e, ht, hk⟩
  · rw [e]
    exact ⟨N1, S1, J, toVal q⟩
  · rw [e]
    have lt : (s1.h.take s.h.length).length = s.h.length := by rw [List.length_take]; exact Nat.min_eq_left S1.len
    have gt : ∀ {a : Nat}, a < s.h.length → (s1.h.take s.h.length)[a]? = s1.h[a]? := fun {a} h => by rw [List.getElem?_take, if_pos h]
    have H : ∀ a o, N1 a → a < s.h.length → s1.h[a]? = some o → o.top ≤ s.h.length ∧ (s1.h.take s.h.length)[a]? = some o := fun a o _ h e => ⟨by have := J.wf.tp a o e; omega, by rw [gt h]; exact e⟩
    refine ⟨fun a => N1 a ∧ a < s.h.length, ⟨fun _ h => h, by rw [lt]; exact Nat.le_refl _, fun a ha hn => (gt ha).trans (S1.old a ha hn), fun a h => ⟨S1.sub a h, I.lt a h⟩, fun a h => S1.only a h.1⟩, ⟨⟨fun a o ea => ?_, by rw [lt]; exact hk⟩, fun a h => by rw [lt]; exact h.2, fun p w hp ew => (hr p w hp ew).elim, fun p w hp ew => ?_, fun p a hp r => ⟨fun h => (J.rt p a hp r).1 h.1, by rw [lt]; exact (I.rt p a hp r).2⟩, J.dis, J.len⟩, toVal ?_⟩
    · have ha : a < s.h.length := by rw [← lt]; exact (List.getElem?_eq_some_iff.mp ea).1
      rw [gt ha] at ea
      exact J.wf.tp a o ea
    · obtain ⟨d1, e1, q1⟩ := J.own p w hp ew
      obtain ⟨d0, e0, q0⟩ := I.own p _ hp (by rw [List.getElem?_map, List.getElem?_eq_getElem (hv p hp)]; rfl)
      rw [e1] at e0
      cases e0
      refine ⟨d1, e1, ?_⟩
      rcases q1 with ⟨nr, q1⟩ | ⟨a, o, rfl, ea, q1⟩
      · rcases q0 with ⟨_, q0⟩ | ⟨a, o, ed, _⟩
        · exact .inl ⟨nr, q1.cut H (q0.top I.lt)⟩
        · exact absurd ed (nr a)
      · have la := (I.rt p a hp e1).2
        exact .inr ⟨a, o, rfl, by rw [gt la]; exact ea, q1.cut H (by have := J.wf.tp a o ea; omega)⟩
    · rcases q with ⟨q, n⟩ | ⟨hf, a, o, rfl, na, ea, q, hn⟩
      · exact .inl ⟨q.cut H ht, n⟩
      · rw [D.top] at ht
        omega
variable {tb : Nat → Option Fi} {f : CallT} {g : VCall} {ioF : Nat → List Nat} {w : Nat}
theorem fn_ok' (C0 : COk tb f g) (hio : ∀ k fi, tb k = some fi → ioF k = fi.io) {fn : Fn} {fi : Fi} {On : List Nat} {B : List (List Nat)} (nd : fi.io.Nodup) (hnp : ∀ p ∈ fi.io, p < fn.np) (hnl : fn.np ≤ fn.nl) (hx : okXs tb fi.io fi.fr fi.io fn.body = some (On, B)) (hon : ∀ i ∈ fi.io, i ∈ On) {vs : List Va} {ds : List D} (I : Inv N fi.io (ds.map some) (vs.map some) s) : match runV g ioF w fn fi vs with
    | .bad => True
    | .ok v os => ∃ d s1 N1 ρ', runB f w fn ds s = .ok d s1 ∧ St (ds.map some) fi.io fi.io fi.io N s N1 s1 ∧ Inv N1 fi.io (ds.map some) ρ' s1 ∧ outs fi.io ρ' = some os ∧ Val s1.h s.h.length N1 (fun _ => False) fi.fr v d ∧ (fi.flat = true → v.flat = true)
    | .exc e os => ∃ e' s1 N1 ρ', runB f w fn ds s = .exc e' s1 ∧ St (ds.map some) fi.io fi.io fi.io N s N1 s1 ∧ Inv N1 fi.io (ds.map some) ρ' s1 ∧ outs fi.io ρ' = some os ∧ VExRep e e' := by
  have hld : ds.length = vs.length := by simpa using I.len.symm
  unfold runV runB
  by_cases hl : vs.length = fn.np
  · rw [if_pos hl, if_pos (hld.trans hl)]
    have hp : ∀ p ∈ fi.io, p < ds.length := fun p h => by rw [hld, hl]; exact hnp p h
    have hpv : ∀ p ∈ fi.io, p < vs.length := fun p h => by rw [hl]; exact hnp p h
    have st : Inv N fi.io (start fn.nl ds) (vstart fn.nl vs) s := by
      unfold start vstart
      rw [hld]
      exact I.app
    have main := okXs_ok (P := fi.io) (fr := fi.fr) (w := w) C0 hio fn.body hx (fun i h => h) st
    have fin : ∀ {v : Va} {d : D} {σ1 : Sl} {s1 : S} {N1 : Ad} {ρ1 ρz : Ev}, StX fi.io fi.io fi.io (start fn.nl ds) N s σ1 N1 s1 → (∀ p ∈ fi.io, ρz[p]? = ρ1[p]?) → Inv N1 fi.io σ1 ρz s1 → RetV fi.io fi.io (start fn.nl ds) s fi.fr N1 s1 v d → match vend fi v ρ1 with
        | .bad => True
        | .ok v os => ∃ d' s2 N2 ρ', (.ok d (gc s.h.length s.k d s1) : R D) = .ok d' s2 ∧ St (ds.map some) fi.io fi.io fi.io N s N2 s2 ∧ Inv N2 fi.io (ds.map some) ρ' s2 ∧ outs fi.io ρ' = some os ∧ Val s2.h s.h.length N2 (fun _ => False) fi.fr v d' ∧ (fi.flat = true → v.flat = true)
        | .exc e os => False := fun {v d σ1 s1 N1 ρ1 ρz} S1 hz J q => by
      unfold vend
      split
      · trivial
      · rename_i v2 os2 hve
        split at hve
        · rename_i hfl
          split at hve
          · rename_i os ho
            cases hve
            obtain ⟨J2, S2, o2⟩ := end_ok I hp S1 J hz ho
            obtain ⟨N2, S3, J3, v3⟩ := gc_end (fr := fi.fr) (v := v) (d := d) I hpv J2 S2 (by
              rcases q with q | ⟨hf, a, o, e1, na, ea, q, hn⟩
              · exact .inl q
              · refine .inr ⟨hf, a, o, e1, na, ea, q, ?_⟩
                rcases hn with hn | ⟨i, hi, hni, _⟩
                · exact hn
                · exact absurd hi hni) fun p w hp ew => hp (only_get.mp ew).2.1
            exact ⟨d, _, N2, _, rfl, S3, J3, o2, v3, fun h => hfl.elim (fun z => by rw [h] at z; cases z) id⟩
          · cases hve
        · cases hve
      · rename_i e os hve
        split at hve
        · split at hve <;> cases hve
        · cases hve
    cases hr : vXs g ioF w fn.body (vstart fn.nl vs) with
    | bad => trivial
    | exc e ρ1 =>
      rw [hr] at main
      obtain ⟨e', σ1, s1, N1, q1, q2, q3, q4⟩ := main
      rw [q1]
      dsimp only
      cases ho : outs fi.io ρ1 with
      | none => trivial
      | some os =>
        obtain ⟨J2, S2, o2⟩ := end_ok I hp q2 q3 (fun _ _ => rfl) ho
        exact ⟨e', s1, N1, _, rfl, S2, J2, o2, q4⟩
    | ok fl ρ1 =>
      rw [hr] at main
      cases fl with
      | bk => trivial
      | ct => trivial
      | nx =>
        obtain ⟨σ1, s1, N1, q1, q2, q3⟩ := main
        rw [q1]
        dsimp only
        have := fin (v := .non) (d := .non) (ρ1 := ρ1) (q2.drop hon) (fun _ _ => rfl) (q3.drop hon) (.inl ⟨rfl, fun _ a z => nomatch z⟩)
        revert this
        cases vend fi .non ρ1 with
        | bad => exact fun _ => trivial
        | ok v os => exact fun h => h
        | exc e os => exact fun h => h.elim
      | rt v =>
        obtain ⟨d, σ1, s1, N1, q1, q2, ⟨ρz, hz, q3⟩, q4⟩ := main
        rw [q1]
        dsimp only
        have := fin q2 hz q3 q4
        revert this
        cases vend fi v ρ1 with
        | bad => exact fun _ => trivial
        | ok v os => exact fun h => h
        | exc e os => exact fun h => h.elim
  · rw [if_neg hl]
    trivial
/-- a function -/
theorem fn_ok (C0 : COk tb f g) (hio : ∀ k fi, tb k = some fi → ioF k = fi.io) {fn : Fn} {fi : Fi} (hf : okFn tb fn fi = true) {vs : List Va} {ds : List D} (I : Inv N fi.io (ds.map some) (vs.map some) s) : match runV g ioF w fn fi vs with
    | .bad => True
    | .ok v os => ∃ d s1 N1 ρ', runB f w fn ds s = .ok d s1 ∧ St (ds.map some) fi.io fi.io fi.io N s N1 s1 ∧ Inv N1 fi.io (ds.map some) ρ' s1 ∧ outs fi.io ρ' = some os ∧ Val s1.h s.h.length N1 (fun _ => False) fi.fr v d ∧ (fi.flat = true → v.flat = true)
    | .exc e os => ∃ e' s1 N1 ρ', runB f w fn ds s = .exc e' s1 ∧ St (ds.map some) fi.io fi.io fi.io N s N1 s1 ∧ Inv N1 fi.io (ds.map some) ρ' s1 ∧ outs fi.io ρ' = some os ∧ VExRep e e' := by
  unfold okFn at hf
  simp only [Bool.and_eq_true, decide_eq_true_eq, List.all_eq_true] at hf
  obtain ⟨⟨⟨nd, hnp⟩, hnl⟩, hx⟩ := hf
  split at hx
  · rename_i On B hx0
    rw [lsst_iff] at hx
    exact fn_ok' C0 hio nd hnp hnl hx0 hx I
  · cases hx
end
/-- all functions of a text -/
theorem okAll_get {tb : Nat → Option Fi} : ∀ {Γ : List Fn} {I : List Fi} {k : Nat} {g : Fn}, okAll tb Γ I = true → Γ[k]? = some g → ∃ i, I[k]? = some i ∧ okFn tb g i = true
  | [], [], k, g, h, e => by simp at e
  | [], _ :: _, k, g, h, e => by simp at e
  | _ :: _, [], k, g, h, e => by simp [okAll] at h
  | g0 :: Γ, i0 :: I, 0, g, h, e => by
    cases e
    simp only [okAll, Bool.and_eq_true] at h
    exact ⟨i0, rfl, h.1⟩
  | g0 :: Γ, i0 :: I, k + 1, g, h, e => by
    simp only [okAll, Bool.and_eq_true] at h
    obtain ⟨i, h1, h2⟩ := okAll_get h.2 (by simpa using e)
    exact ⟨i, by simpa using h1, h2⟩
def tbOf (I : List Fi) (k : Nat) : Option Fi := I[k]?
theorem callV_ok {Γ : List Fn} {I : List Fi} {w : Nat} (h : okAll (tbOf I) Γ I = true) : ∀ n, COk (tbOf I) (callF Γ w n) (callV Γ I w n)
  | 0 => fun k fi hk N vs ds s J => trivial
  | n + 1 => fun k fi hk N vs ds s J => by
    simp only [callV, callF]
    unfold tbOf at hk
    cases hg : Γ[k]? with
    | none => trivial
    | some g =>
      obtain ⟨i, h1, h2⟩ := okAll_get h hg
      rw [hk] at h1
      cases h1
      rw [hk]
      exact fn_ok (callV_ok h n) (fun k fi hk => by unfold ioOf; unfold tbOf at hk; rw [hk]) h2 J
/-- the law's function: called with the script -/
theorem law_va {Γ : List Fn} {I : List Fi} {w n k : Nat} {ns : List Int} {os : List Va} (h : okAll (tbOf I) Γ I = true) (hi : (tbOf I k).map (·.io) = some []) (e : callV Γ I w n k [.ro (ns.map .int)] = .ok (.bl true) os) : ∃ s', callF Γ w n k [.ro (ns.map .int)] ⟨[], 0⟩ = .ok (.bl true) s' := by
  cases hk : tbOf I k with
  | none => rw [hk] at hi; cases hi
  | some fi =>
    rw [hk] at hi
    simp only [Option.map_some, Option.some.injEq] at hi
    have J : Inv (fun _ => False) fi.io ([D.ro (ns.map .int)].map some) ([Va.ro (ns.map .int)].map some) ⟨[], 0⟩ := by
      rw [hi]
      refine ⟨⟨fun a o e => by simp at e, Nat.le_refl _⟩, fun a h => h.elim, fun i v _ ev => ?_, fun i v hi => by simp at hi, fun i a hi => by simp at hi, fun i j a hi => by simp at hi, rfl⟩
      cases i with
      | zero =>
        simp only [List.map_cons, List.map_nil, List.getElem?_cons_zero, Option.some.injEq] at ev
        subst ev
        exact ⟨_, rfl, _, rfl, reps_map fun z _ => rfl⟩
      | succ i => simp at ev
    have := callV_ok (w := w) h n k fi hk _ _ _ _ J
    rw [e] at this
    obtain ⟨d, s1, N1, ρ', e1, _, _, _, q, _⟩ := this
    rcases q with ⟨q, _⟩ | ⟨_, a, o, _, _, _, _, q⟩
    · cases q
      exact ⟨s1, e1⟩
    · exact q.elim
end Dv
end

section
/-! Dm1 -/
/-! Dm1: laws of the evaluator: what is wanted of an outcome; loops. -/
namespace Dv
open PySem PySem.Spec

def R.wp {β : Type} (r : R β) (P : β → S → Prop) : Prop := match r with
  | .ok b s => P b s
  | _ => False
section
variable {β γ : Type}
@[simp] theorem wp_ok {b : β} {s : S} {P : β → S → Prop} : (R.ok b s).wp P = P b s := rfl
@[simp] theorem wp_bad {P : β → S → Prop} : (R.bad : R β).wp P = False := rfl
@[simp] theorem wp_exc {e : Ex} {s : S} {P : β → S → Prop} : (R.exc e s : R β).wp P = False := rfl
@[simp] theorem wp_bind {r : R β} {f : β → S → R γ} {P : γ → S → Prop} : (r.bind f).wp P = r.wp fun b s => (f b s).wp P := by cases r <;> rfl
@[simp] theorem wp_of {o : Option β} {s : S} {P : β → S → Prop} : (R.of o s).wp P = ∃ b, o = some b ∧ P b s := by
  cases o with
  | none => simp [R.of]
  | some b => simp [R.of]
theorem wp_mono {r : R β} {P Q : β → S → Prop} (h : r.wp P) (i : ∀ b s, P b s → Q b s) : r.wp Q := by
  cases r with
  | ok b s => exact i b s h
  | exc _ _ => exact h
  | bad => exact h
theorem wp_out {r : R β} {P : β → S → Prop} (h : r.wp P) : ∃ b s, r = .ok b s ∧ P b s := by
  cases r with
  | ok b s => exact ⟨b, s, rfl, h⟩
  | exc _ _ => exact h.elim
  | bad => exact h.elim
theorem wp_eq {r : R β} {b : β} {s : S} {P : β → S → Prop} (h : r = .ok b s) (p : P b s) : r.wp P := by rw [h]; exact p
end
/-! ### loops -/
/-- a comprehension's turns, by an invariant of the turn, the items so far, the state -/
theorem lc_inv {j : It} {b : D → S → R (Option D)} {xs : List D} (I : Nat → List D → S → Prop) (hat : ∀ i acc s, I i acc s → j.at i s = some xs[i]?) (hz : ∀ i acc s, i < xs.length → I i acc s → acc.length < sizeLine)
    (step : ∀ i acc s d, xs[i]? = some d → I i acc s → (b d s).wp fun y s' => match y with
      | some y => I (i + 1) (acc ++ [y]) s'
      | none => I (i + 1) acc s') : ∀ (n i : Nat) (acc : List D) (s : S), I i acc s → xs.length < i + n → i ≤ xs.length → (lcL j b n i acc s).wp fun ds s' => I xs.length ds s'
  | 0, i, acc, s, _, h1, h2 => by omega
  | n + 1, i, acc, s, h, h1, h2 => by
    unfold lcL
    rw [hat i acc s h]
    cases e : xs[i]? with
    | none =>
      have : i = xs.length := by have := List.getElem?_eq_none_iff.mp e; omega
      subst this
      exact h
    | some d =>
      have hi : i < xs.length := (List.getElem?_eq_some_iff.mp e).1
      dsimp only
      rw [wp_bind]
      refine wp_mono (step i acc s d e h) fun y s' q => ?_
      cases y with
      | none => exact lc_inv I hat hz step n (i + 1) acc s' q (by omega) hi
      | some y =>
        dsimp only
        rw [if_pos (hz i acc s hi h)]
        exact lc_inv I hat hz step n (i + 1) (acc ++ [y]) s' q (by omega) hi
theorem dc_inv {j : It} {b : D → S → R (Option (D × D))} {xs : List D} (I : Nat → List (Ke × D) → S → Prop) (hat : ∀ i acc s, I i acc s → j.at i s = some xs[i]?) (hz : ∀ i acc s, i < xs.length → I i acc s → acc.length < sizeLine)
    (step : ∀ i acc s d, xs[i]? = some d → I i acc s → (b d s).wp fun y s' => match y with
      | some p => ∃ k, key? p.1 = some k ∧ I (i + 1) (kput acc k p.2) s'
      | none => I (i + 1) acc s') : ∀ (n i : Nat) (acc : List (Ke × D)) (s : S), I i acc s → xs.length < i + n → i ≤ xs.length → (dcL j b n i acc s).wp fun ds s' => I xs.length ds s'
  | 0, i, acc, s, _, h1, h2 => by omega
  | n + 1, i, acc, s, h, h1, h2 => by
    unfold dcL
    rw [hat i acc s h]
    cases e : xs[i]? with
    | none =>
      have : i = xs.length := by have := List.getElem?_eq_none_iff.mp e; omega
      subst this
      exact h
    | some d =>
      have hi : i < xs.length := (List.getElem?_eq_some_iff.mp e).1
      dsimp only
      rw [wp_bind]
      refine wp_mono (step i acc s d e h) fun y s' q => ?_
      cases y with
      | none => exact dc_inv I hat hz step n (i + 1) acc s' q (by omega) hi
      | some p =>
        obtain ⟨k, hk, q⟩ := q
        dsimp only
        rw [hk]
        dsimp only
        rw [if_pos (hz i acc s hi h)]
        exact dc_inv I hat hz step n (i + 1) (kput acc k p.2) s' q (by omega) hi
/-- a for without break or return -/
theorem for_inv {j : It} {b : D → Sl → S → R (Fl × Sl)} {xs : List D} (I : Nat → Sl → S → Prop) (hat : ∀ i σ s, I i σ s → j.at i s = some xs[i]?)
    (step : ∀ i σ s d, xs[i]? = some d → I i σ s → (b d σ s).wp fun p s' => (p.1 = .nx ∨ p.1 = .ct) ∧ I (i + 1) p.2 s') : ∀ (n i : Nat) (σ : Sl) (s : S), I i σ s → xs.length < i + n → i ≤ xs.length → (forL j b n i σ s).wp fun p s' => p.1 = .nx ∧ I xs.length p.2 s'
  | 0, i, σ, s, _, h1, h2 => by omega
  | n + 1, i, σ, s, h, h1, h2 => by
    unfold forL
    rw [hat i σ s h]
    cases e : xs[i]? with
    | none =>
      have : i = xs.length := by have := List.getElem?_eq_none_iff.mp e; omega
      subst this
      exact ⟨rfl, h⟩
    | some d =>
      have hi : i < xs.length := (List.getElem?_eq_some_iff.mp e).1
      obtain ⟨⟨fl, σ'⟩, s', q1, q2, q3⟩ := wp_out (step i σ s d e h)
      dsimp only
      rw [q1]
      rcases q2 with rfl | rfl
      · exact for_inv I hat step n (i + 1) σ' s' q3 (by omega) hi
      · exact for_inv I hat step n (i + 1) σ' s' q3 (by omega) hi
/-- a while without break or return -/
theorem whl_inv {c : Sl → S → R Bool} {b : Sl → S → R (Fl × Sl)} (I : Sl → S → Prop) (μ : Sl → S → Nat) (Z : Sl → S → Prop)
    (step : ∀ σ s, I σ s → (c σ s).wp fun t s' => match t with
      | false => Z σ s'
      | true => (b σ s').wp fun p s'' => (p.1 = .nx ∨ p.1 = .ct) ∧ I p.2 s'' ∧ μ p.2 s'' < μ σ s) : ∀ (n : Nat) (σ : Sl) (s : S), I σ s → μ σ s < n → (whlL c b n σ s).wp fun p s' => p.1 = .nx ∧ Z p.2 s'
  | 0, σ, s, _, h => by omega
  | n + 1, σ, s, h, hn => by
    unfold whlL
    obtain ⟨t, s', q1, q2⟩ := wp_out (step σ s h)
    rw [q1]
    cases t with
    | false => exact ⟨rfl, q2⟩
    | true =>
      obtain ⟨⟨fl, σ'⟩, s'', r1, r2, r3, r4⟩ := wp_out q2
      dsimp only
      rw [r1]
      have r5 : μ σ' s'' < n := Nat.lt_of_lt_of_le r4 (by omega)
      rcases r2 with rfl | rfl
      · exact whl_inv I μ Z step n σ' s'' r3 r5
      · exact whl_inv I μ Z step n σ' s'' r3 r5
/-- .. the turns left, told by the invariant -/
theorem whl_ind {c : Sl → S → R Bool} {b : Sl → S → R (Fl × Sl)} (I : Nat → Sl → S → Prop) (Z : Sl → S → Prop)
    (step : ∀ m σ s, I m σ s → (c σ s).wp fun t s' => match t with
      | false => Z σ s'
      | true => (b σ s').wp fun p s'' => (p.1 = .nx ∨ p.1 = .ct) ∧ ∃ m', m' < m ∧ I m' p.2 s'') : ∀ (n m : Nat) (σ : Sl) (s : S), I m σ s → m < n → (whlL c b n σ s).wp fun p s' => p.1 = .nx ∧ Z p.2 s'
  | 0, m, σ, s, _, h => by omega
  | n + 1, m, σ, s, h, hn => by
    unfold whlL
    obtain ⟨t, s', q1, q2⟩ := wp_out (step m σ s h)
    rw [q1]
    cases t with
    | false => exact ⟨rfl, q2⟩
    | true =>
      obtain ⟨⟨fl, σ'⟩, s'', r1, r2, m', r3, r4⟩ := wp_out q2
      have r5 : m' < n := by omega
      dsimp only
      rw [r1]
      rcases r2 with rfl | rfl
      · exact whl_ind I Z step n m' σ' s'' r4 r5
      · exact whl_ind I Z step n m' σ' s'' r4 r5
theorem ex_nx {f : CallT} {w : Nat} {t : T} {r : List T} {σ σ' : Sl} {s s' : S} {P : Fl × Sl → S → Prop} (h : exT f w t σ s = .ok (.nx, σ') s') (k : (exTs f w r σ' s').wp P) : (exTs f w (t :: r) σ s).wp P := by
  simp only [exTs, wp_bind]
  rw [h]
  exact k
theorem ex_rt {f : CallT} {w : Nat} {t : T} {r : List T} {σ σ' : Sl} {s s' : S} {d : D} {P : Fl × Sl → S → Prop} (h : exT f w t σ s = .ok (.rt d, σ') s') (k : P (.rt d, σ') s') : (exTs f w (t :: r) σ s).wp P := by
  simp only [exTs, wp_bind]
  rw [h]
  exact k
/-- a statement whose end is told by a wish -/
theorem ex_wp {f : CallT} {w : Nat} {t : T} {r : List T} {σ : Sl} {s : S} {P : Fl × Sl → S → Prop} (h : (exT f w t σ s).wp fun p s' => p.1 = .nx ∧ (exTs f w r p.2 s').wp P) : (exTs f w (t :: r) σ s).wp P := by
  simp only [exTs, wp_bind]
  refine wp_mono h fun p s' q => ?_
  obtain ⟨fl, σ'⟩ := p
  obtain ⟨e, q⟩ := q
  cases e
  exact q
/-! ### loops, by name -/
def tnL (f : CallT) (w : Nat) (t : Tg) (cs : List C) (e : C) (σ : Sl) : D → S → R (Option D) := fun d s => match t.set d σ with
  | some σ' => (evTs f w cs σ' s).bind fun c s => match c with
    | true => (evE f w e σ' s).bind fun y s => .ok (some y) s
    | false => .ok none s
  | none => .bad
theorem ev_lcm {f : CallT} {w : Nat} {e : C} {t : Tg} {it : C} {cs : List C} {σ : Sl} {s : S} : evE f w (.lc e t it cs) σ s = (evI f w it σ s).bind fun j s => (lcL j (tnL f w t cs e σ) w 0 [] s).bind fun ds s => s.new (.list ds) := by
  simp only [evE]
  congr 1
def tnD (f : CallT) (w : Nat) (t : Tg) (cs : List C) (k v : C) (σ : Sl) : D → S → R (Option (D × D)) := fun d s => match t.set d σ with
  | some σ' => (evTs f w cs σ' s).bind fun c s => match c with
    | true => (evE f w k σ' s).bind fun x s => (evE f w v σ' s).bind fun y s => .ok (some (x, y)) s
    | false => .ok none s
  | none => .bad
theorem ev_dcm {f : CallT} {w : Nat} {k v : C} {t : Tg} {it : C} {cs : List C} {σ : Sl} {s : S} : evE f w (.dc k v t it cs) σ s = (evI f w it σ s).bind fun j s => (dcL j (tnD f w t cs k v σ) w 0 [] s).bind fun kvs s => s.new (.dict kvs) := by
  simp only [evE]
  congr 1
def tnF (f : CallT) (w : Nat) (t : Tg) (b : List T) : D → Sl → S → R (Fl × Sl) := fun d σ s => match t.set d σ with
  | some σ' => exTs f w b σ' s
  | none => .bad
theorem ex_forM {f : CallT} {w : Nat} {t : Tg} {it : C} {b : List T} {σ : Sl} {s : S} : exT f w (.for_ t it b) σ s = (evI f w it σ s).bind fun j s => forL j (tnF f w t b) w 0 σ s := by
  simp only [exT]
  congr 1
/-- a comprehension over items that stand, its test and its value plain -/
theorem lc_sel {f : CallT} {w : Nat} {e : C} {t : Tg} {it : C} {cs : List C} {σ : Sl} {s s1 : S} {xs : List D} (p : D → Bool) (g : D → D) (e0 : evI f w it σ s = .ok (.ds xs) s1) (hw : xs.length < w) (hz : xs.length < 1000000)
    (step : ∀ d ∈ xs, ∃ σ', t.set d σ = some σ' ∧ evTs f w cs σ' s1 = .ok (p d) s1 ∧ (p d = true → evE f w e σ' s1 = .ok (g d) s1)) :
    evE f w (.lc e t it cs) σ s = .ok (.ref s1.h.length) ⟨s1.h ++ [.list ((xs.filter p).map g)], s1.k⟩ := by
  rw [ev_lcm, e0, R.bind_ok]
  have H := lc_inv (j := .ds xs) (xs := xs) (b := tnL f w t cs e σ) (fun i acc s' => acc = ((xs.take i).filter p).map g ∧ s' = s1) (fun i acc s' q => rfl) (fun i acc s' hi q => by
    rw [q.1]
    refine Nat.lt_of_lt_of_le (m := 1000000) ?_ (by decide)
    have := List.length_filter_le p (xs.take i)
    rw [List.length_map]
    rw [List.length_take] at this
    omega) (fun i acc s' d hd q => by
    obtain ⟨rfl, rfl⟩ := q
    obtain ⟨σ', h1, h2, h3⟩ := step d (List.mem_of_getElem? hd)
    unfold tnL
    simp only [h1, h2, R.bind_ok]
    cases hp : p d with
    | true =>
      simp only [h3 hp, R.bind_ok, wp_ok]
      refine ⟨?_, trivial⟩
      rw [List.take_add_one, hd, List.filter_append, List.map_append]
      simp [hp]
    | false =>
      simp only [wp_ok]
      refine ⟨?_, trivial⟩
      rw [List.take_add_one, hd, List.filter_append, List.map_append]
      simp [hp]) w 0 [] s1 ⟨by simp, rfl⟩ (by omega) (by omega)
  obtain ⟨ds, s', q1, q2, q3⟩ := wp_out H
  rw [q1, q2, q3, List.take_length]
  rfl
theorem lc_map {f : CallT} {w : Nat} {e : C} {t : Tg} {it : C} {σ : Sl} {s s1 : S} {xs : List D} (g : D → D) (e0 : evI f w it σ s = .ok (.ds xs) s1) (hw : xs.length < w) (hz : xs.length < 1000000)
    (step : ∀ d ∈ xs, ∃ σ', t.set d σ = some σ' ∧ evE f w e σ' s1 = .ok (g d) s1) : evE f w (.lc e t it []) σ s = .ok (.ref s1.h.length) ⟨s1.h ++ [.list (xs.map g)], s1.k⟩ := by
  have := lc_sel (cs := []) (fun _ => true) g e0 hw hz fun d hd => by
    obtain ⟨σ', h1, h2⟩ := step d hd
    exact ⟨σ', h1, by simp only [evTs], fun _ => h2⟩
  rw [List.filter_eq_self.mpr fun _ _ => rfl] at this
  exact this
theorem ev_bim {f : CallT} {w : Nat} {b : Bi} {es : List C} {σ : Sl} {s : S} : evE f w (.bi b es) σ s = (evEs f w es σ s).bind fun ds s => biF b ds s := by simp only [evE]
theorem evs_nil {f : CallT} {w : Nat} {σ : Sl} {s : S} : evEs f w [] σ s = .ok [] s := by simp only [evEs]
theorem evs_cons {f : CallT} {w : Nat} {c : C} {cs : List C} {σ : Sl} {s : S} : evEs f w (c :: cs) σ s = (evE f w c σ s).bind fun x s => (evEs f w cs σ s).bind fun xs s => .ok (x :: xs) s := by simp only [evEs]
theorem bools_map {α : Type} (f : α → Bool) : ∀ l : List α, bools? (l.map fun x => .bl (f x)) = some (l.map f)
  | [] => rfl
  | x :: l => by simp [bools?, bools_map f l]
theorem ints_map {α : Type} (f : α → Int) : ∀ l : List α, ints? (l.map fun x => .int (f x)) = some (l.map f)
  | [] => rfl
  | x :: l => by simp [ints?, ints_map f l]
theorem ev_and2 {f : CallT} {w : Nat} {a b : C} {σ : Sl} {s : S} : evE f w (.and [a, b]) σ s = (evE f w a σ s).bind fun x s => boolD x s fun t => match t with
    | true => evE f w b σ s
    | false => .ok x s := by
  simp only [evE, evAnd]
  all_goals congr 1
theorem ev_or2 {f : CallT} {w : Nat} {a b : C} {σ : Sl} {s : S} : evE f w (.or [a, b]) σ s = (evE f w a σ s).bind fun x s => boolD x s fun t => match t with
    | true => .ok x s
    | false => evE f w b σ s := by
  simp only [evE, evOr]
  all_goals congr 1
theorem ev_notm {f : CallT} {w : Nat} {a : C} {σ : Sl} {s : S} : evE f w (.not a) σ s = (evE f w a σ s).bind fun x s => (testD x s).bind fun b s => .ok (.bl (!b)) s := by simp only [evE]
theorem ev_mem {f : CallT} {w : Nat} {m : Me} {o : C} {es : List C} {σ : Sl} {s : S} : evE f w (.me m o es) σ s = (evE f w o σ s).bind fun x s => match isL x s with
    | true => (evEs f w es σ s).bind fun ds s => meF m x ds s
    | false => .bad := by
  simp only [evE]
  all_goals congr 1
theorem ev_callm {f : CallT} {w k : Nat} {es : List C} {σ : Sl} {s : S} : evE f w (.call k es) σ s = (evEs f w es σ s).bind fun ds s => f k ds s := by simp only [evE]
theorem ev_locm {f : CallT} {w i : Nat} {σ : Sl} {s : S} {d : D} (h : σ[i]? = some (some d)) : evE f w (.loc i) σ s = .ok d s := by simp only [evE, h]
theorem ex_ifm {f : CallT} {w : Nat} {c : C} {a b : List T} {σ : Sl} {s : S} : exT f w (.ifs c a b) σ s = (evE f w c σ s).bind fun x s => (testD x s).bind fun t s => match t with
    | true => exTs f w a σ s
    | false => exTs f w b σ s := by
  simp only [exT]
  all_goals congr 1
theorem ex_exm {f : CallT} {w : Nat} {e : C} {σ : Sl} {s : S} : exT f w (.ex e) σ s = (evE f w e σ s).bind fun _ s => .ok (.nx, σ) s := by simp only [exT]
theorem exTs_one {f : CallT} {w : Nat} {t : T} {σ : Sl} {s : S} : (exTs f w [t] σ s) = exT f w t σ s := by
  simp only [exTs]
  cases exT f w t σ s with
  | ok p s1 => obtain ⟨fl, σ1⟩ := p; cases fl <;> rfl
  | exc _ _ => rfl
  | bad => rfl
theorem exTs_none {f : CallT} {w : Nat} {σ : Sl} {s : S} : exTs f w [] σ s = .ok (.nx, σ) s := by simp only [exTs]
theorem test_bl {b : Bool} {s : S} : testD (.bl b) s = .ok b s := rfl
/-! ### calls -/
theorem call_eq {Γ : List Fn} {w n k : Nat} {g : Fn} {ds : List D} {s : S} (h : Γ[k]? = some g) : callF Γ w (n + 1) k ds s = runB (callF Γ w n) w g ds s := by
  simp only [callF, h]
theorem runB_wp {f : CallT} {w : Nat} {g : Fn} {ds : List D} {s : S} {P : D → S → Prop} (hl : ds.length = g.np)
    (h : (exTs f w g.body (start g.nl ds) s).wp fun p s' => match p.1 with
      | .rt d => P d (gc s.h.length s.k d s')
      | .nx => P .non (gc s.h.length s.k .non s')
      | _ => False) : (runB f w g ds s).wp P := by
  unfold runB
  rw [if_pos hl]
  obtain ⟨⟨fl, σ⟩, s', q1, q2⟩ := wp_out h
  rw [q1]
  cases fl with
  | nx => exact q2
  | rt d => exact q2
  | bk => exact q2.elim
  | ct => exact q2.elim
theorem gc_pure {s s' : S} {d : D} {ex : List Ob} (h : s'.h = s.h ++ ex) (hk : s'.k = s.k) (ht : d.top ≤ s.h.length) : gc s.h.length s.k d s' = s := by
  unfold gc
  rw [if_pos ⟨ht, .inr hk⟩, h, hk]
  cases s
  simp
/-- the slots behind a match of the body's first statement -/
theorem exTs_cons {f : CallT} {w : Nat} {t : T} {r : List T} {σ : Sl} {s : S} {P : Fl × Sl → S → Prop} : (exTs f w (t :: r) σ s).wp P = (exT f w t σ s).wp fun p s' => match p with
    | (.nx, σ') => (exTs f w r σ' s').wp P
    | p => P p s' := by
  simp only [exTs, wp_bind]
  congr 1
  funext p s'
  obtain ⟨fl, σ'⟩ := p
  cases fl <;> rfl
theorem exTs_nil {f : CallT} {w : Nat} {σ : Sl} {s : S} {P : Fl × Sl → S → Prop} : (exTs f w [] σ s).wp P = P (.nx, σ) s := by simp only [exTs, wp_ok]
/-! ### a heap, more behind it -/
theorem get_at {h ex : List Ob} (i : Nat) : (h ++ ex)[h.length + i]? = ex[i]? := by
  rw [List.getElem?_append_right (by omega)]
  congr 1
  omega
theorem get_at0 {h ex : List Ob} : (h ++ ex)[h.length]? = ex[0]? := get_at 0
theorem set_at {h ex : List Ob} {o : Ob} (i : Nat) : (h ++ ex).set (h.length + i) o = h ++ ex.set i o := by
  rw [List.set_append, if_neg (by omega)]
  congr 2
  omega
theorem set_at0 {h ex : List Ob} {o : Ob} : (h ++ ex).set h.length o = h ++ ex.set 0 o := set_at 0
end Dv
end

section
/-! Dm2 -/
/-! Dm2: comparisons of plain data. -/
namespace Dv
open PySem PySem.Spec

section
variable {s : S} {a b : Int} {x y : Str}
theorem py_int : s.py (.int a) = some (.int a) := by simp [S.py, D.py]
theorem py_str : s.py (.str x) = some (.str x) := by simp [S.py, D.py]
theorem shaped_int : SeqAt.shaped (.int a) = true := by simp [SeqAt.shaped, PyData.canLay0, PyData.depth]
theorem shaped_str (h : PyData.strOk x = true) : SeqAt.shaped (.str x) = true := by simp [SeqAt.shaped, PyData.canLay0, PyData.depth, h]
theorem eq_int : eqD (.int a) (.int b) s = some (decide (a = b)) := by
  unfold eqD
  rw [py_int, py_int]
  simp only [shaped_int, and_self, if_true]
  simp [PyData.eqv]
  rfl
theorem lt_int : ltD (.int a) (.int b) s = some (decide (a < b)) := by
  unfold ltD
  rw [py_int, py_int]
  have h : PySem.W.alike (.int a) (.int b) = true := rfl
  simp only [shaped_int, h, nn, and_self, if_true, PySem.W.dataLt_int]
theorem eq_str (hx : PyData.strOk x = true) (hy : PyData.strOk y = true) : eqD (.str x) (.str y) s = some (decide (x = y)) := by
  unfold eqD
  rw [py_str, py_str]
  simp only [shaped_str hx, shaped_str hy, and_self, if_true]
  simp [PyData.eqv]
  rfl
theorem pys_ints {g : Nat → Option PyData} : ∀ ns : List Int, D.pys g (ns.map .int) = some (ns.map .int)
  | [] => by simp [D.pys]
  | n :: ns => by simp [D.pys, D.py, pys_ints ns]
theorem pys_strs {g : Nat → Option PyData} : ∀ xs : List Str, D.pys g (xs.map .str) = some (xs.map .str)
  | [] => by simp [D.pys]
  | x :: xs => by simp [D.pys, D.py, pys_strs xs]
theorem py_list {i : Nat} {xs : List D} {ps : List PyData} (h : s.h[i]? = some (.list xs)) (hp : D.pys (hpy s.h 4) xs = some ps) : s.py (.ref i) = some (.list ps) := by
  unfold S.py
  simp only [D.py]
  unfold hpy
  simp only [h, Ob.py, hp, Option.map]
theorem lay_ints : ∀ ns : List Int, PyData.canLayAll0 (ns.map .int) = true ∧ PyData.depthAll (ns.map .int) = 0
  | [] => ⟨by simp [PyData.canLayAll0], by simp [PyData.depthAll]⟩
  | n :: ns => by
    obtain ⟨h1, h2⟩ := lay_ints ns
    exact ⟨by simp [PyData.canLayAll0, PyData.canLay0, h1], by simp [PyData.depthAll, PyData.depth, h2]⟩
theorem shaped_ints (ns : List Int) : SeqAt.shaped (.list (ns.map .int)) = true := by
  obtain ⟨h1, h2⟩ := lay_ints ns
  simp [SeqAt.shaped, PyData.canLay0, PyData.depth, h1, h2]
/-- a list of ints against a new empty one -/
theorem ne_nil {i j : Nat} {ns : List Int} (hi : s.h[i]? = some (.list (ns.map .int))) (hj : s.h[j]? = some (.list [])) : cmpR .ne (.ref i) (.ref j) s = .ok (.bl (!ns.isEmpty)) s := by
  have p1 := py_list hi (pys_ints ns)
  have p2 := py_list hj (ps := []) (by simp [D.pys])
  have e : PyData.eqv (.list (ns.map .int)) (.list []) = ns.isEmpty := by
    cases ns with
    | nil => simp [PyData.eqv, PyData.eqvAll]
    | cons n ns => simp [PyData.eqv, PyData.eqvAll]
  have h0 : SeqAt.shaped (.list []) = true := shaped_ints []
  unfold cmpR cmpop eqD
  simp only [p1, p2, shaped_ints, h0, and_self, if_true, e, Option.map]
/-- an index within -/
theorem at_mod {xs : List D} {a : Int} (h : xs ≠ []) : L2.atI xs (a % xs.length) = xs[(a % xs.length).toNat]? := by
  have h1 : (0 : Int) < xs.length := by have := List.length_pos_iff.mpr h; omega
  have h2 := Int.emod_nonneg a (by omega : (xs.length : Int) ≠ 0)
  have h3 := Int.emod_lt_of_pos a h1
  unfold L2.atI L2.ixN
  rw [if_pos h2, if_pos h3]
  rfl
end
end Dv
end

section
/-! Dm3 -/
/-! Dm3: texts, tuples of texts, dicts of texts. -/
namespace Dv
open PySem PySem.Spec

abbrev sts (l : List Str) : List D := l.map .str
theorem top_sts : ∀ l : List Str, D.tops (sts l) = 0
  | [] => by simp [D.tops]
  | x :: l => by simp [D.tops, D.top, top_sts l]
/-- texts that a comparison takes -/
def Fine (P : List Str) : Prop := ∀ x ∈ P, PyData.strOk x = true
theorem lay_strs : ∀ {l : List Str}, Fine l → PyData.canLayAll0 (l.map .str) = true ∧ PyData.depthAll (l.map .str) = 0
  | [], _ => ⟨by simp [PyData.canLayAll0], by simp [PyData.depthAll]⟩
  | x :: l, h => by
    obtain ⟨h1, h2⟩ := lay_strs (l := l) fun y hy => h y (List.mem_cons_of_mem _ hy)
    exact ⟨by simp [PyData.canLayAll0, PyData.canLay0, h1, h x List.mem_cons_self], by simp [PyData.depthAll, PyData.depth, h2]⟩
theorem shaped_strs {l : List Str} (h : Fine l) : SeqAt.shaped (.list (l.map .str)) = true := by
  obtain ⟨h1, h2⟩ := lay_strs h
  simp [SeqAt.shaped, PyData.canLay0, PyData.depth, h1, h2]
theorem shaped_strsT {l : List Str} (h : Fine l) : SeqAt.shaped (.tuple (l.map .str)) = true := by
  obtain ⟨h1, h2⟩ := lay_strs h
  simp [SeqAt.shaped, PyData.canLay0, PyData.depth, h1, h2]
section
variable {s : S} {x : Str} {l : List Str}
theorem inAll_sts (hx : PyData.strOk x = true) (h : Fine l) : inAll (.str x) (l.map .str) = some (decide (x ∈ l)) := by
  unfold inAll
  rw [if_pos ⟨shaped_str hx, shaped_strs h⟩]
  congr 1
  rw [List.any_map]
  clear h
  induction l with
  | nil => rfl
  | cons y l ih =>
    rw [List.any_cons, ih]
    by_cases e : x = y
    · subst e; simp [PyData.eqv]
    · have : (y == x) = false := by simpa using fun h => e h.symm
      simp [PyData.eqv, this, e]
theorem in_tup (hx : PyData.strOk x = true) (h : Fine l) : inD (.str x) (.tup (sts l)) s = some (decide (x ∈ l)) := by
  unfold inD
  have p : s.pys (sts l) = some (l.map .str) := pys_strs l
  simp only [py_str, p]
  exact inAll_sts hx h
theorem in_list {j : Nat} (hj : s.h[j]? = some (.list (sts l))) (hx : PyData.strOk x = true) (h : Fine l) : inD (.str x) (.ref j) s = some (decide (x ∈ l)) := by
  unfold inD
  have p : s.pys (sts l) = some (l.map .str) := pys_strs l
  simp only [hj, py_str, p]
  exact inAll_sts hx h
/-- append -/
theorem app_ix {j : Nat} {xs : List D} {d : D} (hj : s.h[j]? = some (.list xs)) (hz : xs.length < 16777216) (ht : d.top ≤ j + 1) : appendF (.ref j) [d] s = .ok .non ⟨s.h.set j (.list (xs ++ [d])), s.k⟩ := by
  unfold appendF onList
  simp only [hj]
  rw [if_pos (Nat.lt_of_lt_of_le hz (by decide))]
  unfold S.put S.mark
  rw [if_pos ht]
end
/-! ### dicts of texts -/
def sd (ks vs : List Str) : List (Ke × D) := (ks.zip vs).map fun p => (.inr p.1, .str p.2)
theorem kget_sd : ∀ (ks vs : List Str) (x : Str), kget (sd ks vs) (.inr x) = ((ks.zip vs).lookup x).map .str
  | [], vs, x => by simp [sd, kget]
  | k :: ks, [], x => by simp [sd, kget]
  | k :: ks, v :: vs, x => by
    have ih := kget_sd ks vs x
    unfold sd kget at ih ⊢
    rw [List.zip_cons_cons, List.map_cons, List.find?_cons, List.lookup_cons]
    by_cases e : k = x
    · subst e
      simp
    · have h1 : decide ((Sum.inr k : Ke) = .inr x) = false := decide_eq_false fun h => e (Sum.inr.inj h)
      have h2 : (x == k) = false := by simpa using fun h => e h.symm
      rw [h1, h2]
      exact ih
theorem kput_sd {ks vs : List Str} {k v : Str} (hl : ks.length = vs.length) (nk : k ∉ ks) : kput (sd ks vs) (.inr k) (.str v) = sd (ks ++ [k]) (vs ++ [v]) := by
  unfold kput
  rw [if_neg]
  · unfold sd
    rw [List.zip_append hl, List.map_append]
    rfl
  · intro h
    obtain ⟨p, hp, e⟩ := List.any_eq_true.mp h
    obtain ⟨q, hq, rfl⟩ := List.mem_map.mp hp
    have e' := Sum.inr.inj (of_decide_eq_true e)
    exact nk (by rw [← e']; exact (List.of_mem_zip hq).1)
/-- pairs of texts -/
def pr (a b : Str) : D := .tup [.str a, .str b]
def prs (P S : List Str) : List D := (P.zip S).map fun p => pr p.1 p.2
theorem top_prs (P S : List Str) : D.tops (prs P S) = 0 := by
  unfold prs
  induction P.zip S with
  | nil => simp [D.tops]
  | cons p l ih => rw [List.map_cons, D.tops, ih]; simp [pr, D.top, D.tops]
theorem prs_get {P S : List Str} {i : Nat} {d : D} (h : (prs P S)[i]? = some d) : ∃ a b, P[i]? = some a ∧ S[i]? = some b ∧ d = pr a b := by
  unfold prs at h
  rw [List.getElem?_map] at h
  cases e : (P.zip S)[i]? with
  | none => rw [e] at h; cases h
  | some p =>
    rw [e] at h
    cases h
    rw [List.getElem?_zip_eq_some] at e
    exact ⟨p.1, p.2, e.1, e.2, rfl⟩
end Dv
end

section
/-! Dm4 -/
/-! Dm4: sorted, of what is sorted. -/
namespace Dv
open PySem PySem.Spec PySem.W

/-- texts that ascend -/
def Asc (P : List Str) : Prop := P.Pairwise fun a b => a.cps.toList < b.cps.toList
theorem Asc.nodup {P : List Str} (h : Asc P) : P.Nodup := List.Pairwise.imp (fun {a b} h e => by subst e; exact List.lt_irrefl _ h) h
theorem sortable_sts {P : List Str} (h : Fine P) : sortable (P.map .str) = true := by
  unfold sortable
  simp only [Bool.and_eq_true, Bool.or_eq_true]
  refine ⟨⟨?_, .inr ?_⟩, ?_⟩
  · refine List.all_eq_true.mpr fun a ha => List.all_eq_true.mpr fun b hb => ?_
    obtain ⟨x, _, rfl⟩ := List.mem_map.mp ha
    obtain ⟨y, _, rfl⟩ := List.mem_map.mp hb
    simp [PySem.W.alike]
  · refine List.all_eq_true.mpr fun a ha => ?_
    obtain ⟨x, _, rfl⟩ := List.mem_map.mp ha
    rfl
  · refine List.all_eq_true.mpr fun a ha => ?_
    obtain ⟨x, hx, rfl⟩ := List.mem_map.mp ha
    exact shaped_str (h x hx)
theorem sort_sts {P : List Str} {s : S} (h : Fine P) (ha : Asc P) : sortDs (sts P) s = some (sts P) := by
  unfold sortDs
  have p : s.pys (sts P) = some (P.map .str) := pys_strs P
  simp only [p]
  rw [if_pos (sortable_sts h), List.mergeSort_of_pairwise]
  · rw [List.map_fst_zip (by simp)]
  · rw [List.zip_map']
    rw [List.pairwise_map]
    refine List.Pairwise.imp (fun {a b} hab => ?_) ha
    show (!PySem.W.dataLt (.str b) (.str a)) = true
    rw [PySem.W.dataLt_str, PySem.W.not_lt_str]
    exact decide_eq_true (List.le_of_lt hab)
theorem keys_sd {ks vs : List Str} (hl : ks.length = vs.length) : (sd ks vs).map (fun p => keyD p.1) = sts ks := by
  unfold sd
  rw [List.map_map]
  show ((ks.zip vs).map fun p => D.str p.1) = _
  rw [show (fun p : Str × Str => D.str p.1) = D.str ∘ Prod.fst from rfl, ← List.map_map, List.map_fst_zip (by omega)]
/-- short texts -/
def Brief (l : List Str) : Prop := ∀ x ∈ l, x.length ≤ 64
theorem keySz_sd {ks vs : List Str} (h : Brief ks) : ((sd ks vs).all fun p => keySz p.1) = true := by
  refine List.all_eq_true.mpr fun p hp => ?_
  obtain ⟨q, hq, rfl⟩ := List.mem_map.mp hp
  have := h _ (List.of_mem_zip hq).1
  exact decide_eq_true (by omega)
theorem sorted_sd {s : S} {j : Nat} {ks vs : List Str} (hj : s.h[j]? = some (.dict (sd ks vs))) (hl : ks.length = vs.length) (b : Brief ks) (f : Fine ks) (a : Asc ks) : biF .sorted [.ref j] s = .ok (.ref s.h.length) ⟨s.h ++ [.list (sts ks)], s.k⟩ := by
  show sortedF [.ref j] s = _
  unfold sortedF items
  simp only [hj, keySz_sd b, if_true, keys_sd hl, sort_sts f a]
  rfl
/-! rows of texts -/
def Heads (F : List (List Str)) : Prop := F.Pairwise fun r r' => ∃ a b t t', r = a :: t ∧ r' = b :: t' ∧ a.cps.toList < b.cps.toList
def rgs (F : List (List Str)) : List D := F.map fun r => .tup (sts r)
theorem top_rgs (F : List (List Str)) : D.tops (rgs F) = 0 := by
  unfold rgs
  induction F with
  | nil => simp [D.tops]
  | cons r F ih => rw [List.map_cons, D.tops, ih, D.top, top_sts]; rfl
def rpy (F : List (List Str)) : List PyData := F.map fun r => .tuple (r.map .str)
theorem pys_rgs {g : Nat → Option PyData} : ∀ F : List (List Str), D.pys g (rgs F) = some (rpy F)
  | [] => by simp [rgs, rpy, D.pys]
  | r :: F => by
    have ih := pys_rgs (g := g) F
    unfold rgs rpy at ih ⊢
    rw [List.map_cons, List.map_cons]
    unfold D.pys
    rw [ih, D.py, pys_strs]
    rfl
theorem alike_strs : ∀ a b : List Str, PySem.W.alikeAll (a.map .str) (b.map .str) = true
  | [], _ => by simp [PySem.W.alikeAll]
  | _ :: _, [] => by simp [PySem.W.alikeAll]
  | x :: a, y :: b => by simp [PySem.W.alikeAll, PySem.W.alike, alike_strs a b]
theorem sortable_rgs {F : List (List Str)} (h : ∀ r ∈ F, Fine r) (ne : ∀ r ∈ F, r ≠ []) : sortable (rpy F) = true := by
  unfold sortable
  simp only [Bool.and_eq_true, Bool.or_eq_true]
  refine ⟨⟨?_, .inl ?_⟩, ?_⟩
  · refine List.all_eq_true.mpr fun a ha => List.all_eq_true.mpr fun b hb => ?_
    obtain ⟨x, _, rfl⟩ := List.mem_map.mp ha
    obtain ⟨y, _, rfl⟩ := List.mem_map.mp hb
    simp [PySem.W.alike, alike_strs]
  · refine List.all_eq_true.mpr fun a ha => ?_
    obtain ⟨x, hx, rfl⟩ := List.mem_map.mp ha
    cases x with
    | nil => exact absurd rfl (ne _ hx)
    | cons y x => rfl
  · refine List.all_eq_true.mpr fun a ha => ?_
    obtain ⟨x, hx, rfl⟩ := List.mem_map.mp ha
    exact shaped_strsT (h x hx)
theorem sort_rgs {F : List (List Str)} {s : S} (h : ∀ r ∈ F, Fine r) (ne : ∀ r ∈ F, r ≠ []) (ha : Heads F) : sortDs (rgs F) s = some (rgs F) := by
  unfold sortDs
  have p : s.pys (rgs F) = some (rpy F) := pys_rgs F
  simp only [p]
  rw [if_pos (sortable_rgs h ne), List.mergeSort_of_pairwise]
  · rw [List.map_fst_zip (by simp [rgs, rpy])]
  · unfold rgs rpy
    rw [List.zip_map']
    rw [List.pairwise_map]
    refine List.Pairwise.imp (fun {r r'} hab => ?_) ha
    obtain ⟨a, b, t, t', rfl, rfl, hlt⟩ := hab
    show (!PySem.W.dataLt (.tuple ((b :: t').map .str)) (.tuple ((a :: t).map .str))) = true
    rw [PySem.W.dataLt_tuple, List.map_cons, List.map_cons, PySem.W.dataLt_cons (by simp [PySem.W.alike])]
    have ne : PyData.eqv (.str b) (.str a) = false := by
      have : ¬ b = a := fun e => by subst e; exact List.lt_irrefl _ hlt
      simpa [PyData.eqv] using this
    rw [ne, if_neg Bool.false_ne_true, PySem.W.dataLt_str, PySem.W.not_lt_str]
    exact decide_eq_true (List.le_of_lt hlt)
/-! ### more steps by name -/
theorem gc_same {s' : S} {n k : Nat} {d : D} (h : s'.h.length = n) : gc n k d s' = s' := by
  unfold gc
  split
  · subst h
    cases s'
    simp
  · rfl
theorem ev_ixm {f : CallT} {w : Nat} {a b : C} {σ : Sl} {s : S} : evE f w (.ix a b) σ s = (evE f w a σ s).bind fun x s => (evE f w b σ s).bind fun y s => idxR x y s := by simp only [evE]
theorem ex_retm {f : CallT} {w : Nat} {e : C} {σ : Sl} {s : S} : exT f w (.ret e) σ s = (evE f w e σ s).bind fun d s => .ok (.rt d, σ) s := by simp only [exT]
theorem at_nat {xs : List D} {r : Int} (h1 : 0 ≤ r) (h2 : r < xs.length) : ∃ d, L2.atI xs r = some d ∧ d ∈ xs := by
  have hr : r.toNat < xs.length := by omega
  refine ⟨xs[r.toNat], ?_, List.getElem_mem hr⟩
  unfold L2.atI L2.ixN
  rw [if_pos h1, if_pos h2]
  show xs[r.toNat]? = _
  exact List.getElem?_eq_getElem hr
end Dv
end

section
/-! Vm1 -/
/-! Vm1: plain values as data: equality, repr. -/
namespace Dv
open PySem PySem.W

mutual
def Va.pd : Va → PyData
  | .bl b => .bool b
  | .int i => .int i
  | .str s => .str s
  | .tup xs => .tuple (Va.pds xs)
  | .list xs => .list (Va.pds xs)
  | _ => .none
def Va.pds : List Va → List PyData
  | [] => []
  | x :: r => x.pd :: Va.pds r
end
mutual
/-- data of at most n storeys; b: truth values too -/
def Va.nice (b : Bool) : Va → Nat → Bool
  | .non, _ => true
  | .bl _, _ => b
  | .int i, _ => decide (i.natAbs < 10 ^ 90)
  | .str s, _ => PyData.strOk s
  | .tup _, 0 => false
  | .tup xs, n + 1 => Va.nices b xs n
  | .list _, 0 => false
  | .list xs, n + 1 => Va.nices b xs n
  | _, _ => false
def Va.nices (b : Bool) : List Va → Nat → Bool
  | [], _ => true
  | x :: r, n => x.nice b n && Va.nices b r n
end
theorem nices_iff {b : Bool} {n : Nat} : ∀ {l : List Va}, Va.nices b l n = true ↔ ∀ x ∈ l, x.nice b n = true
  | [] => by simp [Va.nices]
  | x :: l => by simp [Va.nices, nices_iff (l := l)]
theorem pds_map : ∀ (l : List Va), Va.pds l = l.map Va.pd
  | [] => rfl
  | x :: l => by simp [Va.pds, pds_map l]
mutual
theorem Va.nice_up {b : Bool} : ∀ {v : Va} {n m : Nat}, v.nice b n = true → n ≤ m → v.nice b m = true
  | .non, n, m, h, hm => by simp [Va.nice]
  | .bl _, n, m, h, hm => by simpa [Va.nice] using h
  | .int i, n, m, h, hm => by simpa [Va.nice] using h
  | .str s, n, m, h, hm => by simpa [Va.nice] using h
  | .tup xs, 0, m, h, hm => by simp [Va.nice] at h
  | .tup xs, n + 1, 0, h, hm => by omega
  | .tup xs, n + 1, m + 1, h, hm => by rw [Va.nice] at h ⊢; exact Va.nices_up h (by omega)
  | .list xs, 0, m, h, hm => by simp [Va.nice] at h
  | .list xs, n + 1, 0, h, hm => by omega
  | .list xs, n + 1, m + 1, h, hm => by rw [Va.nice] at h ⊢; exact Va.nices_up h (by omega)
  | .dict _, n, m, h, hm => by simp [Va.nice] at h
  | .fn _, n, m, h, hm => by simp [Va.nice] at h
  | .ro _, n, m, h, hm => by simp [Va.nice] at h
theorem Va.nices_up {b : Bool} : ∀ {v : List Va} {n m : Nat}, Va.nices b v n = true → n ≤ m → Va.nices b v m = true
  | [], n, m, h, hm => by simp [Va.nices]
  | x :: r, n, m, h, hm => by
    rw [Va.nices, Bool.and_eq_true] at h ⊢
    exact ⟨Va.nice_up h.1 hm, Va.nices_up h.2 hm⟩
end
mutual
theorem Va.nice_t {v : Va} {n : Nat} : v.nice false n = true → v.nice true n = true := by
  intro h
  match v, n, h with
  | .non, n, h => simp [Va.nice]
  | .bl _, n, h => simp [Va.nice] at h
  | .int i, n, h => simpa [Va.nice] using h
  | .str s, n, h => simpa [Va.nice] using h
  | .tup xs, 0, h => simp [Va.nice] at h
  | .tup xs, n + 1, h => rw [Va.nice] at h ⊢; exact Va.nices_t h
  | .list xs, 0, h => simp [Va.nice] at h
  | .list xs, n + 1, h => rw [Va.nice] at h ⊢; exact Va.nices_t h
  | .dict _, n, h => simp [Va.nice] at h
  | .fn _, n, h => simp [Va.nice] at h
  | .ro _, n, h => simp [Va.nice] at h
theorem Va.nices_t {v : List Va} {n : Nat} : Va.nices false v n = true → Va.nices true v n = true := by
  intro h
  match v, h with
  | [], h => simp [Va.nices]
  | x :: r, h =>
    rw [Va.nices, Bool.and_eq_true] at h ⊢
    exact ⟨Va.nice_t h.1, Va.nices_t h.2⟩
end
mutual
theorem nice_py {b : Bool} : ∀ {v : Va} {n m : Nat}, v.nice b n = true → n ≤ m → v.py m = some v.pd
  | .non, n, m, h, hm => by simp [Va.py, Va.pd]
  | .bl _, n, m, h, hm => by simp [Va.py, Va.pd]
  | .int i, n, m, h, hm => by simp [Va.py, Va.pd]
  | .str s, n, m, h, hm => by simp [Va.py, Va.pd]
  | .tup xs, 0, m, h, hm => by simp [Va.nice] at h
  | .tup xs, n + 1, m, h, hm => by rw [Va.nice] at h; simp [Va.py, Va.pd, nices_py h (m := m) (by omega)]
  | .list xs, 0, m, h, hm => by simp [Va.nice] at h
  | .list xs, n + 1, 0, h, hm => by omega
  | .list xs, n + 1, m + 1, h, hm => by rw [Va.nice] at h; simp [Va.py, Va.pd, nices_py h (m := m) (by omega)]
  | .dict _, n, m, h, hm => by simp [Va.nice] at h
  | .fn _, n, m, h, hm => by simp [Va.nice] at h
  | .ro _, n, m, h, hm => by simp [Va.nice] at h
theorem nices_py {b : Bool} : ∀ {v : List Va} {n m : Nat}, Va.nices b v n = true → n ≤ m → Va.pys v m = some (Va.pds v)
  | [], n, m, h, hm => by simp [Va.pys, Va.pds]
  | x :: r, n, m, h, hm => by
    rw [Va.nices, Bool.and_eq_true] at h
    simp [Va.pys, Va.pds, nice_py h.1 hm, nices_py h.2 hm]
end
theorem int_len {i : Int} (h : i.natAbs < 10 ^ 90) : (PyData.shown (.int i)).length ≤ 100 := by
  have h1 := int_text_length_le10 (a := i) (k := 90) (by decide) h
  have : (PyData.shown (.int i)).length = (toString i).length := ofString_length _
  omega
theorem int_log {n : Nat} (h : n < 10 ^ 90) : n.log2 < 1920 := by
  by_cases e : n = 0
  · subst e; decide
  · rw [Nat.log2_lt e]
    exact Nat.lt_trans h (by decide)
mutual
theorem nice_facts {b : Bool} : ∀ {v : Va} {n : Nat}, v.nice b n = true → v.pd.canLay0 = true ∧ v.pd.depth ≤ n ∧ v.pd.showable = true ∧ v.pd.leavesShort 100 = true
  | .non, n, h => by simp [Va.pd, PyData.canLay0, PyData.depth, PyData.showable, PyData.leavesShort]
  | .bl _, n, h => by simp [Va.pd, PyData.canLay0, PyData.depth, PyData.showable, PyData.leavesShort]
  | .int i, n, h => by
    have h : i.natAbs < 10 ^ 90 := by simpa only [Va.nice, decide_eq_true_eq] using h
    refine ⟨by simp [Va.pd, PyData.canLay0], by simp [Va.pd, PyData.depth], ?_, ?_⟩
    · simp only [Va.pd, PyData.showable, decide_eq_true_eq]; exact int_log h
    · simp only [Va.pd, PyData.leavesShort, decide_eq_true_eq]; exact int_len h
  | .str s, n, h => by
    have h : PyData.strOk s = true := by simpa [Va.nice] using h
    refine ⟨by simp [Va.pd, PyData.canLay0, h], by simp [Va.pd, PyData.depth], by simp [Va.pd, PyData.showable], ?_⟩
    simp only [Va.pd, PyData.leavesShort]
    unfold PyData.strOk at h
    refine List.all_eq_true.mpr fun c hc => decide_eq_true ?_
    have := (Array.all_eq_true_iff_forall_mem.mp h) c (by simpa using hc)
    have := of_decide_eq_true this
    omega
  | .tup xs, 0, h => by simp [Va.nice] at h
  | .tup xs, n + 1, h => by
    rw [Va.nice] at h
    obtain ⟨h1, h2, h3, h4⟩ := nices_facts h
    simp only [Va.pd, PyData.canLay0, PyData.depth, PyData.showable, PyData.leavesShort]
    exact ⟨h1, by omega, h3, h4⟩
  | .list xs, 0, h => by simp [Va.nice] at h
  | .list xs, n + 1, h => by
    rw [Va.nice] at h
    obtain ⟨h1, h2, h3, h4⟩ := nices_facts h
    simp only [Va.pd, PyData.canLay0, PyData.depth, PyData.showable, PyData.leavesShort]
    exact ⟨h1, by omega, h3, h4⟩
  | .dict _, n, h => by simp [Va.nice] at h
  | .fn _, n, h => by simp [Va.nice] at h
  | .ro _, n, h => by simp [Va.nice] at h
theorem nices_facts {b : Bool} : ∀ {v : List Va} {n : Nat}, Va.nices b v n = true → PyData.canLayAll0 (Va.pds v) = true ∧ PyData.depthAll (Va.pds v) ≤ n ∧ PyData.showableAll (Va.pds v) = true ∧ PyData.leavesShortAll 100 (Va.pds v) = true
  | [], n, h => by simp [Va.pds, PyData.canLayAll0, PyData.depthAll, PyData.showableAll, PyData.leavesShortAll]
  | x :: r, n, h => by
    rw [Va.nices, Bool.and_eq_true] at h
    obtain ⟨h1, h2, h3, h4⟩ := nice_facts h.1
    obtain ⟨r1, r2, r3, r4⟩ := nices_facts h.2
    simp only [Va.pds, PyData.canLayAll0, PyData.depthAll, PyData.showableAll, PyData.leavesShortAll, Bool.and_eq_true]
    exact ⟨⟨h1, r1⟩, by omega, ⟨h3, r3⟩, h4, r4⟩
end
theorem nice_shaped {b : Bool} {v : Va} {n : Nat} (h : v.nice b n = true) (hn : n ≤ 60) : SeqAt.shaped v.pd = true := by
  obtain ⟨h1, h2, _⟩ := nice_facts h
  unfold SeqAt.shaped
  rw [h1]
  exact decide_eq_true (by omega)
mutual
theorem eqv_nice : ∀ {v w : Va} {n m : Nat}, v.nice false n = true → w.nice false m = true → (PyData.eqv v.pd w.pd = true ↔ v = w)
  | .non, w, n, m, h, h' => by cases w <;> first | (simp [Va.nice] at h'; done) | simp [Va.pd, PyData.eqv]
  | .bl _, w, n, m, h, h' => by simp [Va.nice] at h
  | .int i, w, n, m, h, h' => by cases w <;> first | (simp [Va.nice] at h'; done) | simp [Va.pd, PyData.eqv]
  | .str s, w, n, m, h, h' => by cases w <;> first | (simp [Va.nice] at h'; done) | simp [Va.pd, PyData.eqv]
  | .tup xs, w, 0, m, h, h' => by simp [Va.nice] at h
  | .tup xs, w, n + 1, m, h, h' => by
    rw [Va.nice] at h
    cases w with
    | tup ys =>
      cases m with
      | zero => simp [Va.nice] at h'
      | succ m =>
        rw [Va.nice] at h'
        simp [Va.pd, PyData.eqv, eqvs_nice h h']
    | _ => first | (simp [Va.nice] at h'; done) | simp [Va.pd, PyData.eqv]
  | .list xs, w, 0, m, h, h' => by simp [Va.nice] at h
  | .list xs, w, n + 1, m, h, h' => by
    rw [Va.nice] at h
    cases w with
    | list ys =>
      cases m with
      | zero => simp [Va.nice] at h'
      | succ m =>
        rw [Va.nice] at h'
        simp [Va.pd, PyData.eqv, eqvs_nice h h']
    | _ => first | (simp [Va.nice] at h'; done) | simp [Va.pd, PyData.eqv]
  | .dict _, w, n, m, h, h' => by simp [Va.nice] at h
  | .fn _, w, n, m, h, h' => by simp [Va.nice] at h
  | .ro _, w, n, m, h, h' => by simp [Va.nice] at h
theorem eqvs_nice : ∀ {v w : List Va} {n m : Nat}, Va.nices false v n = true → Va.nices false w m = true → (PyData.eqvAll (Va.pds v) (Va.pds w) = true ↔ v = w)
  | [], [], n, m, h, h' => by simp [Va.pds, PyData.eqvAll]
  | [], _ :: _, n, m, h, h' => by simp [Va.pds, PyData.eqvAll]
  | _ :: _, [], n, m, h, h' => by simp [Va.pds, PyData.eqvAll]
  | x :: xs, y :: ys, n, m, h, h' => by
    rw [Va.nices, Bool.and_eq_true] at h h'
    simp [Va.pds, PyData.eqvAll, eqv_nice h.1 h'.1, eqvs_nice h.2 h'.2]
end
section
open Classical
variable {v w : Va} {n m : Nat} {b c : Bool}
theorem veq_nice (h : v.nice false 5 = true) (h' : w.nice false 5 = true) : veq v w = some (decide (v = w)) := by
  unfold veq
  rw [nice_py h (Nat.le_refl _), nice_py h' (Nat.le_refl _)]
  simp only [nice_shaped h (by decide), nice_shaped h' (by decide), and_self, if_true, Option.some.injEq]
  rw [Bool.eq_iff_iff, eqv_nice h h', decide_eq_true_iff]
theorem veq_self (h : v.nice b 5 = true) : veq v v = some true := by
  unfold veq
  rw [nice_py h (Nat.le_refl _)]
  simp only [nice_shaped h (by decide), and_self, if_true, Option.some.injEq]
  exact SeqAt.eqv_refl _ (nice_facts h).1
theorem inAll_nice {ws : List Va} (h : v.nice false 5 = true) (h' : Va.nices false ws 5 = true) : inAll v.pd (Va.pds ws) = some (decide (v ∈ ws)) := by
  unfold inAll
  have hs : SeqAt.shaped (.list (Va.pds ws)) = true := nice_shaped (v := .list ws) (b := false) (n := 6) (by rw [Va.nice]; exact h') (by decide)
  rw [if_pos ⟨nice_shaped h (by decide), hs⟩, pds_map, List.any_map]
  congr 1
  rw [Bool.eq_iff_iff, List.any_eq_true, decide_eq_true_iff]
  constructor
  · rintro ⟨z, hz, e⟩
    have := (eqv_nice (nices_iff.mp h' z hz) h).mp e
    rw [← this]
    exact hz
  · exact fun hz => ⟨v, hz, (eqv_nice h h).mpr rfl⟩
theorem vin_tup {ws : List Va} (h : v.nice false 5 = true) (h' : Va.nices false ws 5 = true) : vin v (.tup ws) = some (decide (v ∈ ws)) := by
  simp only [vin, nice_py h (Nat.le_refl _), nices_py h' (Nat.le_refl _), inAll_nice h h']
theorem vin_list {ws : List Va} (h : v.nice false 5 = true) (h' : Va.nices false ws 5 = true) : vin v (.list ws) = some (decide (v ∈ ws)) := by
  simp only [vin, nice_py h (Nat.le_refl _), nices_py h' (Nat.le_refl _), inAll_nice h h']
end
/-- the text that repr gives -/
def Va.rep (v : Va) : Str := v.pd.shown
def Va.wt (v : Va) : Nat := v.pd.weight
theorem vrepr_nice {v : Va} {b : Bool} (h : v.nice b 5 = true) (hw : v.wt ≤ 160000) : vrepr [v] = some (.str v.rep) := by
  obtain ⟨_, h2, h3, h4⟩ := nice_facts h
  have h5 := PyData.shown_le 100 (by decide) v.pd h4
  unfold Va.wt at hw
  simp only [vrepr, nice_py h (Nat.le_refl _)]
  have h6 : v.pd.shown.length ≤ sizeLine := by
    have : (100 + 2) * v.pd.weight ≤ 102 * 160000 := Nat.mul_le_mul_left _ hw
    rw [sizeLine_eq]
    omega
  rw [if_pos ⟨h3, h6, by omega⟩]
  rfl
def wts (l : List Va) : Nat := (l.map fun x => x.wt + 1).sum
theorem weight_pds : ∀ l : List Va, PyData.weightAll (Va.pds l) = wts l
  | [] => rfl
  | x :: l => by
    simp only [Va.pds, PyData.weightAll, weight_pds l, wts, List.map_cons, List.sum_cons]
    rfl
@[simp] theorem wt_tup (l : List Va) : (Va.tup l).wt = wts l := by
  show PyData.weight (.tuple (Va.pds l)) = _
  rw [PyData.weight, weight_pds]
@[simp] theorem wt_list (l : List Va) : (Va.list l).wt = wts l := by
  show PyData.weight (.list (Va.pds l)) = _
  rw [PyData.weight, weight_pds]
@[simp] theorem wt_str (s : Str) : (Va.str s).wt = s.length := by
  show PyData.weight (.str s) = _
  rw [PyData.weight]
  rfl
@[simp] theorem wt_non : Va.non.wt = 0 := by
  show PyData.weight .none = _
  rw [PyData.weight]
@[simp] theorem wt_bl (b : Bool) : (Va.bl b).wt = 0 := by
  show PyData.weight (.bool b) = _
  rw [PyData.weight]
theorem wt_int {i : Int} (h : i.natAbs < 2 ^ 64) : (Va.int i).wt ≤ 64 := by
  show PyData.weight (.int i) ≤ _
  rw [PyData.weight]
  split
  · omega
  · have : i.natAbs ≠ 0 := by rename_i h; simpa using h
    have := (Nat.log2_lt this).mpr h
    omega
@[simp] theorem wts_nil : wts [] = 0 := rfl
@[simp] theorem wts_cons (x : Va) (l : List Va) : wts (x :: l) = x.wt + 1 + wts l := by simp [wts]
@[simp] theorem wts_append (l m : List Va) : wts (l ++ m) = wts l + wts m := by simp [wts]
theorem wts_le {l : List Va} {k : Nat} (h : ∀ x ∈ l, x.wt ≤ k) : wts l ≤ l.length * (k + 1) := by
  induction l with
  | nil => simp
  | cons x l ih =>
    have h1 := ih fun y hy => h y (List.mem_cons_of_mem _ hy)
    have h2 := h x List.mem_cons_self
    rw [wts_cons, List.length_cons, Nat.succ_mul]
    omega
end Dv
end

section
/-! Vm2 -/
/-! Vm2: how a text of plain values is stepped through. -/
namespace Dv
open PySem PySem.W

def VR.wp {α : Type} (r : VR α) (P : α → Ev → Prop) : Prop := match r with
  | .ok a ρ => P a ρ
  | _ => False
section
variable {α β : Type}
@[simp] theorem vp_ok {a : α} {ρ : Ev} {P : α → Ev → Prop} : (VR.ok a ρ).wp P = P a ρ := rfl
@[simp] theorem vp_bad {P : α → Ev → Prop} : (VR.bad : VR α).wp P = False := rfl
@[simp] theorem vp_exc {e : VEx} {ρ : Ev} {P : α → Ev → Prop} : (VR.exc e ρ : VR α).wp P = False := rfl
theorem vp_bind {r : VR α} {f : α → Ev → VR β} {P : β → Ev → Prop} : (r.bind f).wp P = r.wp fun a ρ => (f a ρ).wp P := by cases r <;> rfl
theorem vp_mono {r : VR α} {P Q : α → Ev → Prop} (h : r.wp P) (i : ∀ a ρ, P a ρ → Q a ρ) : r.wp Q := by
  cases r with
  | ok a ρ => exact i a ρ h
  | exc _ _ => exact h
  | bad => exact h
theorem vp_out {r : VR α} {P : α → Ev → Prop} (h : r.wp P) : ∃ a ρ, r = .ok a ρ ∧ P a ρ := by
  cases r with
  | ok a ρ => exact ⟨a, ρ, rfl, h⟩
  | exc _ _ => exact h.elim
  | bad => exact h.elim
theorem vp_eq {r : VR α} {a : α} {ρ : Ev} {P : α → Ev → Prop} (h : r = .ok a ρ) (p : P a ρ) : r.wp P := by rw [h]; exact p
end
/-! ### calls -/
theorem callV_eq {Γ : List Fn} {I : List Fi} {w n k : Nat} {g : Fn} {i : Fi} {vs : List Va} (h : Γ[k]? = some g) (h' : I[k]? = some i) : callV Γ I w (n + 1) k vs = runV (callV Γ I w n) (ioOf I) w g i vs := by
  simp only [callV, h, h']
/-- a body that hands back -/
theorem run_rt {f : VCall} {io : Nat → List Nat} {w : Nat} {g : Fn} {i : Fi} {vs : List Va} {v : Va} {ρ : Ev} (hl : vs.length = g.np) (h : vXs f io w g.body (vstart g.nl vs) = .ok (.rt v) ρ) : runV f io w g i vs = vend i v ρ := by
  unfold runV
  rw [if_pos hl, h]
theorem run_wp {f : VCall} {io : Nat → List Nat} {w : Nat} {g : Fn} {i : Fi} {vs : List Va} {P : Va → Ev → Prop} (hl : vs.length = g.np) (h : (vXs f io w g.body (vstart g.nl vs)).wp fun fl ρ => ∃ v, fl = .rt v ∧ P v ρ) : ∃ v ρ, runV f io w g i vs = vend i v ρ ∧ P v ρ := by
  obtain ⟨fl, ρ, e, v, rfl, p⟩ := vp_out h
  exact ⟨v, ρ, run_rt hl e, p⟩
theorem vend_flat {i : Fi} {v : Va} {ρ : Ev} (hi : i.io = []) (h : i.flat = false ∨ v.flat = true) : vend i v ρ = .ok v [] := by
  unfold vend
  rw [if_pos h, hi]
  rfl
/-! ### statements -/
section
variable {f : VCall} {io : Nat → List Nat} {w : Nat} {ρ ρ' : Ev}
theorem xs_nil : vXs f io w [] ρ = .ok .nx ρ := by simp only [vXs]
theorem xs_nx {t : T} {r : List T} (h : vX f io w t ρ = .ok .nx ρ') : vXs f io w (t :: r) ρ = vXs f io w r ρ' := by
  simp only [vXs, h, VR.bind_ok]
theorem xs_rt {t : T} {r : List T} {v : Va} (h : vX f io w t ρ = .ok (.rt v) ρ') : vXs f io w (t :: r) ρ = .ok (.rt v) ρ' := by
  simp only [vXs, h, VR.bind_ok]
theorem xs_wp {t : T} {r : List T} {P : VFl → Ev → Prop} (h : (vX f io w t ρ).wp fun fl ρ' => fl = .nx ∧ (vXs f io w r ρ').wp P) : (vXs f io w (t :: r) ρ).wp P := by
  simp only [vXs, vp_bind]
  refine vp_mono h fun fl ρ' q => ?_
  obtain ⟨rfl, q⟩ := q
  exact q
theorem xs_one {t : T} : vXs f io w [t] ρ = vX f io w t ρ := by
  simp only [vXs]
  cases vX f io w t ρ with
  | ok fl ρ => cases fl <;> rfl
  | exc _ _ => rfl
  | bad => rfl
theorem xs_cons {t : T} {r : List T} : vXs f io w (t :: r) ρ = (vX f io w t ρ).bind fun fl ρ => match fl with
    | .nx => vXs f io w r ρ
    | fl => .ok fl ρ := by
  simp only [vXs]
  all_goals rfl
/-! expressions, by their kinds -/
@[simp] theorem e_loc' {i : Nat} : vE f io w (.loc i) ρ = match ρ[i]? with
    | some (some d) => .ok d ρ
    | _ => .bad := by
  simp only [vE]
  all_goals rfl
theorem e_loc {i : Nat} {v : Va} (h : ρ[i]? = some (some v)) : vE f io w (.loc i) ρ = .ok v ρ := by simp only [vE, h]
@[simp] theorem e_cst {d : D} : vE f io w (.cst d) ρ = VR.of d.va ρ := by simp only [vE]
@[simp] theorem e_tup {es : List C} : vE f io w (.tup es) ρ = (vEs f io w es ρ).bind fun ds ρ => .ok (.tup ds) ρ := by simp only [vE]
@[simp] theorem e_lst {es : List C} : vE f io w (.lst es) ρ = (vEs f io w es ρ).bind fun ds ρ => .ok (.list ds) ρ := by simp only [vE]
@[simp] theorem e_dct {ks : List Ke} {es : List C} : vE f io w (.dct ks es) ρ = (vEs f io w es ρ).bind fun ds ρ => if ks.length = ds.length ∧ ks.length ≤ 15 ∧ ks.Nodup then .ok (.dict (ks.zip ds)) ρ else .bad := by simp only [vE]
@[simp] theorem e_bin {o : BO} {a b : C} : vE f io w (.bin o a b) ρ = (vE f io w a ρ).bind fun x ρ => (vE f io w b ρ).bind fun y ρ => VR.of (vbin o x y) ρ := by simp only [vE]
@[simp] theorem e_neg {a : C} : vE f io w (.neg a) ρ = (vE f io w a ρ).bind fun x ρ => match x with
    | .int i => .ok (.int (-i)) ρ
    | _ => .bad := by
  simp only [vE]
  all_goals rfl
@[simp] theorem e_not {a : C} : vE f io w (.not a) ρ = (vE f io w a ρ).bind fun x ρ => (vtest x ρ).bind fun b ρ => .ok (.bl (!b)) ρ := by simp only [vE]
@[simp] theorem e_and1 {a : C} : vE f io w (.and [a]) ρ = vE f io w a ρ := by simp only [vE, vAnd]
@[simp] theorem e_and2 {a b : C} {r : List C} : vE f io w (.and (a :: b :: r)) ρ = (vE f io w a ρ).bind fun x ρ => vbool x fun t => match t with
    | true => vE f io w (.and (b :: r)) ρ
    | false => .ok x ρ := by
  simp only [vE, vAnd]
  all_goals rfl
@[simp] theorem e_or1 {a : C} : vE f io w (.or [a]) ρ = vE f io w a ρ := by simp only [vE, vOr]
@[simp] theorem e_or2 {a b : C} {r : List C} : vE f io w (.or (a :: b :: r)) ρ = (vE f io w a ρ).bind fun x ρ => vbool x fun t => match t with
    | true => .ok x ρ
    | false => vE f io w (.or (b :: r)) ρ := by
  simp only [vE, vOr]
  all_goals rfl
@[simp] theorem e_ife {c a b : C} : vE f io w (.ife c a b) ρ = (vE f io w c ρ).bind fun x ρ => (vtest x ρ).bind fun t ρ => match t with
    | true => vE f io w a ρ
    | false => vE f io w b ρ := by
  simp only [vE]
  all_goals rfl
@[simp] theorem e_cmp {o : CO} {a b : C} : vE f io w (.cmp o a b) ρ = (vE f io w a ρ).bind fun x ρ => (vE f io w b ρ).bind fun y ρ => (VR.of (vcmp o x y) ρ).bind fun t ρ => .ok (.bl t) ρ := by simp only [vE]
@[simp] theorem e_chain {o1 o2 : CO} {a b c : C} : vE f io w (.chain o1 o2 a b c) ρ = (vE f io w a ρ).bind fun x ρ => (vE f io w b ρ).bind fun y ρ => (VR.of (vcmp o1 x y) ρ).bind fun t ρ => match t with
    | true => (vE f io w c ρ).bind fun z ρ => (VR.of (vcmp o2 y z) ρ).bind fun t ρ => .ok (.bl t) ρ
    | false => .ok (.bl false) ρ := by
  simp only [vE]
  all_goals rfl
@[simp] theorem e_ix {a b : C} : vE f io w (.ix a b) ρ = (vE f io w a ρ).bind fun x ρ => (vE f io w b ρ).bind fun y ρ => VR.of (vidx x y) ρ := by simp only [vE]
@[simp] theorem e_slc {a l u : C} : vE f io w (.slc a l u) ρ = (vE f io w a ρ).bind fun x ρ => (vE f io w l ρ).bind fun y ρ => (vE f io w u ρ).bind fun z ρ => VR.of (vslc x y z) ρ := by simp only [vE]
@[simp] theorem e_bnd {a : C} : vE f io w (.bnd a) ρ = (vE f io w a ρ).bind fun x ρ => match x with
    | .int i => .ok (.int i) ρ
    | _ => .bad := by
  simp only [vE]
  all_goals rfl
@[simp] theorem e_call {k : Nat} {es : List C} : vE f io w (.call k es) ρ = (vEs f io w es ρ).bind fun ds ρ => doCall f k (io k) es ds ρ := by simp only [vE]
@[simp] theorem e_bi {b : Bi} {es : List C} : vE f io w (.bi b es) ρ = (vEs f io w es ρ).bind fun ds ρ => VR.of (vbi b ds) ρ := by simp only [vE]
@[simp] theorem e_me {m : Me} {i : Nat} {es : List C} : vE f io w (.me m (.loc i) es) ρ = match ρ[i]? with
    | some (some (.list _)) => (vEs f io w es ρ).bind fun ds ρ => match ρ[i]? with
      | some (some (.list xs)) => match vme m xs ds with
        | some (v, ys) => .ok v (ρ.set i (some (.list ys)))
        | none => .bad
      | _ => .bad
    | _ => .bad := by
  simp only [vE]
  all_goals rfl
@[simp] theorem e_met {m : Mr} {o : C} {es : List C} : vE f io w (.met m o es) ρ = (vE f io w o ρ).bind fun x ρ => match vmrOk m x with
    | true => (vEs f io w es ρ).bind fun ds ρ => VR.of (vmr m x ds) ρ
    | false => .bad := by
  simp only [vE]
  all_goals rfl
@[simp] theorem e_rng {es : List C} : vE f io w (.rng es) ρ = (vEs f io w es ρ).bind fun ds ρ => VR.of ((vrng ds).map .list) ρ := by simp only [vE]
@[simp] theorem e_enum {a : C} : vE f io w (.enum a) ρ = (vE f io w a ρ).bind fun x ρ => VR.of ((venum x).map .list) ρ := by simp only [vE]
@[simp] theorem es_nil : vEs f io w [] ρ = .ok [] ρ := by simp only [vEs]
@[simp] theorem es_cons {e : C} {r : List C} : vEs f io w (e :: r) ρ = (vE f io w e ρ).bind fun x ρ => (vEs f io w r ρ).bind fun xs ρ => .ok (x :: xs) ρ := by simp only [vEs]
@[simp] theorem ts_nil : vTs f io w [] ρ = .ok true ρ := by simp only [vTs]
@[simp] theorem ts_cons {e : C} {r : List C} : vTs f io w (e :: r) ρ = (vE f io w e ρ).bind fun x ρ => (vtest x ρ).bind fun b ρ => match b with
    | true => vTs f io w r ρ
    | false => .ok false ρ := by
  simp only [vTs]
  all_goals rfl
@[simp] theorem x_asg {t : Tg} {e : C} : vX f io w (.asg t e) ρ = (vE f io w e ρ).bind fun d ρ => match t.setV d ρ with
    | some ρ' => .ok .nx ρ'
    | none => .bad := by
  simp only [vX]
  all_goals rfl
@[simp] theorem x_sub {j : Nat} {i e : C} : vX f io w (.sub (.loc j) i e) ρ = (vE f io w e ρ).bind fun d ρ => match ρ[j]? with
    | some (some _) => (vE f io w i ρ).bind fun y ρ => match ρ[j]? with
      | some (some x) => match vset x y d with
        | some x' => .ok .nx (ρ.set j (some x'))
        | none => .bad
      | _ => .bad
    | _ => .bad := by
  simp only [vX]
  all_goals rfl
@[simp] theorem x_ex {e : C} : vX f io w (.ex e) ρ = (vE f io w e ρ).bind fun _ ρ => .ok .nx ρ := by simp only [vX]
@[simp] theorem x_ret {e : C} : vX f io w (.ret e) ρ = (vE f io w e ρ).bind fun d ρ => .ok (.rt d) ρ := by simp only [vX]
@[simp] theorem x_ifs {c : C} {a b : List T} : vX f io w (.ifs c a b) ρ = (vE f io w c ρ).bind fun x ρ => (vtest x ρ).bind fun t ρ => match t with
    | true => vXs f io w a ρ
    | false => vXs f io w b ρ := by
  simp only [vX]
  all_goals rfl
theorem t_bl {b : Bool} : vtest (.bl b) ρ = .ok b ρ := rfl
theorem b_bl {b : Bool} {k : Bool → VR Va} : vbool (.bl b) k = k b := rfl
/-! ### loops -/
/-- a turn of a comprehension, of a for -/
def tnV (f : VCall) (io : Nat → List Nat) (w : Nat) (t : Tg) (cs : List C) (e : C) : Va → Ev → VR (Option Va) := fun d ρ0 => match t.setV d ρ0 with
  | some ρ => ((vTs f io w cs ρ).bind fun c ρ => match c with
    | true => (vE f io w e ρ).bind fun y ρ => .ok (some y) ρ
    | false => .ok none ρ).scope t.ixs' ρ0
  | none => .bad
def tnK (f : VCall) (io : Nat → List Nat) (w : Nat) (t : Tg) (cs : List C) (k v : C) : Va → Ev → VR (Option (Va × Va)) := fun d ρ0 => match t.setV d ρ0 with
  | some ρ => ((vTs f io w cs ρ).bind fun c ρ => match c with
    | true => (vE f io w k ρ).bind fun x ρ => (vE f io w v ρ).bind fun y ρ => .ok (some (x, y)) ρ
    | false => .ok none ρ).scope t.ixs' ρ0
  | none => .bad
def tnX (f : VCall) (io : Nat → List Nat) (w : Nat) (t : Tg) (b : List T) : Va → Ev → VR VFl := fun d ρ => match t.setV d ρ with
  | some ρ' => vXs f io w b ρ'
  | none => .bad
theorem e_lc {e : C} {t : Tg} {it : C} {cs : List C} {x : Va} {ds : List Va} (h : vE f io w it ρ = .ok x ρ') (hd : vitOf x = some ds) (hw : ds.length < w) : vE f io w (.lc e t it cs) ρ = (lcV (tnV f io w t cs e) ds [] ρ').bind fun ys ρ => .ok (.list ys) ρ := by
  simp only [vE, h, VR.bind_ok, hd, VR.of_some, if_pos hw]
  rfl
theorem e_dc {k v : C} {t : Tg} {it : C} {cs : List C} {x : Va} {ds : List Va} (h : vE f io w it ρ = .ok x ρ') (hd : vitOf x = some ds) (hw : ds.length < w) : vE f io w (.dc k v t it cs) ρ = (dcV (tnK f io w t cs k v) ds [] ρ').bind fun ys ρ => .ok (.dict ys) ρ := by
  simp only [vE, h, VR.bind_ok, hd, VR.of_some, if_pos hw]
  rfl
theorem x_for {t : Tg} {it : C} {b : List T} {x : Va} {ds : List Va} (h : vE f io w it ρ = .ok x ρ') (hd : vitOf x = some ds) (hw : ds.length < w) : vX f io w (.for_ t it b) ρ = forV (tnX f io w t b) ds ρ' := by
  simp only [vX, h, VR.bind_ok, hd, VR.of_some, if_pos hw]
  rfl
theorem x_whl {c : C} {b : List T} : vX f io w (.whl c b) ρ = whlV (fun ρ => (vE f io w c ρ).bind fun x ρ => vtest x ρ) (fun ρ => vXs f io w b ρ) w ρ := by simp only [vX]
end
/-! invariants; the items stand for l -/
theorem for_wp {α : Type} {enc : α → Va} {b : Va → Ev → VR VFl} (I : List α → Ev → Prop) : ∀ (post pre : List α) (ρ : Ev), I pre ρ → (∀ pre' a post' ρ, pre ++ post = pre' ++ a :: post' → I pre' ρ → (b (enc a) ρ).wp fun fl ρ' => (fl = .nx ∨ fl = .ct) ∧ I (pre' ++ [a]) ρ') → (forV b (post.map enc) ρ).wp fun fl ρ' => fl = .nx ∧ I (pre ++ post) ρ'
  | [], pre, ρ, h, step => by
    simp only [List.map_nil, forV, vp_ok, List.append_nil]
    exact ⟨trivial, h⟩
  | a :: post, pre, ρ, h, step => by
    obtain ⟨fl, ρ', e, hf, h'⟩ := vp_out (step pre a post ρ rfl h)
    have := for_wp I post (pre ++ [a]) ρ' h' (fun pre' a' post' ρ e => step pre' a' post' ρ (by rw [← e]; simp))
    simp only [List.map_cons, forV, e, VR.bind_ok]
    rw [List.append_assoc] at this
    rcases hf with rfl | rfl <;> exact this
theorem for_all {α : Type} {enc : α → Va} {b : Va → Ev → VR VFl} (I : List α → Ev → Prop) {l : List α} {ρ : Ev} (h : I [] ρ) (step : ∀ pre a post ρ, l = pre ++ a :: post → I pre ρ → (b (enc a) ρ).wp fun fl ρ' => (fl = .nx ∨ fl = .ct) ∧ I (pre ++ [a]) ρ') : (forV b (l.map enc) ρ).wp fun fl ρ' => fl = .nx ∧ I l ρ' := for_wp I l [] ρ h step
theorem whl_wp {c : Ev → VR Bool} {b : Ev → VR VFl} (I : Nat → Ev → Prop) (Z : Ev → Prop)
    (step : ∀ m ρ, I m ρ → (c ρ).wp fun t ρ' => match t with
      | false => Z ρ'
      | true => (b ρ').wp fun fl ρ'' => (fl = .nx ∨ fl = .ct) ∧ ∃ m', m' < m ∧ I m' ρ'') : ∀ (n m : Nat) (ρ : Ev), I m ρ → m < n → (whlV c b n ρ).wp fun fl ρ' => fl = .nx ∧ Z ρ'
  | 0, m, ρ, h, hn => by omega
  | n + 1, m, ρ, h, hn => by
    obtain ⟨t, ρ', e, q⟩ := vp_out (step m ρ h)
    unfold whlV
    rw [e, VR.bind_ok]
    cases t with
    | false => exact ⟨rfl, q⟩
    | true =>
      obtain ⟨fl, ρ'', e2, hf, m', hm, h'⟩ := vp_out q
      dsimp only
      rw [e2, VR.bind_ok]
      have := whl_wp I Z step n m' ρ'' h' (by omega)
      rcases hf with rfl | rfl <;> exact this
theorem lc_wp {α : Type} {enc : α → Va} {b : Va → Ev → VR (Option Va)} (I : List α → List Va → Ev → Prop) : ∀ (post pre : List α) (acc : List Va) (ρ : Ev), I pre acc ρ → acc.length + post.length < sizeLine → (∀ pre' a post' acc ρ, pre ++ post = pre' ++ a :: post' → I pre' acc ρ → (b (enc a) ρ).wp fun y ρ' => match y with
      | some y => I (pre' ++ [a]) (acc ++ [y]) ρ'
      | none => I (pre' ++ [a]) acc ρ') → (lcV b (post.map enc) acc ρ).wp fun ys ρ' => I (pre ++ post) ys ρ'
  | [], pre, acc, ρ, h, hz, step => by
    simp only [List.map_nil, lcV, vp_ok, List.append_nil]
    exact h
  | a :: post, pre, acc, ρ, h, hz, step => by
    obtain ⟨y, ρ', e, h'⟩ := vp_out (step pre a post acc ρ rfl h)
    simp only [List.map_cons, lcV, e, VR.bind_ok]
    rw [List.length_cons] at hz
    cases y with
    | none =>
      have := lc_wp I post (pre ++ [a]) acc ρ' h' (by omega) (fun pre' a' post' acc ρ e => step pre' a' post' acc ρ (by rw [← e]; simp))
      rw [List.append_assoc] at this
      exact this
    | some y =>
      have := lc_wp I post (pre ++ [a]) (acc ++ [y]) ρ' h' (by simp; omega) (fun pre' a' post' acc ρ e => step pre' a' post' acc ρ (by rw [← e]; simp))
      rw [List.append_assoc] at this
      dsimp only
      rw [if_pos (by omega)]
      exact this
/-! a comprehension without side effects -/
section
variable {f : VCall} {io : Nat → List Nat} {w : Nat} {ρ ρ' : Ev}
theorem back_same {is : List Nat} {ρ0 ρ : Ev} (hl : ρ0.length = ρ.length) (h : ∀ i, i ∉ is → ρ[i]? = ρ0[i]?) : back is ρ0 ρ = ρ0 := by
  apply List.ext_getElem?
  intro i
  rw [(back_get hl).2]
  split
  · rfl
  · exact h i ‹_›
theorem setV_out {t : Tg} {v : Va} (h : t.setV v ρ = some ρ') : ρ.length = ρ'.length ∧ ∀ i, i ∉ t.ixs' → ρ'[i]? = ρ[i]? := by
  cases t with
  | nm i =>
    cases h
    exact ⟨by simp, fun j hj => List.getElem?_set_ne fun z => hj (by rw [← z]; exact List.mem_singleton.mpr rfl)⟩
  | tp is =>
    cases v with
    | tup vs =>
      simp only [Tg.setV] at h
      split at h
      · cases h
        refine ⟨(foldl_set_len _ _).symm, fun j hj => foldl_set_get _ _ _ fun z => hj ?_⟩
        obtain ⟨p, hp, rfl⟩ := List.mem_map.mp z
        exact (List.of_mem_zip hp).1
      · cases h
    | _ => cases h
theorem setV_back {t : Tg} {v : Va} (h : t.setV v ρ = some ρ') : back t.ixs' ρ ρ' = ρ := back_same (setV_out h).1 (setV_out h).2
theorem tn_pure {t : Tg} {cs : List C} {e : C} {d y : Va} {p : Bool} (h1 : t.setV d ρ = some ρ') (h2 : vTs f io w cs ρ' = .ok p ρ') (h3 : p = true → vE f io w e ρ' = .ok y ρ') : tnV f io w t cs e d ρ = .ok (if p then some y else none) ρ := by
  unfold tnV
  rw [h1]
  dsimp only
  rw [h2, VR.bind_ok]
  cases p with
  | false => simp only [VR.scope, setV_back h1]; rfl
  | true => simp only [h3 rfl, VR.bind_ok, VR.scope, setV_back h1]; rfl
theorem lc_pure {α : Type} (enc : α → Va) {t : Tg} {cs : List C} {e it : C} {l : List α} {x : Va} (p : α → Bool) (q : α → Va) (h : vE f io w it ρ = .ok x ρ') (hd : vitOf x = some (l.map enc)) (hw : l.length < w) (hz : l.length < 16777216)
    (step : ∀ a ∈ l, ∃ ρ1, t.setV (enc a) ρ' = some ρ1 ∧ vTs f io w cs ρ1 = .ok (p a) ρ1 ∧ (p a = true → vE f io w e ρ1 = .ok (q a) ρ1)) :
    vE f io w (.lc e t it cs) ρ = .ok (.list ((l.filter p).map q)) ρ' := by
  rw [e_lc h hd (by simpa using hw)]
  have H := lc_wp (b := tnV f io w t cs e) (enc := enc) (fun pre acc ρ1 => acc = (pre.filter p).map q ∧ ρ1 = ρ') l [] [] ρ' ⟨rfl, rfl⟩ (by rw [sizeLine_eq]; simpa using hz) fun pre a post acc ρ1 e1 hI => by
    obtain ⟨rfl, rfl⟩ := hI
    obtain ⟨ρ2, s1, s2, s3⟩ := step a (by rw [List.nil_append] at e1; rw [e1]; simp)
    rw [tn_pure s1 s2 s3]
    cases hp : p a with
    | true => simp [hp]
    | false => simp [hp]
  obtain ⟨ys, ρ1, e1, e2, rfl⟩ := vp_out H
  rw [e1, VR.bind_ok, e2, List.nil_append]
theorem lc_map' {α : Type} (enc : α → Va) {t : Tg} {e it : C} {l : List α} {x : Va} (q : α → Va) (h : vE f io w it ρ = .ok x ρ') (hd : vitOf x = some (l.map enc)) (hw : l.length < w) (hz : l.length < 16777216)
    (step : ∀ a ∈ l, ∃ ρ1, t.setV (enc a) ρ' = some ρ1 ∧ vE f io w e ρ1 = .ok (q a) ρ1) :
    vE f io w (.lc e t it []) ρ = .ok (.list (l.map q)) ρ' := by
  have := lc_pure enc (cs := []) (fun _ => true) q h hd hw hz fun a ha => by
    obtain ⟨ρ1, s1, s2⟩ := step a ha
    exact ⟨ρ1, s1, ts_nil, fun _ => s2⟩
  rw [List.filter_eq_self.mpr fun _ _ => rfl] at this
  exact this
theorem tnK_pure {t : Tg} {cs : List C} {k v : C} {d x y : Va} {p : Bool} (h1 : t.setV d ρ = some ρ') (h2 : vTs f io w cs ρ' = .ok p ρ') (h3 : p = true → vE f io w k ρ' = .ok x ρ' ∧ vE f io w v ρ' = .ok y ρ') : tnK f io w t cs k v d ρ = .ok (if p then some (x, y) else none) ρ := by
  unfold tnK
  rw [h1]
  dsimp only
  rw [h2, VR.bind_ok]
  cases p with
  | false => simp only [VR.scope, setV_back h1]; rfl
  | true => simp only [(h3 rfl).1, (h3 rfl).2, VR.bind_ok, VR.scope, setV_back h1]; rfl
theorem dcV_pure {α : Type} {enc : α → Va} {b : Va → Ev → VR (Option (Va × Va))} {κ : α → Ke} {q : α → Va} : ∀ {l : List α} {acc : List (Ke × Va)}, acc.length + l.length < sizeLine → (∀ a ∈ l, ∃ x, b (enc a) ρ = .ok (some (x, q a)) ρ ∧ vkey? x = some (κ a)) → dcV b (l.map enc) acc ρ = .ok (l.foldl (fun acc a => vput acc (κ a) (q a)) acc) ρ
  | [], acc, hz, step => rfl
  | a :: l, acc, hz, step => by
    obtain ⟨x, e1, e2⟩ := step a List.mem_cons_self
    rw [List.length_cons] at hz
    simp only [List.map_cons, dcV, e1, VR.bind_ok, e2, if_pos (show acc.length < sizeLine by omega), List.foldl_cons]
    refine dcV_pure ?_ fun a ha => step a (List.mem_cons_of_mem _ ha)
    have : (vput acc (κ a) (q a)).length ≤ acc.length + 1 := by
      unfold vput
      split
      · simp
      · simp
    omega
/-- fresh keys are put behind -/
theorem foldl_put {α : Type} {κ : α → Ke} {q : α → Va} : ∀ {l : List α} {acc : List (Ke × Va)}, (l.map κ).Nodup → (∀ a ∈ l, ∀ p ∈ acc, p.1 ≠ κ a) → l.foldl (fun acc a => vput acc (κ a) (q a)) acc = acc ++ l.map fun a => (κ a, q a)
  | [], acc, nd, h => by simp
  | a :: l, acc, nd, h => by
    rw [List.map_cons, List.nodup_cons] at nd
    have e : vput acc (κ a) (q a) = acc ++ [(κ a, q a)] := by
      unfold vput
      rw [if_neg]
      intro hc
      obtain ⟨p, hp, e⟩ := List.any_eq_true.mp hc
      exact h a List.mem_cons_self p hp (of_decide_eq_true e)
    rw [List.foldl_cons, e, foldl_put nd.2 fun a' ha p hp => ?_]
    · simp
    · rcases List.mem_append.mp hp with hp | hp
      · exact h a' (List.mem_cons_of_mem _ ha) p hp
      · rw [List.mem_singleton.mp hp]
        exact fun z => nd.1 (List.mem_map.mpr ⟨a', ha, z.symm⟩)
end
/-! ### values -/
theorem veq_int {a b : Int} : veq (.int a) (.int b) = some (decide (a = b)) := by
  simp only [veq, Va.py, shaped_int, and_self, if_true, PyData.eqv]
  rfl
theorem vlt_int {a b : Int} : vlt (.int a) (.int b) = some (decide (a < b)) := by
  have h : alike (.int a) (.int b) = true := rfl
  simp only [vlt, Va.py, shaped_int, h, nn, and_self, if_true, dataLt_int]
theorem veq_str {x y : Str} (hx : PyData.strOk x = true) (hy : PyData.strOk y = true) : veq (.str x) (.str y) = some (decide (x = y)) := by
  simp only [veq, Va.py, shaped_str hx, shaped_str hy, and_self, if_true, PyData.eqv]
  rfl
theorem vlt_str {x y : Str} (hx : PyData.strOk x = true) (hy : PyData.strOk y = true) : vlt (.str x) (.str y) = some (decide (x.cps.toList < y.cps.toList)) := by
  have h : alike (.str x) (.str y) = true := rfl
  simp only [vlt, Va.py, shaped_str hx, shaped_str hy, h, nn, and_self, if_true, dataLt_str]
theorem vat_nat {xs : List Va} {r : Int} (h1 : 0 ≤ r) (h2 : r < xs.length) : L2.atI xs r = some (xs[r.toNat]'(by omega)) := by
  unfold L2.atI L2.ixN
  rw [if_pos h1, if_pos h2]
  show xs[r.toNat]? = _
  exact List.getElem?_eq_getElem (by omega)
theorem vbools_map {α : Type} (f : α → Bool) : ∀ l : List α, vbools? (l.map fun x => .bl (f x)) = some (l.map f)
  | [] => rfl
  | x :: l => by simp [vbools?, vbools_map f l]
theorem vints_map {α : Type} (f : α → Int) : ∀ l : List α, vints? (l.map fun x => .int (f x)) = some (l.map f)
  | [] => rfl
  | x :: l => by simp [vints?, vints_map f l]
end Dv
end

section
/-! Vm3 -/
/-! Vm3: the rules that simp steps by. -/
namespace Dv
open PySem PySem.W

section
variable {f : VCall} {io : Nat → List Nat} {w : Nat} {ρ ρ1 ρ2 : Ev}
theorem x_forL {t : Tg} {i : Nat} {b : List T} {x : Va} {ds : List Va} (h : ρ[i]? = some (some x)) (hd : vitOf x = some ds) (hw : ds.length < w) : vX f io w (.for_ t (.loc i) b) ρ = forV (tnX f io w t b) ds ρ := x_for (e_loc h) hd hw
theorem xs_ret {e : C} {v : Va} {r : List T} (h : vE f io w e ρ = .ok v ρ1) : vXs f io w (.ret e :: r) ρ = .ok (.rt v) ρ1 := xs_rt (by rw [x_ret, h, VR.bind_ok])
theorem xs_asg {t : Tg} {e : C} {v : Va} {r : List T} (h : vE f io w e ρ = .ok v ρ1) (h2 : t.setV v ρ1 = some ρ2) : vXs f io w (.asg t e :: r) ρ = vXs f io w r ρ2 := xs_nx (by rw [x_asg, h, VR.bind_ok, h2])
theorem xs_ex {e : C} {v : Va} {r : List T} (h : vE f io w e ρ = .ok v ρ1) : vXs f io w (.ex e :: r) ρ = vXs f io w r ρ1 := xs_nx (by rw [x_ex, h, VR.bind_ok])
end
theorem vat_last {ys : List Va} {y : Va} : L2.atI (ys ++ [y]) (-1) = some y := by
  have h1 : (1 : Int) ≤ ys.length + 1 := by omega
  have h2 : (-1 + ((ys.length : Int) + 1)).toNat = ys.length := by omega
  unfold L2.atI L2.ixN
  simp [h1, h2]
/-! operators on values of known kinds -/
section
variable {i j : Int} {xs ys : List Va} {a b : Str} {b1 : Bool} {x y : Va} {kvs : List (Ke × Va)} {ρ : Ev}
@[simp] theorem r_add_int : vbin .add (.int i) (.int j) = some (.int (i + j)) := rfl
@[simp] theorem r_add_list (h : xs.length + ys.length ≤ 16777216) : vbin .add (.list xs) (.list ys) = some (.list (xs ++ ys)) := by
  simp only [vbin, vadd]
  rw [if_pos (by rw [sizeLine_eq]; exact h)]
@[simp] theorem r_add_tup (h : xs.length + ys.length ≤ 16777216) : vbin .add (.tup xs) (.tup ys) = some (.tup (xs ++ ys)) := by
  simp only [vbin, vadd]
  rw [if_pos (by rw [sizeLine_eq]; exact h)]
@[simp] theorem r_add_str (h : a.length + b.length ≤ 16777216) : vbin .add (.str a) (.str b) = some (.str (a ++ b)) := by
  simp only [vbin, vadd]
  rw [if_pos (by rw [sizeLine_eq]; exact h)]
@[simp] theorem r_sub_int : vbin .sub (.int i) (.int j) = some (.int (i - j)) := rfl
@[simp] theorem r_mul_int (h : (-two64 < i ∧ i < two64) ∨ (-two64 < j ∧ j < two64)) : vbin .mul (.int i) (.int j) = some (.int (i * j)) := by
  simp only [vbin, vmul, if_pos h]
@[simp] theorem r_mod_int (h : 0 < j) : vbin .mod (.int i) (.int j) = some (.int (i % j)) := by
  simp only [vbin, vmod, if_pos h]
@[simp] theorem r_fdiv_int (h : 0 < j) (h2 : j < 1073741824) : vbin .fdiv (.int i) (.int j) = some (.int (i / j)) := by
  simp only [vbin, vfdiv, if_pos (And.intro h h2)]
@[simp] theorem r_pow_int {n : Nat} (h : n ≤ 1000) (h1 : -two64 < i) (h2 : i < two64) : vbin .pow (.int i) (.int n) = some (.int (i ^ n)) := by
  simp only [vbin, vpow]
  rw [if_pos ⟨by omega, by omega, h1, h2⟩]
  rfl
@[simp] theorem r_eq : vcmp .eq x y = veq x y := rfl
@[simp] theorem r_ne : vcmp .ne x y = (veq x y).map (!·) := rfl
@[simp] theorem r_lt : vcmp .lt x y = vlt x y := rfl
@[simp] theorem r_le : vcmp .le x y = (vlt y x).map (!·) := rfl
@[simp] theorem r_gt : vcmp .gt x y = vlt y x := rfl
@[simp] theorem r_ge : vcmp .ge x y = (vlt x y).map (!·) := rfl
@[simp] theorem r_in : vcmp .in_ x y = vin x y := rfl
@[simp] theorem r_nin : vcmp .nin x y = (vin x y).map (!·) := rfl
@[simp] theorem r_is : vcmp .is_ x y = vis x y := rfl
@[simp] theorem r_isn : vcmp .isn x y = (vis x y).map (!·) := rfl
@[simp] theorem r_ix_list : vidx (.list xs) (.int i) = L2.atI xs i := rfl
@[simp] theorem r_ix_tup : vidx (.tup xs) (.int i) = L2.atI xs i := rfl
@[simp] theorem r_ix_dict_str : vidx (.dict kvs) (.str a) = vget kvs (.inr a) := rfl
@[simp] theorem r_ix_dict_int : vidx (.dict kvs) (.int i) = vget kvs (.inl i) := rfl
@[simp] theorem r_len_list : vbi .len [.list xs] = some (.int xs.length) := rfl
@[simp] theorem r_len_tup : vbi .len [.tup xs] = some (.int xs.length) := rfl
@[simp] theorem r_len_str : vbi .len [.str a] = some (.int a.length) := rfl
@[simp] theorem r_len_dict : vbi .len [.dict kvs] = some (.int kvs.length) := rfl
@[simp] theorem r_tuple_list : vbi .tuple [.list xs] = some (.tup xs) := rfl
@[simp] theorem r_tuple_tup : vbi .tuple [.tup xs] = some (.tup xs) := rfl
@[simp] theorem r_list_list : vbi .list [.list xs] = some (.list xs) := rfl
@[simp] theorem r_list_tup : vbi .list [.tup xs] = some (.list xs) := rfl
@[simp] theorem r_any : vbi .any [.list xs] = (vbools? xs).map fun bs => .bl (bs.any id) := rfl
@[simp] theorem r_all : vbi .all [.list xs] = (vbools? xs).map fun bs => .bl (bs.all id) := rfl
@[simp] theorem r_sum : vbi .sum [.list xs] = (vints? xs).map fun ns => .int ns.sum := rfl
@[simp] theorem r_repr : vbi .repr [x] = vrepr [x] := rfl
@[simp] theorem r_sorted_list : vbi .sorted [.list xs] = (vsort xs).map .list := rfl
@[simp] theorem r_sorted_tup : vbi .sorted [.tup xs] = (vsort xs).map .list := rfl
@[simp] theorem tt_bl : vtest (.bl b1) ρ = .ok b1 ρ := rfl
@[simp] theorem tt_int : vtest (.int i) ρ = .ok (i != 0) ρ := rfl
@[simp] theorem tt_list : vtest (.list xs) ρ = .ok (!xs.isEmpty) ρ := rfl
@[simp] theorem tt_tup : vtest (.tup xs) ρ = .ok (!xs.isEmpty) ρ := rfl
@[simp] theorem tt_non : vtest .non ρ = .ok false ρ := rfl
@[simp] theorem bb_bl {k : Bool → VR Va} : vbool (.bl b1) k = k b1 := rfl
@[simp] theorem v_int : (D.int i).va = some (.int i) := by simp only [D.va]
@[simp] theorem v_str : (D.str a).va = some (.str a) := by simp only [D.va]
@[simp] theorem v_bl : (D.bl b1).va = some (.bl b1) := by simp only [D.va]
@[simp] theorem v_non : D.non.va = some .non := by simp only [D.va]
@[simp] theorem st_nm {n : Nat} : (Tg.nm n).setV x ρ = some (ρ.set n (some x)) := rfl
@[simp] theorem st_tp {is : List Nat} : (Tg.tp is).setV (.tup xs) ρ = if xs.length = is.length then some ((is.zip xs).foldl (fun ρ p => ρ.set p.1 (some p.2)) ρ) else none := rfl
@[simp] theorem ix_nm {n : Nat} : (Tg.nm n).ixs' = [n] := rfl
@[simp] theorem ix_tp {is : List Nat} : (Tg.tp is).ixs' = is := rfl
@[simp] theorem is_tup : vitOf (.tup xs) = some xs := rfl
@[simp] theorem is_list : vitOf (.list xs) = some xs := rfl
@[simp] theorem is_ro : vitOf (.ro xs) = some xs := rfl
@[simp] theorem m_app (h : xs.length < 16777216) : vme .append xs [x] = some (.non, xs ++ [x]) := by
  simp only [vme]
  rw [if_pos (by rw [sizeLine_eq]; exact h)]
@[simp] theorem m_ext (h : xs.length + ys.length ≤ 16777216) : vme .extend xs [.list ys] = some (.non, xs ++ ys) := by
  simp only [vme]
  rw [if_pos (by rw [sizeLine_eq]; exact h)]
@[simp] theorem m_pop {n : Nat} (h : n < xs.length) (h2 : xs.length < 2 ^ 60) : vme .pop xs [.int n] = some (xs[n], xs.eraseIdx n) := by
  have e : seqIndex? (n : Int) xs.length = some n := by
    have h1 : ¬ (n : Int) < 0 := by omega
    have h3 : (n : Int) < xs.length := by omega
    simp [seqIndex?, h1, h]
  simp only [vme, e, List.getElem?_eq_getElem h]
  rw [if_pos ⟨by omega, by omega⟩]
end
/-! ### rules -/
section
variable {x : Va} {xs : List Va} {k : Ki} {ρ : Ev}
@[simp] theorem r_inst : vbi (.inst k) [x] = (vkind x).map fun j => .bl (kiOf k j) := rfl
@[simp] theorem k_non : vkind .non = some none := rfl
@[simp] theorem k_bl {b : Bool} : vkind (.bl b) = some (some .bool) := rfl
@[simp] theorem k_int {b : Int} : vkind (.int b) = some (some .int) := rfl
@[simp] theorem k_str {b : Str} : vkind (.str b) = some (some .str) := rfl
@[simp] theorem k_tup : vkind (.tup xs) = some (some .tuple) := rfl
@[simp] theorem k_list : vkind (.list xs) = some (some .list) := rfl
@[simp] theorem ko_none : kiOf k none = false := rfl
@[simp] theorem ko_some {j : Ki} : kiOf k (some j) = j.sub k := rfl
end
@[simp] theorem r_rev_tup {xs : List Va} : vbi .rev [.tup xs] = some (.tup xs.reverse) := rfl
@[simp] theorem r_rev_list {xs : List Va} : vbi .rev [.list xs] = some (.list xs.reverse) := rfl
@[simp] theorem r_rev0_tup {xs : List Va} : vbi .rev0 [.tup xs] = some (.tup (xs.drop 1).reverse) := rfl
end Dv
end

section
/-! Vm4 -/
/-! Vm4: a repr's text is one that a comparison takes. -/
namespace Dv
open PySem PySem.W PySem.Builtin PySem.Builtin.Str

def okCps (l : List Nat) : Prop := ∀ c ∈ l, c < 0x110000
theorem strOk_iff {x : Str} : PyData.strOk x = true ↔ okCps x.cps.toList := by
  unfold PyData.strOk okCps
  rw [Array.all_eq_true_iff_forall_mem]
  simp
theorem ok_of (s : String) : PyData.strOk (Str.ofString s) = true := by
  rw [strOk_iff, Str.ofString_eq_toList]
  intro c hc
  simp only [List.mem_map] at hc
  obtain ⟨d, _, rfl⟩ := hc
  have := d.valid
  have h2 : d.toNat = d.val.toNat := rfl
  rcases this with h | h
  · have h3 : d.val.toNat < 55296 := h
    omega
  · have h3 : 57343 < d.val.toNat ∧ d.val.toNat < 1114112 := h
    omega
theorem ok_app {a b : Str} (ha : PyData.strOk a = true) (hb : PyData.strOk b = true) : PyData.strOk (a ++ b) = true := by
  rw [strOk_iff] at *
  intro c hc
  have e : (a ++ b).cps.toList = a.cps.toList ++ b.cps.toList := by
    show (a.cps ++ b.cps).toList = _
    simp
  rw [e] at hc
  exact (List.mem_append.mp hc).elim (ha c) (hb c)
theorem ok_textFrom : ∀ {ts : List Str} {k : Nat} {acc : Str}, PyData.strOk acc = true → (∀ t ∈ ts, PyData.strOk t = true) → PyData.strOk (textFrom k acc ts) = true
  | [], k, acc, h, _ => h
  | t :: ts, k, acc, h, ht => by
    unfold textFrom
    refine ok_textFrom (ok_app (ok_app h ?_) (ht t List.mem_cons_self)) fun u hu => ht u (List.mem_cons_of_mem _ hu)
    exact ok_of _
theorem ok_join {sep : Str} (hs : PyData.strOk sep = true) : ∀ {ts : List Str}, (∀ t ∈ ts, PyData.strOk t = true) → PyData.strOk (Str.join sep ts) = true
  | [], _ => by
    show PyData.strOk Str.empty = true
    exact strOk_iff.mpr fun c hc => by simp [Str.empty] at hc
  | [x], h => h x List.mem_cons_self
  | x :: y :: r, h => by
    rw [Str.join]
    · exact ok_app (ok_app (h x List.mem_cons_self) hs) (ok_join hs fun u hu => h u (List.mem_cons_of_mem _ hu))
    · simp
theorem ok_reprChar {q c : Nat} (hq : q < 0x110000) (hc : c < 0x110000) : okCps (reprChar q c) := by
  have hd : okCps ((Nat.toDigits 16 c).map Char.toNat) := fun d hd => by
    obtain ⟨e, _, rfl⟩ := List.mem_map.mp hd
    have := e.valid
    have h2 : e.toNat = e.val.toNat := rfl
    rcases this with h | h
    · have h3 : e.val.toNat < 55296 := h
      omega
    · have h3 : 57343 < e.val.toNat ∧ e.val.toNat < 1114112 := h
      omega
  have hx : ∀ w, okCps (List.replicate (w - ((Nat.toDigits 16 c).map Char.toNat).length) 48 ++ (Nat.toDigits 16 c).map Char.toNat) := fun w d hd' => by
    rcases List.mem_append.mp hd' with h | h
    · rw [(List.mem_replicate.mp h).2]; decide
    · exact hd d h
  have two : ∀ {a b : Nat}, a < 0x110000 → b < 0x110000 → okCps [a, b] := fun {a b} ha hb d hd => by
    rcases List.mem_cons.mp hd with rfl | hd
    · exact ha
    · rw [List.mem_singleton.mp hd]; exact hb
  have ap : ∀ {l m : List Nat}, okCps l → okCps m → okCps (l ++ m) := fun {l m} hl hm d hd => (List.mem_append.mp hd).elim (hl d) (hm d)
  unfold reprChar
  dsimp only
  repeat' split
  · exact two (by decide) hc
  · exact two (by decide) (by decide)
  · exact two (by decide) (by decide)
  · exact two (by decide) (by decide)
  · intro d hd; rw [List.mem_singleton.mp hd]; exact hc
  · exact ap (two (by decide) (by decide)) (hx 2)
  · exact ap (two (by decide) (by decide)) (hx 4)
  · exact ap (two (by decide) (by decide)) (hx 8)
theorem ok_reprText {x : Str} (h : PyData.strOk x = true) : PyData.strOk (reprText x) = true := by
  have hq : reprQuote x < 0x110000 := by unfold reprQuote; split <;> decide
  rw [strOk_iff] at *
  unfold reprText
  have key : ∀ (l : List Nat) (acc : Array Nat), okCps l → okCps acc.toList → okCps (l.foldl (fun out c => out ++ (reprChar (reprQuote x) c).toArray) acc).toList := by
    intro l
    induction l with
    | nil => exact fun acc _ h => h
    | cons c l ih =>
      intro acc hl ha
      rw [List.foldl_cons]
      refine ih _ (fun d hd => hl d (List.mem_cons_of_mem _ hd)) fun d hd => ?_
      simp only [Array.toList_append, List.mem_append] at hd
      rcases hd with hd | hd
      · exact ha d hd
      · exact ok_reprChar hq (hl c List.mem_cons_self) d hd
  show okCps ((x.cps.foldl (fun out c => out ++ (reprChar (reprQuote x) c).toArray) #[reprQuote x]).push (reprQuote x)).toList
  rw [← Array.foldl_toList, Array.toList_push]
  intro d hd
  rcases List.mem_append.mp hd with hd | hd
  · exact key x.cps.toList #[reprQuote x] h (fun d hd => by
      have : d = reprQuote x := by simpa using hd
      rw [this]; exact hq) d hd
  · rw [List.mem_singleton.mp hd]; exact hq
mutual
theorem ok_shown : ∀ {v : Va} {b : Bool} {n : Nat}, v.nice b n = true → PyData.strOk v.pd.shown = true
  | .non, b, n, h => by simp only [Va.pd, PyData.shown]; exact ok_of _
  | .bl c, b, n, h => by
    simp only [Va.pd, PyData.shown]
    cases c
    · exact ok_of _
    · exact ok_of _
  | .int i, b, n, h => by simp only [Va.pd, PyData.shown]; exact ok_of _
  | .str s, b, n, h => by simp only [Va.pd, PyData.shown]; exact ok_reprText (by simpa [Va.nice] using h)
  | .tup xs, b, 0, h => by simp [Va.nice] at h
  | .tup xs, b, n + 1, h => by
    rw [Va.nice] at h
    simp only [Va.pd, PyData.shown]
    unfold tupleText
    exact ok_app (ok_app (ok_of _) (ok_join (ok_of _) (oks_shown h))) (ok_of _)
  | .list xs, b, 0, h => by simp [Va.nice] at h
  | .list xs, b, n + 1, h => by
    rw [Va.nice] at h
    simp only [Va.pd, PyData.shown]
    unfold listText
    exact ok_app (ok_textFrom (ok_of _) (oks_shown h)) (ok_of _)
  | .dict _, b, n, h => by simp [Va.nice] at h
  | .fn _, b, n, h => by simp [Va.nice] at h
  | .ro _, b, n, h => by simp [Va.nice] at h
theorem oks_shown : ∀ {v : List Va} {b : Bool} {n : Nat}, Va.nices b v n = true → ∀ t ∈ PyData.shownAll (Va.pds v), PyData.strOk t = true
  | [], b, n, h, t, ht => by simp [Va.pds, PyData.shownAll] at ht
  | x :: r, b, n, h, t, ht => by
    rw [Va.nices, Bool.and_eq_true] at h
    simp only [Va.pds, PyData.shownAll, List.mem_cons] at ht
    rcases ht with rfl | ht
    · exact ok_shown h.1
    · exact oks_shown h.2 t ht
end
theorem ok_rep {v : Va} {b : Bool} (h : v.nice b 5 = true) : PyData.strOk v.rep = true := ok_shown h
end Dv
end

section
/-! Vd1 -/
set_option maxHeartbeats 1000000
/-! Vd1: the draw of the laws k17 and on. -/
namespace Dv
open PySem PySem.W

def feedV (cells : List Int) (a l c : Int) : Va := .dict [(.inr "cells", .list (cells.map .int)), (.inr "at", .int a), (.inr "left", .int l), (.inr "count", .int c)]
/-- a feed out of which at most n draws were made -/
def Feed1 (n : Nat) (v : Va) : Prop := ∃ (cells : List Int) (a l c : Int), v = feedV cells a l c ∧ cells.length ≤ 63 ∧ 0 ≤ a ∧ 0 ≤ l ∧ 0 ≤ c ∧ c ≤ n
def bDraw1 : List T := [.asg (.nm 2) (.bin .add (.ix (.loc 0) (.cst (.str "count"))) (.cst (.int 1))),
  .sub (.loc 0) (.cst (.str "count")) (.loc 2),
  .ifs (.cmp .gt (.ix (.loc 0) (.cst (.str "left"))) (.cst (.int 0)))
    [.asg (.nm 3) (.bin .mod (.ix (.loc 0) (.cst (.str "left"))) (.loc 1)),
    .sub (.loc 0) (.cst (.str "left")) (.bin .fdiv (.ix (.loc 0) (.cst (.str "left"))) (.loc 1)),
    .ret (.loc 3)]
    [],
  .asg (.nm 4) (.ix (.loc 0) (.cst (.str "at"))),
  .sub (.loc 0) (.cst (.str "at")) (.bin .add (.loc 4) (.cst (.int 1))),
  .asg (.nm 5) (.ife (.cmp .ne (.ix (.loc 0) (.cst (.str "cells"))) (.lst [])) (.ix (.ix (.loc 0) (.cst (.str "cells"))) (.bin .mod (.loc 4) (.bi .len [(.ix (.loc 0) (.cst (.str "cells")))]))) (.cst (.int 43))),
  .ifs (.and [(.cmp .ge (.loc 5) (.bin .pow (.cst (.int 10)) (.cst (.int 18)))), (.cmp .lt (.loc 4) (.bi .len [(.ix (.loc 0) (.cst (.str "cells")))]))])
    [.sub (.loc 0) (.cst (.str "left")) (.bin .fdiv (.loc 5) (.loc 1)),
    .ret (.bin .mod (.loc 5) (.loc 1))]
    [],
  .asg (.nm 6) (.bin .mod (.bin .add (.bin .add (.bin .add (.bin .mod (.loc 5) (.cst (.int 1000003397))) (.bin .mul (.bin .mul (.cst (.int 613)) (.loc 2)) (.loc 2))) (.bin .mul (.cst (.int 37)) (.loc 2))) (.cst (.int 11))) (.cst (.int 2147483563))),
  .asg (.nm 6) (.bin .mod (.bin .add (.bin .add (.bin .pow (.loc 6) (.cst (.int 5))) (.bin .mul (.cst (.int 90007)) (.loc 2))) (.cst (.int 3))) (.cst (.int 2147483549))),
  .ret (.bin .mod (.bin .fdiv (.bin .mod (.bin .add (.bin .pow (.loc 6) (.cst (.int 5))) (.bin .mul (.cst (.int 17)) (.loc 6))) (.cst (.int 2147483543))) (.cst (.int 32))) (.loc 1))]
/-- draws: a number below m, and the feed behind -/
def DrawOk (Fd : Nat → Va → Prop) (f : VCall) (k : Nat) : Prop := ∀ (n : Nat) (v : Va) (m : Int), Fd n v → n < 2 ^ 60 → 1 ≤ m → m < 2 ^ 30 → ∃ r v', f k [v, .int m] = .ok (.int r) [v'] ∧ 0 ≤ r ∧ r < m ∧ Fd (n + 1) v'
section
variable {cells : List Int} {a l c : Int}
theorem i_count : vidx (feedV cells a l c) (.str "count") = some (.int c) := rfl
theorem i_left : vidx (feedV cells a l c) (.str "left") = some (.int l) := rfl
theorem i_at : vidx (feedV cells a l c) (.str "at") = some (.int a) := rfl
theorem i_cells : vidx (feedV cells a l c) (.str "cells") = some (.list (cells.map .int)) := rfl
theorem s_any {x : Str} {d : Va} {kvs : List (Ke × Va)} (h : vput [(.inr "cells", .list (cells.map .int)), (.inr "at", .int a), (.inr "left", .int l), (.inr "count", .int c)] (.inr x) d = kvs) : vset (feedV cells a l c) (.str x) d = some (.dict kvs) := by
  simp only [vset, feedV, vkey?, h]
  exact if_pos (show 4 < sizeLine by decide)
theorem s_count {d : Int} : vset (feedV cells a l c) (.str "count") (.int d) = some (feedV cells a l d) := s_any rfl
theorem s_left {d : Int} : vset (feedV cells a l c) (.str "left") (.int d) = some (feedV cells a d c) := s_any rfl
theorem s_at {d : Int} : vset (feedV cells a l c) (.str "at") (.int d) = some (feedV cells d l c) := s_any rfl
end
theorem ints_ne (ns : List Int) : veq (.list (ns.map .int)) (.list []) = some ns.isEmpty := by
  have py : ∀ ns : List Int, Va.pys (ns.map Va.int) 4 = some (ns.map .int) := fun ns => by
    induction ns with
    | nil => simp [Va.pys]
    | cons n ns ih => simp [Va.pys, Va.py, ih]
  have h1 : (Va.list (ns.map .int)).py 5 = some (.list (ns.map .int)) := by simp [Va.py, py]
  have h2 : (Va.list []).py 5 = some (.list []) := by simp [Va.py, Va.pys]
  unfold veq
  rw [h1, h2]
  simp only [shaped_ints, shaped_ints [], and_self, if_true]
  rw [if_pos ⟨trivial, by simpa using shaped_ints []⟩]
  cases ns with
  | nil => simp [PyData.eqv, PyData.eqvAll]
  | cons n ns => simp [PyData.eqv, PyData.eqvAll]
theorem draw1 {f : VCall} {io : Nat → List Nat} {w n : Nat} {v : Va} {m : Int} (F : Feed1 n v) (hn : n < 2 ^ 60) (h1 : 1 ≤ m) (h2 : m < 2 ^ 30) :
    ∃ r v', runV f io w ⟨2, 7, bDraw1⟩ ⟨[0], true, true⟩ [v, .int m] = .ok (.int r) [v'] ∧ 0 ≤ r ∧ r < m ∧ Feed1 (n + 1) v' := by
  obtain ⟨cells, a, l, c, rfl, hc, ha, hl, hc0, hcn⟩ := F
  have q1 : (0 : Int) < m := by omega
  have q2 : m < 1073741824 := by omega
  suffices H : (vXs f io w bDraw1 (vstart 7 [feedV cells a l c, .int m])).wp fun fl ρ => ∃ v, fl = .rt v ∧ ∃ r v', v = .int r ∧ ρ[0]? = some (some v') ∧ 0 ≤ r ∧ r < m ∧ Feed1 (n + 1) v' by
    obtain ⟨v, ρ, e, r, v', rfl, e0, r1, r2, r3⟩ := run_wp (g := ⟨2, 7, bDraw1⟩) (i := ⟨[0], true, true⟩) (f := f) (io := io) (w := w) (vs := [feedV cells a l c, .int m]) rfl H
    refine ⟨r, v', ?_, r1, r2, r3⟩
    rw [e]
    simp [vend, Va.flat, outs, e0]
  unfold bDraw1
  rw [xs_nx (ρ' := [some (feedV cells a l c), some (.int m), some (.int (c + 1)), none, none, none, none]) (by
    simp [vstart, i_count])]
  rw [xs_nx (ρ' := [some (feedV cells a l (c + 1)), some (.int m), some (.int (c + 1)), none, none, none, none]) (by
    simp [s_count])]
  by_cases hlt : 0 < l
  · refine vp_eq (xs_rt (v := .int (l % m)) (ρ' := [some (feedV cells a (l / m) (c + 1)), some (.int m), some (.int (c + 1)), some (.int (l % m)), none, none, none]) ?_) ⟨_, rfl, _, _, rfl, rfl, Int.emod_nonneg _ (by omega), Int.emod_lt_of_pos _ q1, _, _, _, _, rfl, hc, ha, Int.ediv_nonneg hl (by omega), by omega, by omega⟩
    simp [xs_cons, xs_nil, i_left, s_left, vlt_int, hlt, q1, q2]
  · have l0 : l = 0 := by omega
    subst l0
    rw [xs_nx (ρ' := [some (feedV cells a 0 (c + 1)), some (.int m), some (.int (c + 1)), none, none, none, none]) (by
      simp [xs_nil, i_left, vlt_int])]
    rw [xs_nx (ρ' := [some (feedV cells a 0 (c + 1)), some (.int m), some (.int (c + 1)), none, some (.int a), none, none]) (by
      simp [i_at])]
    rw [xs_nx (ρ' := [some (feedV cells (a + 1) 0 (c + 1)), some (.int m), some (.int (c + 1)), none, some (.int a), none, none]) (by
      simp [s_at])]
    have cell : ∃ z : Int, vX f io w (.asg (.nm 5) (.ife (.cmp .ne (.ix (.loc 0) (.cst (.str "cells"))) (.lst [])) (.ix (.ix (.loc 0) (.cst (.str "cells"))) (.bin .mod (.loc 4) (.bi .len [(.ix (.loc 0) (.cst (.str "cells")))]))) (.cst (.int 43)))) [some (feedV cells (a + 1) 0 (c + 1)), some (.int m), some (.int (c + 1)), none, some (.int a), none, none] =
        .ok .nx [some (feedV cells (a + 1) 0 (c + 1)), some (.int m), some (.int (c + 1)), none, some (.int a), some (.int z), none] := by
      have e := ints_ne cells
      by_cases hcl : cells = []
      · subst hcl
        exact ⟨43, by simp [i_cells] at e ⊢; simp [e]⟩
      · have hpos : (0 : Int) < (cells.map Va.int).length := by have := List.length_pos_iff.mpr hcl; simpa using this
        have h3 := Int.emod_lt_of_pos a hpos
        have h4 := Int.emod_nonneg a (by omega : ((cells.map Va.int).length : Int) ≠ 0)
        have at1 := vat_nat h4 h3
        obtain ⟨z, hz⟩ : ∃ z : Int, (cells.map Va.int)[(a % (cells.map Va.int).length).toNat]'(by omega) = .int z := ⟨_, List.getElem_map _⟩
        rw [hz] at at1
        simp only [List.length_map] at at1 hpos
        have hemp : cells.isEmpty = false := by simpa using hcl
        have hm := r_mod_int (i := a) hpos
        exact ⟨z, by simp [i_cells, e, hemp, hm, at1]⟩
    obtain ⟨z, hz⟩ := cell
    rw [xs_nx hz]
    have p18 : vbin .pow (.int 10) (.int 18) = some (.int 1000000000000000000) := r_pow_int (n := 18) (by decide) (by decide) (by decide)
    by_cases hbig : 1000000000000000000 ≤ z ∧ a < cells.length
    · refine vp_eq (xs_rt (v := .int (z % m)) (ρ' := [some (feedV cells (a + 1) (z / m) (c + 1)), some (.int m), some (.int (c + 1)), none, some (.int a), some (.int z), none]) ?_) ⟨_, rfl, _, _, rfl, rfl, Int.emod_nonneg _ (by omega), Int.emod_lt_of_pos _ q1, _, _, _, _, rfl, hc, by omega, Int.ediv_nonneg (by omega) (by omega), by omega, by omega⟩
      have b1 : ¬ z < 1000000000000000000 := by omega
      simp [xs_cons, xs_nil, i_cells, s_left, vlt_int, hbig.2, b1, p18, q1, q2]
    · rw [xs_nx (ρ' := [some (feedV cells (a + 1) 0 (c + 1)), some (.int m), some (.int (c + 1)), none, some (.int a), some (.int z), none]) (by
        by_cases b1 : z < 1000000000000000000
        · simp [xs_nil, vlt_int, b1, p18]
        · have b2 : ¬ a < cells.length := fun h => hbig ⟨by omega, h⟩
          simp [xs_nil, i_cells, vlt_int, b1, b2, p18])]
      have c1 : -two64 < c + 1 ∧ c + 1 < two64 := by unfold two64; omega
      have c2 : -two64 < (613 : Int) ∧ (613 : Int) < two64 := by decide
      have c3 : -two64 < (37 : Int) ∧ (37 : Int) < two64 := by decide
      have c4 : -two64 < (90007 : Int) ∧ (90007 : Int) < two64 := by decide
      have c5 : -two64 < (17 : Int) ∧ (17 : Int) < two64 := by decide
      rw [xs_nx (ρ' := [some (feedV cells (a + 1) 0 (c + 1)), some (.int m), some (.int (c + 1)), none, some (.int a), some (.int z), some (.int ((z % 1000003397 + 613 * (c + 1) * (c + 1) + 37 * (c + 1) + 11) % 2147483563))]) (by
        simp [c1, c2, c3])]
      generalize hx : (z % 1000003397 + 613 * (c + 1) * (c + 1) + 37 * (c + 1) + 11) % 2147483563 = x
      have x1 : -two64 < x ∧ x < two64 := by
        have h1 := Int.emod_nonneg (z % 1000003397 + 613 * (c + 1) * (c + 1) + 37 * (c + 1) + 11) (by decide : (2147483563 : Int) ≠ 0)
        have h2 := Int.emod_lt_of_pos (z % 1000003397 + 613 * (c + 1) * (c + 1) + 37 * (c + 1) + 11) (by decide : (0 : Int) < 2147483563)
        rw [hx] at h1 h2
        unfold two64
        omega
      have p5 : ∀ {x : Int}, (-two64 < x ∧ x < two64) → vbin .pow (.int x) (.int 5) = some (.int (x ^ 5)) := fun {x} h => r_pow_int (n := 5) (by decide) h.1 h.2
      rw [xs_nx (ρ' := [some (feedV cells (a + 1) 0 (c + 1)), some (.int m), some (.int (c + 1)), none, some (.int a), some (.int z), some (.int ((x ^ 5 + 90007 * (c + 1) + 3) % 2147483549))]) (by
        simp [p5 x1, c4])]
      generalize hy : (x ^ 5 + 90007 * (c + 1) + 3) % 2147483549 = y
      have y1 : -two64 < y ∧ y < two64 := by
        have h1 := Int.emod_nonneg (x ^ 5 + 90007 * (c + 1) + 3) (by decide : (2147483549 : Int) ≠ 0)
        have h2 := Int.emod_lt_of_pos (x ^ 5 + 90007 * (c + 1) + 3) (by decide : (0 : Int) < 2147483549)
        rw [hy] at h1 h2
        unfold two64
        omega
      refine vp_eq (xs_rt (v := .int ((y ^ 5 + 17 * y) % 2147483543 / 32 % m)) (ρ' := [some (feedV cells (a + 1) 0 (c + 1)), some (.int m), some (.int (c + 1)), none, some (.int a), some (.int z), some (.int y)]) ?_) ⟨_, rfl, _, _, rfl, rfl, Int.emod_nonneg _ (by omega), Int.emod_lt_of_pos _ q1, _, _, _, _, rfl, hc, by omega, by omega, by omega, by omega⟩
      simp [p5 y1, c5, q1]
end Dv
end

section
/-! Vd2 -/
set_option maxHeartbeats 1000000
/-! Vd2: texts sorted once each; a choice; the people. -/
namespace Dv
open PySem PySem.W

def stv (l : List Str) : List Va := l.map .str
theorem flats_stv (l : List Str) : Va.flats (stv l) = true := by
  unfold stv
  induction l with
  | nil => rfl
  | cons x l ih => simpa [Va.flats, Va.flat] using ih
theorem stv_len (l : List Str) : (stv l).length = l.length := by simp [stv]
/-- once each -/
def dd (l : List Str) : List Str := l.foldl (fun acc x => if x ∈ acc then acc else acc ++ [x]) []
theorem dd_facts : ∀ (l acc : List Str), acc.Nodup → (l.foldl (fun acc x => if x ∈ acc then acc else acc ++ [x]) acc).Nodup ∧ ∀ x, x ∈ l.foldl (fun acc x => if x ∈ acc then acc else acc ++ [x]) acc ↔ x ∈ acc ∨ x ∈ l
  | [], acc, nd => ⟨nd, fun x => by simp⟩
  | y :: l, acc, nd => by
    rw [List.foldl_cons]
    by_cases h : y ∈ acc
    · rw [if_pos h]
      obtain ⟨h1, h2⟩ := dd_facts l acc nd
      refine ⟨h1, fun x => (h2 x).trans ?_⟩
      constructor
      · rintro (h' | h')
        · exact .inl h'
        · exact .inr (List.mem_cons_of_mem _ h')
      · rintro (h' | h')
        · exact .inl h'
        · rcases List.mem_cons.mp h' with rfl | h'
          · exact .inl h
          · exact .inr h'
    · rw [if_neg h]
      obtain ⟨h1, h2⟩ := dd_facts l (acc ++ [y]) (by
        rw [List.nodup_append]
        refine ⟨nd, by simp, fun a ha b hb => ?_⟩
        rw [List.mem_singleton.mp hb]
        exact fun e => h (e ▸ ha))
      refine ⟨h1, fun x => (h2 x).trans ?_⟩
      simp only [List.mem_append, List.mem_cons, List.not_mem_nil, or_false]
      constructor
      · rintro ((h' | h') | h')
        · exact .inl h'
        · exact .inr (.inl h')
        · exact .inr (.inr h')
      · rintro (h' | h' | h')
        · exact .inl (.inl h')
        · exact .inl (.inr h')
        · exact .inr h'
def sLe (a b : Str) : Bool := decide (a.cps.toList ≤ b.cps.toList)
def usort (l : List Str) : List Str := (dd l).mergeSort sLe
theorem sLe_total (a b : Str) : (sLe a b || sLe b a) = true := by
  unfold sLe
  rcases List.le_total a.cps.toList b.cps.toList with h | h
  · simp [h]
  · simp [h]
theorem sLe_trans (a b c : Str) (h : sLe a b = true) (h' : sLe b c = true) : sLe a c = true := by
  unfold sLe at *
  exact decide_eq_true (List.le_trans (of_decide_eq_true h) (of_decide_eq_true h'))
theorem mem_usort {l : List Str} {x : Str} : x ∈ usort l ↔ x ∈ l := by
  unfold usort
  rw [List.mem_mergeSort]
  have := (dd_facts l [] List.nodup_nil).2 x
  simpa [dd] using this
theorem lt_of_le_ne {a b : Str} (h : sLe a b = true) (ne : a ≠ b) : a.cps.toList < b.cps.toList := by
  rcases List.le_iff_lt_or_eq.mp (of_decide_eq_true h) with h | h
  · exact h
  · exact absurd (str_of_cps h) ne
theorem asc_usort (l : List Str) : Asc (usort l) := by
  have h1 := List.pairwise_mergeSort (le := sLe) sLe_trans sLe_total (dd l)
  have h2 : (usort l).Nodup := ((List.mergeSort_perm (dd l) sLe).nodup_iff).mpr (dd_facts l [] List.nodup_nil).1
  unfold Asc
  exact List.Pairwise.imp₂ (fun a b h h' => lt_of_le_ne h h') h1 h2
theorem Asc.ext : ∀ {a b : List Str}, Asc a → Asc b → (∀ x, x ∈ a ↔ x ∈ b) → a = b
  | [], [], _, _, _ => rfl
  | [], y :: b, _, _, h => by simpa using h y
  | x :: a, [], _, _, h => by simpa using h x
  | x :: a, y :: b, ha, hb, h => by
    have ha' := List.pairwise_cons.mp ha
    have hb' := List.pairwise_cons.mp hb
    have e : x = y := by
      rcases List.mem_cons.mp ((h x).mp List.mem_cons_self) with e | e
      · exact e
      · rcases List.mem_cons.mp ((h y).mpr List.mem_cons_self) with e' | e'
        · exact e'.symm
        · exact absurd (List.lt_trans (hb'.1 x e) (ha'.1 y e')) (List.lt_irrefl _)
    subst e
    congr 1
    refine Asc.ext ha'.2 hb'.2 fun z => ?_
    have hz := h z
    constructor
    · intro hm
      rcases List.mem_cons.mp (hz.mp (List.mem_cons_of_mem _ hm)) with e | e
      · rw [e] at hm; exact absurd (ha'.1 _ hm) (List.lt_irrefl _)
      · exact e
    · intro hm
      rcases List.mem_cons.mp (hz.mpr (List.mem_cons_of_mem _ hm)) with e | e
      · rw [e] at hm; exact absurd (hb'.1 _ hm) (List.lt_irrefl _)
      · exact e
theorem usort_eq {l P : List Str} (h : Asc P) (hm : ∀ x, x ∈ l ↔ x ∈ P) : usort l = P := (asc_usort l).ext h fun x => mem_usort.trans (hm x)
theorem vkeys_strs : ∀ l : List Str, vkeys? (stv l) = some (l.map .inr)
  | [] => rfl
  | x :: l => by
    have := vkeys_strs l
    simp only [stv, List.map_cons, vkeys?, vkey?] at this ⊢
    rw [this]
theorem met_strs (l : List Str) : met (l.map .inr) (l.map Sum.inr : List Ke).length = (dd l).map .inr := by
  unfold met dd
  rw [List.take_length]
  suffices H : ∀ acc : List Str, (l.map (Sum.inr : Str → Ke)).foldl addK (acc.map .inr) = (l.foldl (fun acc x => if x ∈ acc then acc else acc ++ [x]) acc).map .inr from H []
  induction l with
  | nil => intro acc; rfl
  | cons x l ih =>
    intro acc
    rw [List.map_cons, List.foldl_cons, List.foldl_cons, ← ih]
    congr 1
    unfold addK
    have : ((acc.map (Sum.inr : Str → Ke)).any fun j => decide (j = .inr x)) = decide (x ∈ acc) := by
      rw [Bool.eq_iff_iff]
      simp
    rw [this]
    by_cases h : x ∈ acc
    · simp [h]
    · simp [h]
theorem vsset_strs {l : List Str} (h : ∀ x ∈ l, PyData.strOk x = true) (hl : l.length < 4000) : vbi .sset [.list (stv l)] = some (.list (stv (usort l))) := by
  show vsset [.list (stv l)] = some (.list (stv (usort l)))
  unfold vsset
  simp only [vkeys_strs]
  rw [if_pos]
  · rw [met_strs]
    congr 2
    unfold usort
    have := List.map_mergeSort (r := sLe) (s := keyLe) (f := (Sum.inr : Str → Ke)) (l := dd l) fun a _ b _ => rfl
    rw [← this, List.map_map]
    rfl
  · refine ⟨?_, ?_, by simpa using hl⟩
    · unfold oneKind
      rw [Bool.or_eq_true]
      right
      simp [isInl]
    · simp only [List.all_map, List.all_eq_true]
      intro x hx
      exact shaped_str (h x hx)
/-! ### a choice -/
def bChoice (kd : Nat) : List T := [.ret (.ix (.loc 1) (.call kd [(.loc 0), (.bi .len [(.loc 1)])]))]
/-- a choice among xs, and the feed behind -/
def ChoiceOk (Fd : Nat → Va → Prop) (f : VCall) (k : Nat) : Prop := ∀ (n : Nat) (v s : Va) (xs : List Va), Fd n v → n < 2 ^ 60 → (s = .list xs ∨ s = .tup xs) → 1 ≤ xs.length → xs.length < 2 ^ 30 → (∀ x ∈ xs, x.flat = true) → ∃ x v', f k [v, s] = .ok x [v'] ∧ x ∈ xs ∧ Fd (n + 1) v'
theorem choice1 {Fd : Nat → Va → Prop} {f : VCall} {io : Nat → List Nat} {w n kd : Nat} {v s : Va} {xs : List Va} {b : Bool} (hio : io kd = [0]) (D : DrawOk Fd f kd) (F : Fd n v) (hn : n < 2 ^ 60) (hs : s = .list xs ∨ s = .tup xs) (h1 : 1 ≤ xs.length) (h2 : xs.length < 2 ^ 30) (hf : ∀ x ∈ xs, x.flat = true) :
    ∃ x v', runV f io w ⟨2, 2, bChoice kd⟩ ⟨[0], true, b⟩ [v, s] = .ok x [v'] ∧ x ∈ xs ∧ Fd (n + 1) v' := by
  obtain ⟨r, v', e, r0, r1, F'⟩ := D n v xs.length F hn (by omega) (by omega)
  have at1 := vat_nat r0 r1
  have hmem : xs[r.toNat]'(by omega) ∈ xs := List.getElem_mem _
  refine ⟨xs[r.toNat]'(by omega), v', ?_, hmem, F'⟩
  have l1 : vbi .len [s] = some (.int xs.length) := by rcases hs with rfl | rfl <;> rfl
  have l2 : vidx s (.int r) = L2.atI xs r := by rcases hs with rfl | rfl <;> rfl
  rw [run_rt (ρ := [some v', some s]) (v := xs[r.toNat]'(by omega)) rfl]
  · have := hf _ hmem
    simp [vend, outs, this]
  · show vXs f io w (bChoice kd) _ = _
    unfold bChoice
    refine xs_rt ?_
    simp [vstart, l1, doCall, hio, vfront, e, afterCall, vback, l2, at1]
/-! ### the people -/
def prV (p : Str × Str) : Va := .tup [.str p.1, .str p.2]
def bPeople : List T := [.ret (.bi .tuple [(.bi .sset [(.lc (.ix (.loc 1) (.cst (.int 0))) (.nm 1) (.loc 0) [])])])]
theorem people1 {f : VCall} {io : Nat → List Nat} {w : Nat} {L : List (Str × Str)} {b : Bool} (h : ∀ p ∈ L, PyData.strOk p.1 = true) (hl : L.length < 4000) (hw : 4000 ≤ w) :
    runV f io w ⟨1, 2, bPeople⟩ ⟨[], true, b⟩ [.tup (L.map prV)] = .ok (.tup (stv (usort (L.map (·.1))))) [] := by
  rw [run_rt (ρ := [some (.tup (L.map prV)), none]) (v := .tup (stv (usort (L.map (·.1))))) rfl]
  · exact vend_flat rfl (.inr (by simp [Va.flat, flats_stv]))
  · show vXs f io w bPeople _ = _
    unfold bPeople
    refine xs_rt ?_
    have lc := lc_map' (f := f) (io := io) (w := w) (ρ := [some (.tup (L.map prV)), none]) (ρ' := [some (.tup (L.map prV)), none]) prV (t := .nm 1) (e := .ix (.loc 1) (.cst (.int 0))) (it := .loc 0) (l := L) (x := .tup (L.map prV)) (fun p => .str p.1) (by simp) rfl (by omega) (by omega) fun p hp => ⟨_, rfl, by simp [prV, vat_nat]⟩
    have e2 : (L.map fun p => Va.str p.1) = stv (L.map (·.1)) := by simp [stv]
    have ss := vsset_strs (l := L.map (·.1)) (fun x hx => by obtain ⟨p, hp, rfl⟩ := List.mem_map.mp hx; exact h p hp) (by simpa using hl)
    rw [e2] at lc
    simp [vstart, lc, ss]
end Dv
end

section
/-! Vd3 -/
set_option maxHeartbeats 1000000
/-! Vd3: all holdings, as the laws list them. -/
namespace Dv
open PySem PySem.W

abbrev Pair := Str × Str
def extH (L : List Pair) (name : Str) (held : List Pair) : List (List Pair) := (L.filter fun p => decide (p.1 = name) && !decide (p.2 ∈ held.map (·.2))).map fun p => held ++ [p]
def stepH (L : List Pair) (name : Str) (F : List (List Pair)) : List (List Pair) := F.flatMap (extH L name)
def holdsL (L : List Pair) (names : List Str) : List (List Pair) := names.foldl (fun F nm => stepH L nm F) [[]]
def encH (h : List Pair) : Va := .tup (h.map prV)
def bHoldings (kp : Nat) : List T := [.asg (.nm 1) (.lst [(.tup [])]),
  .for_ (.nm 2) (.call kp [(.loc 0)])
    [.asg (.nm 3) (.lst []),
    .for_ (.nm 4) (.loc 1)
      [.asg (.nm 5) (.lc (.ix (.loc 6) (.cst (.int 1))) (.nm 6) (.loc 4) []),
      .ex (.me .extend (.loc 3) [(.lc (.bin .add (.loc 4) (.tup [(.loc 6)])) (.nm 6) (.loc 0) [(.and [(.cmp .eq (.ix (.loc 6) (.cst (.int 0))) (.loc 2)), (.cmp .nin (.ix (.loc 6) (.cst (.int 1))) (.loc 5))])])])],
    .asg (.nm 1) (.loc 3)],
  .ret (.loc 1)]
/-- texts that a comparison takes -/
def FineP (L : List Pair) : Prop := ∀ p ∈ L, PyData.strOk p.1 = true ∧ PyData.strOk p.2 = true
theorem nice_str {x : Str} {n : Nat} (h : PyData.strOk x = true) : (Va.str x).nice false n = true := by simpa [Va.nice] using h
theorem nices_stv {l : List Str} {n : Nat} (h : ∀ x ∈ l, PyData.strOk x = true) : Va.nices false (stv l) n = true := nices_iff.mpr fun v hv => by
  obtain ⟨x, hx, rfl⟩ := List.mem_map.mp hv
  exact nice_str (h x hx)
theorem mem_stv {x : Str} {l : List Str} : Va.str x ∈ stv l ↔ x ∈ l := by simp [stv]
theorem vin_stv {x : Str} {l : List Str} (hx : PyData.strOk x = true) (h : ∀ x ∈ l, PyData.strOk x = true) : vin (.str x) (.list (stv l)) = some (decide (x ∈ l)) := by
  rw [vin_list (nice_str hx) (nices_stv h)]
  simp [mem_stv]
theorem vin_stvT {x : Str} {l : List Str} (hx : PyData.strOk x = true) (h : ∀ x ∈ l, PyData.strOk x = true) : vin (.str x) (.tup (stv l)) = some (decide (x ∈ l)) := by
  rw [vin_tup (nice_str hx) (nices_stv h)]
  simp [mem_stv]
theorem mem_extH {L : List Pair} {name : Str} {held h : List Pair} : h ∈ extH L name held ↔ ∃ p ∈ L, p.1 = name ∧ p.2 ∉ held.map (·.2) ∧ h = held ++ [p] := by
  unfold extH
  simp only [List.mem_map, List.mem_filter, Bool.and_eq_true, decide_eq_true_eq, Bool.not_eq_true', decide_eq_false_iff_not]
  constructor
  · rintro ⟨p, ⟨h1, h2, h3⟩, rfl⟩; exact ⟨p, h1, h2, by simpa using h3, rfl⟩
  · rintro ⟨p, h1, h2, h3, rfl⟩; exact ⟨p, ⟨h1, h2, by simpa using h3⟩, rfl⟩
theorem mem_stepH {L : List Pair} {name : Str} {F : List (List Pair)} {h : List Pair} : h ∈ stepH L name F ↔ ∃ held ∈ F, h ∈ extH L name held := by simp [stepH]
/-- one person more -/
theorem inner_ok {f : VCall} {io : Nat → List Nat} {w : Nat} {L : List Pair} {name : Str} {F : List (List Pair)} {a4 a5 : Option Va} (hL : FineP L) (hn : PyData.strOk name = true) (hF : ∀ h ∈ F, FineP h ∧ h.length < 4000) (hw : 100000 < w) (l1 : L.length < 4000) (l2 : F.length < 100000) (l3 : (stepH L name F).length < 100000) :
    ∃ b4 b5, vX f io w (.for_ (.nm 4) (.loc 1)
      [.asg (.nm 5) (.lc (.ix (.loc 6) (.cst (.int 1))) (.nm 6) (.loc 4) []),
      .ex (.me .extend (.loc 3) [(.lc (.bin .add (.loc 4) (.tup [(.loc 6)])) (.nm 6) (.loc 0) [(.and [(.cmp .eq (.ix (.loc 6) (.cst (.int 0))) (.loc 2)), (.cmp .nin (.ix (.loc 6) (.cst (.int 1))) (.loc 5))])])])]) [some (encH L), some (.list (F.map encH)), some (.str name), some (.list []), a4, a5, none] =
      .ok .nx [some (encH L), some (.list (F.map encH)), some (.str name), some (.list ((stepH L name F).map encH)), b4, b5, none] := by
  rw [x_for (x := .list (F.map encH)) (ds := F.map encH) (ρ' := [some (encH L), some (.list (F.map encH)), some (.str name), some (.list []), a4, a5, none]) (by simp) rfl (by rw [List.length_map]; omega)]
  have H := for_all (enc := encH) (l := F) (b := tnX f io w (.nm 4) [.asg (.nm 5) (.lc (.ix (.loc 6) (.cst (.int 1))) (.nm 6) (.loc 4) []),
      .ex (.me .extend (.loc 3) [(.lc (.bin .add (.loc 4) (.tup [(.loc 6)])) (.nm 6) (.loc 0) [(.and [(.cmp .eq (.ix (.loc 6) (.cst (.int 0))) (.loc 2)), (.cmp .nin (.ix (.loc 6) (.cst (.int 1))) (.loc 5))])])])])
    (fun pre ρ => ∃ b4 b5, ρ = [some (encH L), some (.list (F.map encH)), some (.str name), some (.list ((stepH L name pre).map encH)), b4, b5, none]) (ρ := [some (encH L), some (.list (F.map encH)), some (.str name), some (.list []), a4, a5, none]) ⟨a4, a5, rfl⟩ fun pre held post ρ e hI => by
    obtain ⟨b4, b5, rfl⟩ := hI
    have hh := hF held (by rw [e]; simp)
    have lc1 := lc_map' (f := f) (io := io) (w := w) (ρ := [some (encH L), some (.list (F.map encH)), some (.str name), some (.list ((stepH L name pre).map encH)), some (encH held), b5, none]) (ρ' := [some (encH L), some (.list (F.map encH)), some (.str name), some (.list ((stepH L name pre).map encH)), some (encH held), b5, none])
      prV (t := .nm 6) (e := .ix (.loc 6) (.cst (.int 1))) (it := .loc 4) (l := held) (x := encH held) (fun p => .str p.2) (by simp) rfl (by omega) (by omega) fun p hp => ⟨_, rfl, by simp [prV, vat_nat]⟩
    have e2 : (held.map fun p => Va.str p.2) = stv (held.map (·.2)) := by simp [stv]
    rw [e2] at lc1
    have lc2 := lc_pure (f := f) (io := io) (w := w) (ρ := [some (encH L), some (.list (F.map encH)), some (.str name), some (.list ((stepH L name pre).map encH)), some (encH held), some (.list (stv (held.map (·.2)))), none]) (ρ' := [some (encH L), some (.list (F.map encH)), some (.str name), some (.list ((stepH L name pre).map encH)), some (encH held), some (.list (stv (held.map (·.2)))), none])
      prV (t := .nm 6) (e := .bin .add (.loc 4) (.tup [(.loc 6)])) (it := .loc 0) (l := L) (x := encH L) (cs := [(.and [(.cmp .eq (.ix (.loc 6) (.cst (.int 0))) (.loc 2)), (.cmp .nin (.ix (.loc 6) (.cst (.int 1))) (.loc 5))])])
      (fun p => decide (p.1 = name) && !decide (p.2 ∈ held.map (·.2))) (fun p => encH (held ++ [p])) (by simp) rfl (by omega) (by omega) fun p hp => ⟨_, rfl, by
        obtain ⟨h1, h2⟩ := hL p hp
        have q1 := veq_str h1 hn
        have q2 := vin_stv h2 (l := held.map (·.2)) fun x hx => by obtain ⟨p, hp, rfl⟩ := List.mem_map.mp hx; exact (hh.1 p hp).2
        by_cases c : p.1 = name
        · have c' := decide_eq_true c
          rw [c'] at q1
          generalize hz : decide (p.2 ∈ held.map (·.2)) = z at *
          cases z <;> simp [prV, vat_nat, q1, q2, c']
        · have c' := decide_eq_false c
          rw [c'] at q1
          simp [prV, vat_nat, q1, c'], fun _ => by
        have := r_add_tup (xs := held.map prV) (ys := [prV p]) (by simp; omega)
        simp [encH, this]⟩
    have e3 : ((L.filter fun p => decide (p.1 = name) && !decide (p.2 ∈ held.map (·.2))).map fun p => encH (held ++ [p])) = (extH L name held).map encH := by simp [extH]
    rw [e3] at lc2
    have e4 : stepH L name (pre ++ [held]) = stepH L name pre ++ extH L name held := by simp [stepH]
    have l4 : ((stepH L name pre).map encH).length + ((extH L name held).map encH).length ≤ 16777216 := by
      have : stepH L name F = stepH L name (pre ++ [held]) ++ stepH L name post := by rw [e]; simp [stepH]
      rw [this, e4, List.length_append, List.length_append] at l3
      rw [List.length_map, List.length_map]
      omega
    have x1 : vX f io w (.asg (.nm 5) (.lc (.ix (.loc 6) (.cst (.int 1))) (.nm 6) (.loc 4) [])) [some (encH L), some (.list (F.map encH)), some (.str name), some (.list ((stepH L name pre).map encH)), some (encH held), b5, none] =
      .ok .nx [some (encH L), some (.list (F.map encH)), some (.str name), some (.list ((stepH L name pre).map encH)), some (encH held), some (.list (stv (held.map (·.2)))), none] := by
      rw [x_asg, lc1]
      simp
    have x2 : vX f io w (.ex (.me .extend (.loc 3) [(.lc (.bin .add (.loc 4) (.tup [(.loc 6)])) (.nm 6) (.loc 0) [(.and [(.cmp .eq (.ix (.loc 6) (.cst (.int 0))) (.loc 2)), (.cmp .nin (.ix (.loc 6) (.cst (.int 1))) (.loc 5))])])])) [some (encH L), some (.list (F.map encH)), some (.str name), some (.list ((stepH L name pre).map encH)), some (encH held), some (.list (stv (held.map (·.2)))), none] =
      .ok .nx [some (encH L), some (.list (F.map encH)), some (.str name), some (.list ((stepH L name pre).map encH ++ (extH L name held).map encH)), some (encH held), some (.list (stv (held.map (·.2)))), none] := by
      simp only [x_ex, e_me, es_cons, es_nil, lc2, List.getElem?_cons_succ, List.getElem?_cons_zero, VR.bind_ok, m_ext l4]
      rfl
    refine vp_eq (a := .nx) (ρ := [some (encH L), some (.list (F.map encH)), some (.str name), some (.list ((stepH L name pre).map encH ++ (extH L name held).map encH)), some (encH held), some (.list (stv (held.map (·.2)))), none]) ?_ ⟨.inl rfl, some (encH held), some (.list (stv (held.map (·.2)))), by rw [e4, List.map_append]⟩
    unfold tnX
    simp only [st_nm, List.set_cons_succ, List.set_cons_zero]
    rw [xs_nx x1, xs_nx x2, xs_nil]
  obtain ⟨fl, ρ, e, rfl, b4, b5, rfl⟩ := vp_out H
  exact ⟨b4, b5, e⟩
theorem holds_fine {L : List Pair} (hL : FineP L) : ∀ {names : List Str} {F : List (List Pair)} {k : Nat}, (∀ h ∈ F, FineP h ∧ h.length ≤ k) → ∀ h ∈ names.foldl (fun F nm => stepH L nm F) F, FineP h ∧ h.length ≤ k + names.length
  | [], F, k, hF, h, hh => by have := hF h hh; exact ⟨this.1, by simpa using this.2⟩
  | x :: names, F, k, hF, h, hh => by
    have := holds_fine hL (names := names) (F := stepH L x F) (k := k + 1) (fun g hg => by
      obtain ⟨held, h1, h2⟩ := mem_stepH.mp hg
      obtain ⟨p, p1, p2, p3, rfl⟩ := mem_extH.mp h2
      obtain ⟨q1, q2⟩ := hF held h1
      refine ⟨fun r hr => ?_, by simp; omega⟩
      rcases List.mem_append.mp hr with hr | hr
      · exact q1 r hr
      · rw [List.mem_singleton.mp hr]; exact hL p p1) h hh
    exact ⟨this.1, by rw [List.length_cons]; omega⟩
/-- the people, as a function -/
def PeopleOk (f : VCall) (k : Nat) : Prop := ∀ L : List Pair, FineP L → L.length < 4000 → f k [encH L] = .ok (.tup (stv (usort (L.map (·.1))))) []
theorem holdings1 {f : VCall} {io : Nat → List Nat} {w kp : Nat} {L : List Pair} {b : Bool} (hio : io kp = []) (hp : PeopleOk f kp) (hL : FineP L) (hw : 100000 < w) (l1 : L.length < 4000)
    (l2 : ∀ pre post, usort (L.map (·.1)) = pre ++ post → (holdsL L pre).length < 100000) (l3 : (usort (L.map (·.1))).length < 3000) :
    runV f io w ⟨1, 7, bHoldings kp⟩ ⟨[], false, b⟩ [encH L] = .ok (.list ((holdsL L (usort (L.map (·.1)))).map encH)) [] := by
  have hP : ∀ x ∈ usort (L.map (·.1)), PyData.strOk x = true := fun x hx => by
    obtain ⟨p, hp, rfl⟩ := List.mem_map.mp (mem_usort.mp hx)
    exact (hL p hp).1
  generalize hPs : usort (L.map (·.1)) = P at *
  suffices H : ∃ b2 b3 b4 b5, vXs f io w (bHoldings kp) (vstart 7 [encH L]) = .ok (.rt (.list ((holdsL L P).map encH))) [some (encH L), some (.list ((holdsL L P).map encH)), b2, b3, b4, b5, none] by
    obtain ⟨b2, b3, b4, b5, e⟩ := H
    rw [run_rt rfl e]
    exact vend_flat rfl (.inl rfl)
  unfold bHoldings
  rw [xs_nx (ρ' := [some (encH L), some (.list [encH []]), none, none, none, none, none]) (by simp [vstart, encH])]
  have fine : ∀ pre post, P = pre ++ post → ∀ h ∈ holdsL L pre, FineP h ∧ h.length ≤ pre.length := fun pre post e h hh => by
    have := holds_fine hL (names := pre) (F := [[]]) (k := 0) (fun h hh => by rw [List.mem_singleton.mp hh]; exact ⟨fun p hp => by simp at hp, Nat.le_refl _⟩) h hh
    exact ⟨this.1, by omega⟩
  have call : vE f io w (.call kp [(.loc 0)]) [some (encH L), some (.list [encH []]), none, none, none, none, none] = .ok (.tup (stv P)) [some (encH L), some (.list [encH []]), none, none, none, none, none] := by
    have e := hp L hL l1
    rw [hPs] at e
    simp [doCall, hio, vfront, e, afterCall, vback]
  have H := for_all (enc := Va.str) (l := P) (b := tnX f io w (.nm 2) [.asg (.nm 3) (.lst []),
    .for_ (.nm 4) (.loc 1)
      [.asg (.nm 5) (.lc (.ix (.loc 6) (.cst (.int 1))) (.nm 6) (.loc 4) []),
      .ex (.me .extend (.loc 3) [(.lc (.bin .add (.loc 4) (.tup [(.loc 6)])) (.nm 6) (.loc 0) [(.and [(.cmp .eq (.ix (.loc 6) (.cst (.int 0))) (.loc 2)), (.cmp .nin (.ix (.loc 6) (.cst (.int 1))) (.loc 5))])])])],
    .asg (.nm 1) (.loc 3)])
    (fun pre ρ => ∃ b2 b3 b4 b5, ρ = [some (encH L), some (.list ((holdsL L pre).map encH)), b2, b3, b4, b5, none]) (ρ := [some (encH L), some (.list [encH []]), none, none, none, none, none]) ⟨_, _, _, _, rfl⟩ fun pre x post ρ e hI => by
    obtain ⟨b2, b3, b4, b5, rfl⟩ := hI
    have hl := l2 pre (x :: post) e
    have hl2 := l2 (pre ++ [x]) post (by rw [e]; simp)
    have e4 : holdsL L (pre ++ [x]) = stepH L x (holdsL L pre) := by simp [holdsL]
    rw [e4] at hl2
    have lp : pre.length < 3000 := by rw [e, List.length_append] at l3; omega
    obtain ⟨c4, c5, ei⟩ := inner_ok (f := f) (io := io) (w := w) (L := L) (name := x) (F := holdsL L pre) (a4 := b4) (a5 := b5) hL (hP x (by rw [e]; simp)) (fun h hh => ⟨(fine pre _ e h hh).1, by have := (fine pre _ e h hh).2; omega⟩) hw l1 hl hl2
    refine vp_eq (a := .nx) (ρ := [some (encH L), some (.list ((stepH L x (holdsL L pre)).map encH)), some (.str x), some (.list ((stepH L x (holdsL L pre)).map encH)), c4, c5, none]) ?_ ⟨.inl rfl, _, _, _, _, by rw [e4]⟩
    unfold tnX
    simp only [st_nm, List.set_cons_succ, List.set_cons_zero]
    rw [xs_nx (ρ' := [some (encH L), some (.list ((holdsL L pre).map encH)), some (.str x), some (.list []), b4, b5, none]) (by simp), xs_nx ei, xs_nx (ρ' := [some (encH L), some (.list ((stepH L x (holdsL L pre)).map encH)), some (.str x), some (.list ((stepH L x (holdsL L pre)).map encH)), c4, c5, none]) (by simp), xs_nil]
  obtain ⟨fl, ρ, e, rfl, b2, b3, b4, b5, rfl⟩ := vp_out H
  refine ⟨b2, b3, b4, b5, ?_⟩
  rw [xs_nx (ρ' := [some (encH L), some (.list ((holdsL L P).map encH)), b2, b3, b4, b5, none]) (by
    rw [x_for call rfl (by rw [stv_len]; omega)]
    exact e)]
  exact xs_rt (by simp)
end Dv
end

section
/-! Vd4 -/
set_option maxHeartbeats 2000000
/-! Vd4: drawn acceptances. -/
namespace Dv
open PySem PySem.W

def poolP : List Str := ["ann", "bob", "cy", "dan", "eve", "z"]
def poolG : List Str := ["ann", "bed", "cot", "den", "urn", "zzzzzzzz"]
def pairsOf (P : List Str) (Gs : List (List Str)) : List Pair := ((P.zip Gs).map fun x => x.2.map fun g => (x.1, g)).flatten
/-- a drawn case: people, items, whose items are accepted, a holding -/
structure Case (lim : Nat) (P G : List Str) (Gs : List (List Str)) (own : List Str) : Prop where
  pP : P.Sublist poolP
  pG : G.Sublist poolG
  len : P.length = G.length
  two : 2 ≤ P.length
  most : P.length ≤ lim
  lGs : Gs.length = P.length
  sub : ∀ gs ∈ Gs, gs.Sublist G
  perm : own.Perm G
  acc : ∀ (i : Nat) (g : Str) (gs : List Str), own[i]? = some g → Gs[i]? = some gs → g ∈ gs
theorem Feed1.mono {n m : Nat} {v : Va} (F : Feed1 n v) (h : n ≤ m) : Feed1 m v := by
  obtain ⟨cells, a, l, c, e, h1, h2, h3, h4, h5⟩ := F
  exact ⟨cells, a, l, c, e, h1, h2, h3, h4, by omega⟩
def bCase (kd : Nat) : List T := [.asg (.tp [2, 3]) (.tup [(.lst [(.cst (.str "ann")), (.cst (.str "bob")), (.cst (.str "cy")), (.cst (.str "dan")), (.cst (.str "eve")), (.cst (.str "z"))]), (.lst [(.cst (.str "ann")), (.cst (.str "bed")), (.cst (.str "cot")), (.cst (.str "den")), (.cst (.str "urn")), (.cst (.str "zzzzzzzz"))])]),
  .asg (.tp [4, 5]) (.tup [(.bin .add (.cst (.int 2)) (.call kd [(.loc 0), (.bin .sub (.loc 1) (.cst (.int 1)))])), (.call kd [(.loc 0), (.cst (.int 4))])]),
  .whl (.cmp .gt (.bi .len [(.loc 2)]) (.loc 4))
    [.ex (.me .pop (.loc 2) [(.call kd [(.loc 0), (.bi .len [(.loc 2)])])]),
    .ex (.me .pop (.loc 3) [(.call kd [(.loc 0), (.bi .len [(.loc 3)])])])],
  .asg (.tp [6, 7]) (.tup [(.bi .list [(.loc 3)]), (.lst [])]),
  .for_ (.nm 8) (.loc 2)
    [.asg (.nm 9) (.me .pop (.loc 6) [(.call kd [(.loc 0), (.bi .len [(.loc 6)])])]),
    .ex (.me .extend (.loc 7) [(.lc (.tup [(.loc 8), (.loc 10)]) (.nm 10) (.loc 3) [(.or [(.cmp .eq (.loc 10) (.loc 9)), (.cmp .eq (.call kd [(.loc 0), (.bin .add (.cst (.int 1)) (.loc 5))]) (.cst (.int 0)))])])])],
  .ret (.bi .tuple [(.loc 7)])]
theorem stv_erase : ∀ (l : List Str) (i : Nat), (stv l).eraseIdx i = stv (l.eraseIdx i)
  | [], i => rfl
  | x :: l, 0 => rfl
  | x :: l, i + 1 => by
    have := stv_erase l i
    simp only [stv, List.map_cons, List.eraseIdx_cons_succ] at this ⊢
    rw [this]
theorem perm_pop {α : Type} {l : List α} {i : Nat} (h : i < l.length) : ([l[i]] ++ l.eraseIdx i).Perm l := by
  rw [List.eraseIdx_eq_take_drop_succ]
  have e : l = l.take i ++ l[i] :: l.drop (i + 1) := by
    rw [← List.drop_eq_getElem_cons h, List.take_append_drop]
  have p : ([l[i]] ++ (l.take i ++ l.drop (i + 1))).Perm (l.take i ++ l[i] :: l.drop (i + 1)) := by
    exact (List.perm_middle (a := l[i]) (l₁ := l.take i) (l₂ := l.drop (i + 1))).symm
  rw [← e] at p
  exact p
theorem fine_pools : (∀ x ∈ poolP, PyData.strOk x = true) ∧ ∀ x ∈ poolG, PyData.strOk x = true := by decide +kernel
section
variable {f : VCall} {io : Nat → List Nat} {w kd : Nat} (hio : io kd = [0]) (D : DrawOk Feed1 f kd)
include hio D
/-- a draw as an expression -/
theorem draw_e {n : Nat} {v : Va} {m : Int} {e : C} {ρ : Ev} (F : Feed1 n v) (hn : n < 2 ^ 60) (h1 : 1 ≤ m) (h2 : m < 2 ^ 30) (h0 : ρ[0]? = some (some v)) (he : vE f io w e ρ = .ok (.int m) ρ) :
    ∃ r v', vE f io w (.call kd [(.loc 0), e]) ρ = .ok (.int r) (ρ.set 0 (some v')) ∧ 0 ≤ r ∧ r < m ∧ Feed1 (n + 1) v' := by
  obtain ⟨r, v', e1, r0, r1, F'⟩ := D n v m F hn h1 h2
  refine ⟨r, v', ?_, r0, r1, F'⟩
  simp [h0, he, doCall, hio, vfront, e1, afterCall, vback]
/-- a pop of a drawn place -/
theorem pop_e {n i : Nat} {v : Va} {xs : List Va} {ρ : Ev} (F : Feed1 n v) (hn : n < 2 ^ 60) (h1 : 1 ≤ xs.length) (h2 : xs.length < 2 ^ 30) (h0 : ρ[0]? = some (some v)) (hi : ρ[i]? = some (some (.list xs))) (hne : i ≠ 0) :
    ∃ (r : Nat) (hr : r < xs.length) (v' : Va), vE f io w (.me .pop (.loc i) [(.call kd [(.loc 0), (.bi .len [(.loc i)])])]) ρ = .ok xs[r] ((ρ.set 0 (some v')).set i (some (.list (xs.eraseIdx r)))) ∧ Feed1 (n + 1) v' := by
  obtain ⟨r, v', e1, r0, r1, F'⟩ := draw_e (w := w) (e := .bi .len [(.loc i)]) hio D F hn (m := xs.length) (by omega) (by omega) h0 (by simp [hi])
  have hr : r.toNat < xs.length := by omega
  refine ⟨r.toNat, hr, v', ?_, F'⟩
  have hp := m_pop hr (by omega)
  rw [show ((r.toNat : Nat) : Int) = r by omega] at hp
  have hi' : (ρ.set 0 (some v'))[i]? = some (some (.list xs)) := by rw [List.getElem?_set_ne (Ne.symm hne)]; exact hi
  simp only [e_me, hi, es_cons, es_nil, e1, VR.bind_ok, hi', hp]
/-- the items that a person accepts -/
theorem items_e {n : Nat} {v : Va} {limv : Va} {P G : List Str} {cnt rare : Int} {rest found : Va} {name own : Str} {a10 : Option Va} (F : Feed1 n v) (hn : n < 2 ^ 59) (hG : ∀ g ∈ G, PyData.strOk g = true) (ho : PyData.strOk own = true) (hw : 1000 < w) (lG : G.length < 100) (r0 : 0 ≤ rare) (r1 : rare < 1000) :
    ∃ (gs : List Str) (v' : Va), vE f io w (.lc (.tup [(.loc 8), (.loc 10)]) (.nm 10) (.loc 3) [(.or [(.cmp .eq (.loc 10) (.loc 9)), (.cmp .eq (.call kd [(.loc 0), (.bin .add (.cst (.int 1)) (.loc 5))]) (.cst (.int 0)))])]) [some v, some limv, some (.list (stv P)), some (.list (stv G)), some (.int cnt), some (.int rare), some rest, some found, some (.str name), some (.str own), a10] =
      .ok (.list (gs.map fun g => prV (name, g))) [some v', some limv, some (.list (stv P)), some (.list (stv G)), some (.int cnt), some (.int rare), some rest, some found, some (.str name), some (.str own), a10] ∧ Feed1 (n + G.length) v' ∧ gs.Sublist G ∧ (own ∈ G → own ∈ gs) := by
  rw [e_lc (x := .list (stv G)) (ds := stv G) (ρ' := [some v, some limv, some (.list (stv P)), some (.list (stv G)), some (.int cnt), some (.int rare), some rest, some found, some (.str name), some (.str own), a10]) (by simp) rfl (by rw [stv_len]; omega)]
  have H := lc_wp (enc := Va.str) (b := tnV f io w (.nm 10) [(.or [(.cmp .eq (.loc 10) (.loc 9)), (.cmp .eq (.call kd [(.loc 0), (.bin .add (.cst (.int 1)) (.loc 5))]) (.cst (.int 0)))])] (.tup [(.loc 8), (.loc 10)]))
    (fun pre acc ρ => ∃ (gs : List Str) (v' : Va), acc = gs.map (fun g => prV (name, g)) ∧ ρ = [some v', some limv, some (.list (stv P)), some (.list (stv G)), some (.int cnt), some (.int rare), some rest, some found, some (.str name), some (.str own), a10] ∧ Feed1 (n + pre.length) v' ∧ gs.Sublist pre ∧ (own ∈ pre → own ∈ gs))
    G [] [] [some v, some limv, some (.list (stv P)), some (.list (stv G)), some (.int cnt), some (.int rare), some rest, some found, some (.str name), some (.str own), a10] ⟨[], v, rfl, rfl, F, List.Sublist.refl _, fun h => h⟩ (by rw [sizeLine_eq]; simp; omega) fun pre g post acc ρ e hI => by
      obtain ⟨gs, v', rfl, rfl, F', hs, ho'⟩ := hI
      rw [List.nil_append] at e
      have lp : pre.length < 100 := by rw [e, List.length_append] at lG; omega
      have hg := hG g (by rw [e]; simp)
      have q := veq_str hg ho
      have keep : ∀ v'', Feed1 (n + pre.length + 1) v'' → ∃ (gs' : List Str) (v3 : Va), gs.map (fun g => prV (name, g)) ++ [prV (name, g)] = gs'.map (fun g => prV (name, g)) ∧ [some v'', some limv, some (Va.list (stv P)), some (.list (stv G)), some (.int cnt), some (.int rare), some rest, some found, some (.str name), some (.str own), a10] = [some v3, some limv, some (.list (stv P)), some (.list (stv G)), some (.int cnt), some (.int rare), some rest, some found, some (.str name), some (.str own), a10] ∧ Feed1 (n + (pre ++ [g]).length) v3 ∧ gs'.Sublist (pre ++ [g]) ∧ (own ∈ pre ++ [g] → own ∈ gs') := fun v'' F'' =>
        ⟨gs ++ [g], v'', by simp, rfl, by rw [List.length_append]; exact F'', hs.append (List.Sublist.refl _), fun h => by
          rcases List.mem_append.mp h with h | h
          · exact List.mem_append_left _ (ho' h)
          · exact List.mem_append_right _ h⟩
      by_cases c : g = own
      · rw [decide_eq_true c] at q
        refine vp_eq (a := some (prV (name, g))) (ρ := [some v', some limv, some (.list (stv P)), some (.list (stv G)), some (.int cnt), some (.int rare), some rest, some found, some (.str name), some (.str own), a10]) ?_ (keep v' (F'.mono (by omega)))
        simp [tnV, q, VR.scope, back, prV]
      · rw [decide_eq_false c] at q
        obtain ⟨r, v'', e1, q0, q1, F''⟩ := draw_e (w := w) (e := .bin .add (.cst (.int 1)) (.loc 5)) (ρ := [some v', some limv, some (.list (stv P)), some (.list (stv G)), some (.int cnt), some (.int rare), some rest, some found, some (.str name), some (.str own), some (.str g)]) (m := 1 + rare) hio D F' (by omega) (by omega) (by omega) rfl (by simp)
        simp only [List.set_cons_zero] at e1
        have q2 := veq_int (a := r) (b := 0)
        by_cases c2 : r = 0
        · rw [decide_eq_true c2] at q2
          refine vp_eq (a := some (prV (name, g))) (ρ := [some v'', some limv, some (.list (stv P)), some (.list (stv G)), some (.int cnt), some (.int rare), some rest, some found, some (.str name), some (.str own), a10]) ?_ (keep v'' F'')
          simp [-e_call, tnV, q, e1, q2, VR.scope, back, prV]
        · rw [decide_eq_false c2] at q2
          refine vp_eq (a := none) (ρ := [some v'', some limv, some (.list (stv P)), some (.list (stv G)), some (.int cnt), some (.int rare), some rest, some found, some (.str name), some (.str own), a10]) ?_ ⟨gs, v'', rfl, rfl, by rw [List.length_append]; exact F'', hs.trans (List.sublist_append_left _ _), fun h => by
            rcases List.mem_append.mp h with h | h
            · exact ho' h
            · rw [List.mem_singleton] at h; exact absurd h.symm c⟩
          simp [-e_call, tnV, q, e1, q2, VR.scope, back]
  obtain ⟨ys, ρ, e, gs, v', rfl, rfl, F', hs, ho'⟩ := vp_out H
  rw [List.nil_append] at F' hs ho'
  refine ⟨gs, v', ?_, F', hs, ho'⟩
  have e' : lcV (tnV f io w (.nm 10) [(.or [(.cmp .eq (.loc 10) (.loc 9)), (.cmp .eq (.call kd [(.loc 0), (.bin .add (.cst (.int 1)) (.loc 5))]) (.cst (.int 0)))])] (.tup [(.loc 8), (.loc 10)])) (stv G) [] [some v, some limv, some (.list (stv P)), some (.list (stv G)), some (.int cnt), some (.int rare), some rest, some found, some (.str name), some (.str own), a10] = _ := e
  rw [e', VR.bind_ok]
/-- the people and the items, made fewer -/
theorem fewer_ok {n : Nat} {v limv : Va} {cnt rare : Int} {P G : List Str} {a6 a7 a8 a9 a10 : Option Va} (F : Feed1 n v) (hn : n < 2 ^ 58) (hw : 1000 < w) (hc : 2 ≤ cnt) (hP : P.Sublist poolP) (hG : G.Sublist poolG) (hl : P.length = G.length) (hcl : cnt ≤ P.length) :
    (vX f io w (.whl (.cmp .gt (.bi .len [(.loc 2)]) (.loc 4))
    [.ex (.me .pop (.loc 2) [(.call kd [(.loc 0), (.bi .len [(.loc 2)])])]),
    .ex (.me .pop (.loc 3) [(.call kd [(.loc 0), (.bi .len [(.loc 3)])])])]) [some v, some limv, some (.list (stv P)), some (.list (stv G)), some (.int cnt), some (.int rare), a6, a7, a8, a9, a10]).wp fun fl ρ => fl = .nx ∧ ∃ (P' G' : List Str) (v' : Va), ρ = [some v', some limv, some (.list (stv P')), some (.list (stv G')), some (.int cnt), some (.int rare), a6, a7, a8, a9, a10] ∧ Feed1 (n + 12) v' ∧ P'.Sublist poolP ∧ G'.Sublist poolG ∧ P'.length = G'.length ∧ (P'.length : Int) = cnt := by
  have l6 : P.length ≤ 6 := hP.length_le
  rw [x_whl]
  have H := whl_wp (c := fun ρ => (vE f io w (.cmp .gt (.bi .len [(.loc 2)]) (.loc 4)) ρ).bind fun x ρ => vtest x ρ) (b := fun ρ => vXs f io w [.ex (.me .pop (.loc 2) [(.call kd [(.loc 0), (.bi .len [(.loc 2)])])]), .ex (.me .pop (.loc 3) [(.call kd [(.loc 0), (.bi .len [(.loc 3)])])])] ρ)
    (fun m ρ => ∃ (P' G' : List Str) (v' : Va), ρ = [some v', some limv, some (.list (stv P')), some (.list (stv G')), some (.int cnt), some (.int rare), a6, a7, a8, a9, a10] ∧ Feed1 (n + 2 * (6 - P'.length)) v' ∧ P'.Sublist poolP ∧ G'.Sublist poolG ∧ P'.length = G'.length ∧ cnt + m = P'.length)
    (fun ρ => ∃ (P' G' : List Str) (v' : Va), ρ = [some v', some limv, some (.list (stv P')), some (.list (stv G')), some (.int cnt), some (.int rare), a6, a7, a8, a9, a10] ∧ Feed1 (n + 12) v' ∧ P'.Sublist poolP ∧ G'.Sublist poolG ∧ P'.length = G'.length ∧ (P'.length : Int) = cnt)
    (fun m ρ hI => by
      obtain ⟨P', G', v', rfl, F', hP', hG', hl', hm⟩ := hI
      have l6' : P'.length ≤ 6 := hP'.length_le
      by_cases hm0 : m = 0
      · have e : ¬ cnt < P'.length := by omega
        refine vp_eq (a := false) (ρ := [some v', some limv, some (.list (stv P')), some (.list (stv G')), some (.int cnt), some (.int rare), a6, a7, a8, a9, a10]) (by simp [vlt_int, stv_len, e]) ?_
        exact ⟨P', G', v', rfl, F'.mono (by omega), hP', hG', hl', by omega⟩
      · have e : cnt < P'.length := by omega
        refine vp_eq (a := true) (ρ := [some v', some limv, some (.list (stv P')), some (.list (stv G')), some (.int cnt), some (.int rare), a6, a7, a8, a9, a10]) (by simp [vlt_int, stv_len, e]) ?_
        obtain ⟨r, hr, v1, e1, F1⟩ := pop_e (w := w) (i := 2) (xs := stv P') (ρ := [some v', some limv, some (.list (stv P')), some (.list (stv G')), some (.int cnt), some (.int rare), a6, a7, a8, a9, a10]) hio D F' (by omega) (by rw [stv_len]; omega) (by rw [stv_len]; omega) rfl rfl (by decide)
        have el : (stv P').eraseIdx r = stv (P'.eraseIdx r) := stv_erase _ _
        rw [el] at e1
        simp only [List.set_cons_zero, List.set_cons_succ] at e1
        obtain ⟨r2, hr2, v2, e2, F2⟩ := pop_e (w := w) (i := 3) (xs := stv G') (ρ := [some v1, some limv, some (.list (stv (P'.eraseIdx r))), some (.list (stv G')), some (.int cnt), some (.int rare), a6, a7, a8, a9, a10]) hio D F1 (by omega) (by rw [stv_len]; omega) (by rw [stv_len]; omega) rfl rfl (by decide)
        have el2 : (stv G').eraseIdx r2 = stv (G'.eraseIdx r2) := stv_erase _ _
        rw [el2] at e2
        simp only [List.set_cons_zero, List.set_cons_succ] at e2
        rw [stv_len] at hr hr2
        refine vp_eq (a := .nx) (ρ := [some v2, some limv, some (.list (stv (P'.eraseIdx r))), some (.list (stv (G'.eraseIdx r2))), some (.int cnt), some (.int rare), a6, a7, a8, a9, a10]) ?_ ⟨.inl rfl, m - 1, by omega, P'.eraseIdx r, G'.eraseIdx r2, v2, rfl, F2.mono ?_, (List.eraseIdx_sublist P' r).trans hP', (List.eraseIdx_sublist G' r2).trans hG', ?_, ?_⟩
        · rw [xs_nx (ρ' := [some v1, some limv, some (.list (stv (P'.eraseIdx r))), some (.list (stv G')), some (.int cnt), some (.int rare), a6, a7, a8, a9, a10]) (by rw [x_ex, e1]; rfl), xs_nx (ρ' := [some v2, some limv, some (.list (stv (P'.eraseIdx r))), some (.list (stv (G'.eraseIdx r2))), some (.int cnt), some (.int rare), a6, a7, a8, a9, a10]) (by rw [x_ex, e2]; rfl), xs_nil]
        · rw [List.length_eraseIdx_of_lt hr]; omega
        · rw [List.length_eraseIdx_of_lt hr, List.length_eraseIdx_of_lt hr2]; omega
        · rw [List.length_eraseIdx_of_lt hr]; omega)
    w (P.length - cnt.toNat) [some v, some limv, some (.list (stv P)), some (.list (stv G)), some (.int cnt), some (.int rare), a6, a7, a8, a9, a10] ⟨P, G, v, rfl, F.mono (by omega), hP, hG, hl, by omega⟩ (by omega)
  exact H
/-- each one's items -/
theorem each_ok {n : Nat} {v limv : Va} {cnt rare : Int} {P G : List Str} {a8 a9 a10 : Option Va} (F : Feed1 n v) (hn : n < 2 ^ 58) (hw : 1000 < w) (hP : P.Sublist poolP) (hG : G.Sublist poolG) (hl : P.length = G.length) (r0 : 0 ≤ rare) (r1 : rare < 1000) :
    (vX f io w (.for_ (.nm 8) (.loc 2)
    [.asg (.nm 9) (.me .pop (.loc 6) [(.call kd [(.loc 0), (.bi .len [(.loc 6)])])]),
    .ex (.me .extend (.loc 7) [(.lc (.tup [(.loc 8), (.loc 10)]) (.nm 10) (.loc 3) [(.or [(.cmp .eq (.loc 10) (.loc 9)), (.cmp .eq (.call kd [(.loc 0), (.bin .add (.cst (.int 1)) (.loc 5))]) (.cst (.int 0)))])])])]) [some v, some limv, some (.list (stv P)), some (.list (stv G)), some (.int cnt), some (.int rare), some (.list (stv G)), some (.list []), a8, a9, a10]).wp fun fl ρ => fl = .nx ∧
      ∃ (Gs : List (List Str)) (own : List Str) (v' : Va) (a6 a8 a9 : Option Va), ρ = [some v', some limv, some (.list (stv P)), some (.list (stv G)), some (.int cnt), some (.int rare), a6, some (.list ((pairsOf P Gs).map prV)), a8, a9, a10] ∧ Feed1 (n + 42) v' ∧ Gs.length = P.length ∧ (∀ gs ∈ Gs, gs.Sublist G) ∧ own.Perm G ∧ ∀ (i : Nat) (g : Str) (gs : List Str), own[i]? = some g → Gs[i]? = some gs → g ∈ gs := by
  have l6 : P.length ≤ 6 := hP.length_le
  have fG : ∀ g ∈ G, PyData.strOk g = true := fun g hg => fine_pools.2 g (hG.subset hg)
  rw [x_for (x := .list (stv P)) (ds := stv P) (ρ' := [some v, some limv, some (.list (stv P)), some (.list (stv G)), some (.int cnt), some (.int rare), some (.list (stv G)), some (.list []), a8, a9, a10]) (by simp) rfl (by rw [stv_len]; omega)]
  have H := for_all (enc := Va.str) (l := P) (b := tnX f io w (.nm 8) [.asg (.nm 9) (.me .pop (.loc 6) [(.call kd [(.loc 0), (.bi .len [(.loc 6)])])]),
    .ex (.me .extend (.loc 7) [(.lc (.tup [(.loc 8), (.loc 10)]) (.nm 10) (.loc 3) [(.or [(.cmp .eq (.loc 10) (.loc 9)), (.cmp .eq (.call kd [(.loc 0), (.bin .add (.cst (.int 1)) (.loc 5))]) (.cst (.int 0)))])])])])
    (fun pre ρ => ∃ (Gs : List (List Str)) (own rest : List Str) (v' : Va) (a8 a9 : Option Va), ρ = [some v', some limv, some (.list (stv P)), some (.list (stv G)), some (.int cnt), some (.int rare), some (.list (stv rest)), some (.list ((pairsOf pre Gs).map prV)), a8, a9, a10] ∧ Feed1 (n + 7 * pre.length) v' ∧ Gs.length = pre.length ∧ own.length = pre.length ∧ (∀ gs ∈ Gs, gs.Sublist G) ∧ (own ++ rest).Perm G ∧ (pairsOf pre Gs).length ≤ 6 * pre.length ∧ ∀ (i : Nat) (g : Str) (gs : List Str), own[i]? = some g → Gs[i]? = some gs → g ∈ gs)
    (ρ := [some v, some limv, some (.list (stv P)), some (.list (stv G)), some (.int cnt), some (.int rare), some (.list (stv G)), some (.list []), a8, a9, a10])
    ⟨[], [], G, v, a8, a9, rfl, F, rfl, rfl, fun _ h => by simp at h, by simp, by simp [pairsOf], fun i g gs h => by simp at h⟩ fun pre name post ρ e hI => by
      obtain ⟨Gs, own, rest, v', b8, b9, rfl, F', l1, l2, hs, hp, hz, ha⟩ := hI
      have lp : pre.length + 1 + post.length = P.length := by rw [e]; simp; omega
      have lr : own.length + rest.length = G.length := by rw [← List.length_append]; exact hp.length_eq
      have lG : G.length ≤ 6 := hG.length_le
      obtain ⟨r, hr, v1, e1, F1⟩ := pop_e (w := w) (i := 6) (xs := stv rest) (ρ := [some v', some limv, some (.list (stv P)), some (.list (stv G)), some (.int cnt), some (.int rare), some (.list (stv rest)), some (.list ((pairsOf pre Gs).map prV)), some (.str name), b9, a10]) hio D F' (by omega) (by rw [stv_len]; omega) (by rw [stv_len]; omega) rfl rfl (by decide)
      have el : (stv rest).eraseIdx r = stv (rest.eraseIdx r) := stv_erase _ _
      rw [el] at e1
      have hr' : r < rest.length := by rwa [stv_len] at hr
      have eg : (stv rest)[r] = .str (rest[r]'hr') := by simp [stv]
      rw [eg] at e1
      simp only [List.set_cons_zero, List.set_cons_succ] at e1
      have mG : rest[r]'hr' ∈ G := hp.subset (List.mem_append_right _ (List.getElem_mem hr'))
      obtain ⟨gs, v2, e2, F2, sg, og⟩ := items_e (limv := limv) (P := P) (cnt := cnt) (rest := .list (stv (rest.eraseIdx r))) (found := .list ((pairsOf pre Gs).map prV)) (name := name) (own := rest[r]'hr') (a10 := a10) hio D F1 (by omega) fG (fG _ mG) hw (by omega) r0 r1
      have lg : gs.length ≤ 6 := Nat.le_trans sg.length_le lG
      have ep : pairsOf (pre ++ [name]) (Gs ++ [gs]) = pairsOf pre Gs ++ gs.map fun g => (name, g) := by
        unfold pairsOf
        rw [List.zip_append l1.symm]
        simp
      have l4 : ((pairsOf pre Gs).map prV).length + (gs.map fun g => prV (name, g)).length ≤ 16777216 := by
        rw [List.length_map, List.length_map]
        omega
      have x1 : vX f io w (.asg (.nm 9) (.me .pop (.loc 6) [(.call kd [(.loc 0), (.bi .len [(.loc 6)])])])) [some v', some limv, some (.list (stv P)), some (.list (stv G)), some (.int cnt), some (.int rare), some (.list (stv rest)), some (.list ((pairsOf pre Gs).map prV)), some (.str name), b9, a10] = .ok .nx [some v1, some limv, some (.list (stv P)), some (.list (stv G)), some (.int cnt), some (.int rare), some (.list (stv (rest.eraseIdx r))), some (.list ((pairsOf pre Gs).map prV)), some (.str name), some (.str (rest[r]'hr')), a10] := by
        rw [x_asg, e1]
        rfl
      have x2 : vX f io w (.ex (.me .extend (.loc 7) [(.lc (.tup [(.loc 8), (.loc 10)]) (.nm 10) (.loc 3) [(.or [(.cmp .eq (.loc 10) (.loc 9)), (.cmp .eq (.call kd [(.loc 0), (.bin .add (.cst (.int 1)) (.loc 5))]) (.cst (.int 0)))])])])) [some v1, some limv, some (.list (stv P)), some (.list (stv G)), some (.int cnt), some (.int rare), some (.list (stv (rest.eraseIdx r))), some (.list ((pairsOf pre Gs).map prV)), some (.str name), some (.str (rest[r]'hr')), a10] =
          .ok .nx [some v2, some limv, some (.list (stv P)), some (.list (stv G)), some (.int cnt), some (.int rare), some (.list (stv (rest.eraseIdx r))), some (.list ((pairsOf (pre ++ [name]) (Gs ++ [gs])).map prV)), some (.str name), some (.str (rest[r]'hr')), a10] := by
        simp only [x_ex, e_me, es_cons, es_nil, e2, List.getElem?_cons_succ, List.getElem?_cons_zero, VR.bind_ok, m_ext l4]
        rw [ep, List.map_append, List.map_map]
        rfl
      refine vp_eq (a := .nx) (ρ := [some v2, some limv, some (.list (stv P)), some (.list (stv G)), some (.int cnt), some (.int rare), some (.list (stv (rest.eraseIdx r))), some (.list ((pairsOf (pre ++ [name]) (Gs ++ [gs])).map prV)), some (.str name), some (.str (rest[r]'hr')), a10]) ?_
        ⟨.inl rfl, Gs ++ [gs], own ++ [rest[r]'hr'], rest.eraseIdx r, v2, _, _, rfl, F2.mono (by simp; omega), by simp [l1], by simp [l2], ?_, ?_, ?_, ?_⟩
      · unfold tnX
        simp only [st_nm, List.set_cons_succ, List.set_cons_zero]
        rw [xs_nx x1, xs_nx x2, xs_nil]
      · intro g hg
        rcases List.mem_append.mp hg with hg | hg
        · exact hs g hg
        · rw [List.mem_singleton.mp hg]; exact sg
      · rw [List.append_assoc]
        exact (List.Perm.append_left own (perm_pop hr')).trans hp
      · rw [ep, List.length_append, List.length_map, List.length_append]
        simp only [List.length_cons, List.length_nil]
        omega
      · intro i g gs' h1 h2
        by_cases hi : i < own.length
        · rw [List.getElem?_append_left hi] at h1
          rw [List.getElem?_append_left (by omega)] at h2
          exact ha i g gs' h1 h2
        · rw [List.getElem?_append_right (by omega)] at h1
          rw [List.getElem?_append_right (by omega)] at h2
          have i0 : i - own.length = 0 := by
            have := (List.getElem?_eq_some_iff.mp h1).1
            simp at this
            omega
          have i1 : i - Gs.length = 0 := by omega
          rw [i0] at h1
          rw [i1] at h2
          cases h1
          cases h2
          exact og mG
  refine vp_mono H fun fl ρ q => ?_
  obtain ⟨h1, Gs, own, rest, v', b8, b9, rfl, F', l1, l2, hs, hp, hz, ha⟩ := q
  have lr : own.length + rest.length = G.length := by rw [← List.length_append]; exact hp.length_eq
  have hr : rest = [] := List.eq_nil_of_length_eq_zero (by omega)
  subst hr
  rw [List.append_nil] at hp
  exact ⟨h1, Gs, own, v', _, b8, b9, rfl, F'.mono (by omega), l1, hs, hp, ha⟩
/-- a drawn case -/
theorem case1 {n : Nat} {v : Va} {lim : Int} {b : Bool} (F : Feed1 n v) (hn : n < 2 ^ 57) (hw : 1000 < w) (h1 : 2 ≤ lim) (h2 : lim ≤ 6) :
    ∃ P G Gs own v', runV f io w ⟨2, 11, bCase kd⟩ ⟨[0], true, b⟩ [v, .int lim] = .ok (encH (pairsOf P Gs)) [v'] ∧ Feed1 (n + 60) v' ∧ Case lim.toNat P G Gs own := by
  suffices H : (vXs f io w (bCase kd) (vstart 11 [v, .int lim])).wp fun fl ρ => ∃ x, fl = .rt x ∧ ∃ P G Gs own v', x = encH (pairsOf P Gs) ∧ ρ[0]? = some (some v') ∧ Feed1 (n + 60) v' ∧ Case lim.toNat P G Gs own by
    obtain ⟨x, ρ, e, P, G, Gs, own, v', rfl, e0, F', C⟩ := run_wp (g := ⟨2, 11, bCase kd⟩) (i := ⟨[0], true, b⟩) (f := f) (io := io) (w := w) (vs := [v, .int lim]) rfl H
    refine ⟨P, G, Gs, own, v', ?_, F', C⟩
    rw [e]
    have fl : Va.flats ((pairsOf P Gs).map prV) = true := by
      generalize pairsOf P Gs = l
      induction l with
      | nil => rfl
      | cons x l ih => simpa [Va.flats, Va.flat, prV] using ih
    simp [vend, encH, Va.flat, fl, outs, e0]
  unfold bCase
  rw [xs_nx (ρ' := [some v, some (.int lim), some (.list (stv poolP)), some (.list (stv poolG)), none, none, none, none, none, none, none]) (by simp [vstart, stv, poolP, poolG])]
  obtain ⟨c, v1, e1, c0, c1, F1⟩ := draw_e (w := w) (e := .bin .sub (.loc 1) (.cst (.int 1))) (m := lim - 1) (ρ := [some v, some (.int lim), some (.list (stv poolP)), some (.list (stv poolG)), none, none, none, none, none, none, none]) hio D F (by omega) (by omega) (by omega) rfl (by simp)
  simp only [List.set_cons_zero] at e1
  obtain ⟨r, v2, e2, r0, r1, F2⟩ := draw_e (w := w) (e := .cst (.int 4)) (m := 4) (ρ := [some v1, some (.int lim), some (.list (stv poolP)), some (.list (stv poolG)), none, none, none, none, none, none, none]) hio D F1 (by omega) (by omega) (by omega) rfl (by simp)
  simp only [List.set_cons_zero] at e2
  rw [xs_nx (ρ' := [some v2, some (.int lim), some (.list (stv poolP)), some (.list (stv poolG)), some (.int (2 + c)), some (.int r), none, none, none, none, none]) (by simp [-e_call, e1, e2])]
  refine xs_wp (vp_mono (fewer_ok hio D F2 (by omega) hw (by omega) (List.Sublist.refl _) (List.Sublist.refl _) rfl (by show 2 + c ≤ 6; omega)) fun fl ρ q => ⟨q.1, ?_⟩)
  obtain ⟨_, P, G, v3, rfl, F3, sP, sG, hl, hc⟩ := q
  rw [xs_nx (ρ' := [some v3, some (.int lim), some (.list (stv P)), some (.list (stv G)), some (.int (2 + c)), some (.int r), some (.list (stv G)), some (.list []), none, none, none]) (by simp)]
  refine xs_wp (vp_mono (each_ok hio D F3 (by omega) hw sP sG hl r0 (by omega)) fun fl ρ q => ⟨q.1, ?_⟩)
  obtain ⟨_, Gs, own, v4, a6, a8, a9, rfl, F4, l1, hs, hp, ha⟩ := q
  refine vp_eq (a := .rt (encH (pairsOf P Gs))) (ρ := [some v4, some (.int lim), some (.list (stv P)), some (.list (stv G)), some (.int (2 + c)), some (.int r), a6, some (.list ((pairsOf P Gs).map prV)), a8, a9, none]) (xs_rt (by simp [encH])) ⟨_, rfl, P, G, Gs, own, v4, rfl, rfl, F4.mono (by omega), sP, sG, hl, by omega, by omega, l1, hs, hp, ha⟩
end
end Dv
end

section
/-! K01g -/
/-! K01g: the text of k01. -/
namespace K01
open Dv PySem PySem.W

/-- is_number (thing) -/
def b0 : List T := [.ret (.and [(.bi (.inst .int) [(.loc 0)]), (.not (.bi (.inst .bool) [(.loc 0)])), (.cmp .ge (.loc 0) (.cst (.int 0)))])]
/-- is_name (thing, char) -/
def b1 : List T := [.ifs (.or [(.not (.bi (.inst .str) [(.loc 0)])), (.not (.chain .le .le (.cst (.int 1)) (.bi .len [(.loc 0)]) (.cst (.int 8))))])
    [.ret (.cst (.bl false))]
    [],
  .ret (.bi .all [(.lc (.cmp .in_ (.loc 1) (.cst (.str "abcdefghijklmnopqrstuvwxyz"))) (.nm 1) (.loc 0) [])])]
/-- are_names (thing, name) -/
def b2 : List T := [.ret (.and [(.bi (.inst .tuple) [(.loc 0)]), (.bi .all [(.lc (.call 1 [(.loc 1)]) (.nm 1) (.loc 0) [])])])]
/-- is_rising (values, k) -/
def b3 : List T := [.ret (.bi .all [(.lc (.cmp .lt (.ix (.loc 0) (.bin .sub (.loc 1) (.cst (.int 1)))) (.ix (.loc 0) (.loc 1))) (.nm 1) (.rng [(.cst (.int 1)), (.bi .len [(.loc 0)])]) [])])]
/-- is_pair (thing) -/
def b4 : List T := [.ret (.and [(.call 2 [(.loc 0)]), (.cmp .eq (.bi .len [(.loc 0)]) (.cst (.int 2)))])]
/-- is_people (thing) -/
def b5 : List T := [.ret (.and [(.call 2 [(.loc 0)]), (.call 3 [(.loc 0)])])]
/-- is_cycle (thing) -/
def b6 : List T := [.ret (.and [(.call 2 [(.loc 0)]), (.cmp .ge (.bi .len [(.loc 0)]) (.cst (.int 2))), (.cmp .eq (.bi .lset [(.loc 0)]) (.bi .len [(.loc 0)]))])]
/-- is_ring (thing, name) -/
def b7 : List T := [.ifs (.not (.call 6 [(.loc 0)]))
    [.ret (.cst (.bl false))]
    [],
  .ret (.bi .all [(.lc (.cmp .le (.ix (.loc 0) (.cst (.int 0))) (.loc 1)) (.nm 1) (.loc 0) [])])]
/-- is_row (thing, ring) -/
def b8 : List T := [.ret (.and [(.bi (.inst .tuple) [(.loc 0)]), (.bi .all [(.lc (.call 7 [(.loc 1)]) (.nm 1) (.loc 0) [])])])]
/-- is_sizes (thing, size) -/
def b9 : List T := [.ifs (.or [(.not (.bi (.inst .tuple) [(.loc 0)])), (.not (.bi .all [(.lc (.and [(.call 0 [(.loc 1)]), (.cmp .ge (.loc 1) (.cst (.int 2)))]) (.nm 1) (.loc 0) [])]))])
    [.ret (.cst (.bl false))]
    [],
  .ret (.call 3 [(.loc 0)])]
/-- _law_reader (_law_script) -/
def b10 : List T := [.ret (.lst [(.slc (.loc 0) (.cst .non) (.bnd (.cst (.int 63)))), (.cst (.int 0)), (.cst (.int 0)), (.cst (.int 0))])]
/-- _law_draw (_law_reader_here, _law_many, _law_found, _law_cell, _law_once) -/
def b11 : List T := [.sub (.loc 0) (.cst (.int 3)) (.bin .add (.ix (.loc 0) (.cst (.int 3))) (.cst (.int 1))),
  .ifs (.cmp .gt (.ix (.loc 0) (.cst (.int 2))) (.cst (.int 0)))
    [.asg (.nm 2) (.bin .mod (.ix (.loc 0) (.cst (.int 2))) (.loc 1)),
    .sub (.loc 0) (.cst (.int 2)) (.bin .fdiv (.ix (.loc 0) (.cst (.int 2))) (.loc 1)),
    .ret (.loc 2)]
    [],
  .asg (.nm 3) (.cst (.int 13)),
  .ifs (.cmp .ne (.ix (.loc 0) (.cst (.int 0))) (.lst []))
    [.asg (.nm 3) (.ix (.ix (.loc 0) (.cst (.int 0))) (.bin .mod (.ix (.loc 0) (.cst (.int 1))) (.bi .len [(.ix (.loc 0) (.cst (.int 0)))])))]
    [],
  .sub (.loc 0) (.cst (.int 1)) (.bin .add (.ix (.loc 0) (.cst (.int 1))) (.cst (.int 1))),
  .ifs (.and [(.cmp .ge (.loc 3) (.bin .pow (.cst (.int 10)) (.cst (.int 18)))), (.cmp .le (.ix (.loc 0) (.cst (.int 1))) (.bi .len [(.ix (.loc 0) (.cst (.int 0)))]))])
    [.sub (.loc 0) (.cst (.int 2)) (.bin .fdiv (.loc 3) (.loc 1)),
    .ret (.bin .mod (.loc 3) (.loc 1))]
    [],
  .asg (.nm 4) (.bin .mod (.bin .pow (.bin .add (.bin .add (.bin .mod (.loc 3) (.cst (.int 2147483629))) (.bin .mul (.cst (.int 5827)) (.ix (.loc 0) (.cst (.int 3))))) (.cst (.int 17))) (.cst (.int 5))) (.cst (.int 2147483647))),
  .ret (.bin .mod (.bin .fdiv (.bin .mod (.bin .pow (.bin .add (.loc 4) (.bin .mul (.bin .mul (.cst (.int 3907)) (.ix (.loc 0) (.cst (.int 3)))) (.ix (.loc 0) (.cst (.int 3))))) (.cst (.int 5))) (.cst (.int 2147483587))) (.cst (.int 32))) (.loc 1))]
/-- _law_random_value (_law_reader_here, _law_menu) -/
def b12 : List T := [.ret (.ix (.loc 1) (.call 11 [(.loc 0), (.bi .len [(.loc 1)])]))]
/-- _law_mutate (_law_reader_here, _law_thing, _law_menu, _law_at, _law_way) -/
def b13 : List T := [.ifs (.and [(.bi (.inst .tuple) [(.loc 1)]), (.cmp .ne (.loc 1) (.tup [])), (.cmp .gt (.call 11 [(.loc 0), (.cst (.int 4))]) (.cst (.int 0)))])
    [.asg (.tp [3, 4]) (.tup [(.call 11 [(.loc 0), (.bi .len [(.loc 1)])]), (.call 11 [(.loc 0), (.cst (.int 8))])]),
    .ifs (.cmp .lt (.loc 4) (.cst (.int 4)))
      [.ret (.bin .add (.bin .add (.slc (.loc 1) (.cst .non) (.bnd (.loc 3))) (.tup [(.call 13 [(.loc 0), (.ix (.loc 1) (.loc 3)), (.loc 2)])])) (.slc (.loc 1) (.bnd (.bin .add (.loc 3) (.cst (.int 1)))) (.cst .non)))]
      [],
    .ifs (.cmp .eq (.loc 4) (.cst (.int 4)))
      [.ret (.bin .add (.slc (.loc 1) (.cst .non) (.bnd (.loc 3))) (.slc (.loc 1) (.bnd (.bin .add (.loc 3) (.cst (.int 1)))) (.cst .non)))]
      [],
    .ifs (.cmp .eq (.loc 4) (.cst (.int 5)))
      [.ret (.bin .add (.slc (.loc 1) (.cst .non) (.bnd (.bin .add (.loc 3) (.cst (.int 1))))) (.slc (.loc 1) (.bnd (.loc 3)) (.cst .non)))]
      [],
    .ifs (.cmp .eq (.loc 4) (.cst (.int 6)))
      [.ret (.bin .add (.slc (.loc 1) (.bnd (.loc 3)) (.cst .non)) (.slc (.loc 1) (.cst .non) (.bnd (.loc 3))))]
      [],
    .ret (.bin .add (.bin .add (.slc (.loc 1) (.cst .non) (.bnd (.loc 3))) (.tup [(.call 12 [(.loc 0), (.loc 2)])])) (.slc (.loc 1) (.bnd (.loc 3)) (.cst .non)))]
    [],
  .ifs (.and [(.bi (.inst .str) [(.loc 1)]), (.cmp .eq (.call 11 [(.loc 0), (.cst (.int 2))]) (.cst (.int 0)))])
    [.ret (.ix (.lst [(.bin .add (.loc 1) (.cst (.str "a"))), (.slc (.loc 1) (.bnd (.cst (.int 1))) (.cst .non))]) (.call 11 [(.loc 0), (.cst (.int 2))]))]
    [],
  .ifs (.and [(.bi (.inst .tuple) [(.loc 1)]), (.cmp .eq (.call 11 [(.loc 0), (.cst (.int 4))]) (.cst (.int 0)))])
    [.ret (.bi .list [(.loc 1)])]
    [],
  .ret (.call 12 [(.loc 0), (.loc 2)])]
/-- _law_shuffled (_law_reader_here, _law_some, _law_left, _law_k) -/
def b14 : List T := [.asg (.nm 2) (.bi .list [(.loc 1)]),
  .ret (.lc (.me .pop (.loc 2) [(.call 11 [(.loc 0), (.bi .len [(.loc 2)])])]) (.nm 3) (.rng [(.bi .len [(.loc 1)])]) [])]
/-- _law_people_pool () -/
def b15 : List T := [.ret (.lst [(.cst (.str "ann")), (.cst (.str "b")), (.cst (.str "bob")), (.cst (.str "cy")), (.cst (.str "dan")), (.cst (.str "eve")), (.cst (.str "fay")), (.cst (.str "zzzzzzzz"))])]
/-- _law_is_number (_law_thing) -/
def b16 : List T := [.ret (.and [(.bi (.inst .int) [(.loc 0)]), (.not (.bi (.inst .bool) [(.loc 0)])), (.cmp .ge (.loc 0) (.cst (.int 0)))])]
/-- _law_is_name (_law_thing, _law_char) -/
def b17 : List T := [.ret (.and [(.bi (.inst .str) [(.loc 0)]), (.chain .lt .lt (.cst (.int 0)) (.bi .len [(.loc 0)]) (.cst (.int 9))), (.cmp .eq (.lc (.loc 1) (.nm 1) (.loc 0) [(.not (.chain .le .le (.cst (.str "a")) (.loc 1) (.cst (.str "z"))))]) (.lst []))])]
/-- _law_ascends (_law_some, _law_k) -/
def b18 : List T := [.ret (.cmp .eq (.lc (.loc 1) (.nm 1) (.rng [(.cst (.int 1)), (.bi .len [(.loc 0)])]) [(.not (.cmp .lt (.ix (.loc 0) (.bin .sub (.loc 1) (.cst (.int 1)))) (.ix (.loc 0) (.loc 1))))]) (.lst []))]
/-- _law_is_pair (_law_thing) -/
def b19 : List T := [.ret (.and [(.bi (.inst .tuple) [(.loc 0)]), (.cmp .eq (.bi .len [(.loc 0)]) (.cst (.int 2))), (.call 17 [(.ix (.loc 0) (.cst (.int 0)))]), (.call 17 [(.ix (.loc 0) (.cst (.int 1)))])])]
/-- _law_are_names (_law_thing, _law_one) -/
def b20 : List T := [.ret (.and [(.bi (.inst .tuple) [(.loc 0)]), (.cmp .eq (.lc (.loc 1) (.nm 1) (.loc 0) [(.not (.call 17 [(.loc 1)]))]) (.lst []))])]
/-- _law_is_people (_law_thing) -/
def b21 : List T := [.ret (.and [(.call 20 [(.loc 0)]), (.call 18 [(.loc 0)])])]
/-- _law_is_loop (_law_thing) -/
def b22 : List T := [.ret (.and [(.call 20 [(.loc 0)]), (.cmp .gt (.bi .len [(.loc 0)]) (.cst (.int 1))), (.cmp .eq (.bi .lset [(.loc 0)]) (.bi .len [(.loc 0)]))])]
/-- _law_is_ring (_law_thing) -/
def b23 : List T := [.ret (.and [(.call 22 [(.loc 0)]), (.cmp .eq (.ix (.loc 0) (.cst (.int 0))) (.bi (.mm false) [(.bi .list [(.loc 0)])]))])]
/-- _law_is_row (_law_thing, _law_one) -/
def b24 : List T := [.ret (.and [(.bi (.inst .tuple) [(.loc 0)]), (.cmp .eq (.lc (.loc 1) (.nm 1) (.loc 0) [(.not (.call 23 [(.loc 1)]))]) (.lst []))])]
/-- _law_is_sizes (_law_thing, _law_one) -/
def b25 : List T := [.ifs (.or [(.not (.bi (.inst .tuple) [(.loc 0)])), (.cmp .ne (.lc (.loc 1) (.nm 1) (.loc 0) [(.or [(.not (.call 16 [(.loc 1)])), (.cmp .lt (.loc 1) (.cst (.int 2)))])]) (.lst []))])
    [.ret (.cst (.bl false))]
    [],
  .ret (.call 18 [(.loc 0)])]
/-- _law_turned (_law_ring, _law_at) -/
def b26 : List T := [.asg (.nm 1) (.met .index (.loc 0) [(.bi (.mm false) [(.bi .list [(.loc 0)])])]),
  .ret (.bi .tuple [(.bin .add (.slc (.loc 0) (.bnd (.loc 1)) (.cst .non)) (.slc (.loc 0) (.cst .non) (.bnd (.loc 1))))])]
/-- _law_random_ring (_law_reader_here, _law_most, _law_people) -/
def b27 : List T := [.asg (.nm 2) (.call 15 []),
  .ret (.bi .tuple [(.slc (.call 14 [(.loc 0), (.loc 2)]) (.cst .non) (.bnd (.bin .add (.cst (.int 2)) (.call 11 [(.loc 0), (.bin .sub (.loc 1) (.cst (.int 1)))]))))])]
/-- _law_fixed_values (_law_far, _law_found, _law_letters, _law_wide, _law_k) -/
def b28 : List T := [.asg (.nm 0) (.bin .pow (.cst (.int 10)) (.cst (.int 59))),
  .asg (.nm 1) (.lst [(.cst (.int 0)), (.cst (.int 1)), (.neg (.cst (.int 1))), (.cst (.int 2)), (.loc 0), (.neg (.loc 0)), (.cst (.bl true)), (.cst (.bl false)), (.cst .non), (.cst (.str "")), (.cst (.str "a")), (.cst (.str "abcdefgh")), (.cst (.str "abcdefghi")), (.cst (.str "Ann")), (.cst (.str "a b")), (.cst (.str "a1")), (.cst (.str "{"))]),
  .asg (.nm 1) (.bin .add (.loc 1) (.lst [(.cst (.str "a_")), (.tup []), (.lst []), (.tup [(.cst (.str "a"))]), (.tup [(.cst (.str "a")), (.cst (.str "b"))]), (.tup [(.cst (.str "b")), (.cst (.str "a"))]), (.tup [(.cst (.str "a")), (.cst (.str "a"))]), (.lst [(.cst (.str "a")), (.cst (.str "b"))]), (.tup [(.cst (.str "a")), (.cst .non)]), (.tup [(.cst (.str "a")), (.cst (.str "B"))])])),
  .asg (.nm 1) (.bin .add (.loc 1) (.lst [(.tup [(.cst (.str "a")), (.cst (.str "b")), (.cst (.str "c"))]), (.tup [(.cst (.str "a")), (.cst (.str "c")), (.cst (.str "b"))]), (.tup [(.cst (.str "b")), (.cst (.str "a")), (.cst (.str "c"))]), (.tup [(.cst (.str "a")), (.cst (.str "b")), (.cst (.str "a"))]), (.tup [(.cst (.str "a")), (.cst (.str ""))]), (.tup [(.cst (.str "a")), (.tup [(.cst (.str "b"))])])])),
  .asg (.nm 1) (.bin .add (.loc 1) (.lst [(.tup [(.tup [(.cst (.str "a")), (.cst (.str "b"))])]), (.tup [(.tup [(.cst (.str "a")), (.cst (.str "b"))]), (.tup [(.cst (.str "a")), (.cst (.str "b"))])]), (.tup [(.tup [(.cst (.str "b")), (.cst (.str "a"))])]), (.tup [(.tup [(.cst (.str "a")), (.cst (.str "b"))]), (.tup [(.cst (.str "c"))])]), (.lst [(.tup [(.cst (.str "a")), (.cst (.str "b"))])])])),
  .asg (.nm 1) (.bin .add (.loc 1) (.lst [(.tup [(.tup [])]), (.tup [(.cst .non)]), (.tup [(.tup [(.cst (.str "a")), (.cst (.str "b"))]), (.cst .non)]), (.tup [(.cst (.int 2))]), (.tup [(.cst (.int 2)), (.cst (.int 3))]), (.tup [(.cst (.int 3)), (.cst (.int 2))]), (.tup [(.cst (.int 2)), (.cst (.int 2))]), (.tup [(.cst (.int 1)), (.cst (.int 2))]), (.tup [(.cst (.int 0))]), (.tup [(.cst (.int 2)), (.cst (.bl true))]), (.tup [(.cst (.bl true))])])),
  .asg (.nm 1) (.bin .add (.loc 1) (.lst [(.tup [(.cst (.int 2)), (.loc 0)]), (.lst [(.cst (.int 2))]), (.tup [(.cst (.int 2)), (.cst (.str "3"))]), (.tup [(.cst (.int 2)), (.neg (.cst (.int 3)))]), (.tup [(.neg (.cst (.int 2)))]), (.tup [(.cst (.str "2"))]), (.tup [(.cst (.int 2)), (.cst (.int 3)), (.cst (.int 5)), (.cst (.int 8))]), (.tup [(.tup [(.cst (.str "a")), (.cst (.str "b"))]), (.lst [(.cst (.str "a")), (.cst (.str "b"))])])])),
  .asg (.nm 2) (.cst (.str "abcdefghijklmnopqrst")),
  .asg (.nm 3) (.bi .tuple [(.lc (.bin .add (.ix (.loc 2) (.bin .fdiv (.loc 4) (.cst (.int 20)))) (.ix (.loc 2) (.bin .mod (.loc 4) (.cst (.int 20))))) (.nm 4) (.rng [(.cst (.int 60))]) [])]),
  .asg (.nm 1) (.bin .add (.loc 1) (.lst [(.loc 3), (.bi .rev [(.loc 3)]), (.bin .add (.loc 3) (.slc (.loc 3) (.bnd (.neg (.cst (.int 1)))) (.cst .non))), (.bin .add (.slc (.loc 3) (.bnd (.cst (.int 1))) (.cst .non)) (.slc (.loc 3) (.cst .non) (.bnd (.cst (.int 1))))), (.bin .mul (.tup [(.loc 3)]) (.cst (.int 40))), (.tup [(.loc 3), (.bi .rev [(.loc 3)])])])),
  .ret (.bin .add (.loc 1) (.lst [(.bin .add (.slc (.loc 3) (.cst .non) (.bnd (.cst (.int 1)))) (.bi .rev0 [(.loc 3)])), (.bi .trange [(.cst (.int 2)), (.cst (.int 62))]), (.bin .add (.bi .trange [(.cst (.int 2)), (.cst (.int 62))]) (.tup [(.cst (.int 61))])), (.bin .add (.slc (.loc 3) (.cst .non) (.bnd (.cst (.int 59)))) (.tup [(.cst (.str "A"))]))]))]
/-- law (_law_script, _law_reader_here, _law_menu, _law_some, _law_k, _law_ring, _law_row_now, _law_size_now, _law_item, _law_once, _law_saved, _law_want, _law_got, _law_j) -/
def b29 : List T := [.asg (.nm 1) (.call 10 [(.loc 0)]),
  .asg (.nm 2) (.lst [(.cst .non), (.cst (.bl true)), (.cst (.int 0)), (.cst (.int 1)), (.cst (.int 2)), (.neg (.cst (.int 1))), (.bin .pow (.cst (.int 10)) (.cst (.int 59))), (.cst (.str "")), (.cst (.str "a")), (.cst (.str "ann")), (.cst (.str "A")), (.tup []), (.lst []), (.tup [(.cst (.str "a"))]), (.tup [(.cst (.str "a")), (.cst (.str "b"))]), (.tup [(.cst (.int 2)), (.cst (.int 3))])]),
  .asg (.nm 3) (.call 28 []),
  .for_ (.nm 4) (.rng [(.cst (.int 16))])
    [.asg (.nm 5) (.call 27 [(.loc 1), (.cst (.int 8))]),
    .asg (.nm 6) (.bi .tuple [(.lc (.call 26 [(.call 27 [(.loc 1), (.cst (.int 5))])]) (.nm 13) (.rng [(.call 11 [(.loc 1), (.cst (.int 4))])]) [])]),
    .asg (.nm 7) (.bi .tuple [(.bi .sset [(.lc (.bin .add (.cst (.int 2)) (.call 11 [(.loc 1), (.cst (.int 9))])) (.nm 13) (.rng [(.call 11 [(.loc 1), (.cst (.int 5))])]) [])])]),
    .for_ (.nm 8) (.tup [(.loc 5), (.call 26 [(.loc 5)]), (.bi .tuple [(.bi .sorted [(.loc 5)])]), (.loc 6), (.loc 7)])
      [.asg (.nm 9) (.call 13 [(.loc 1), (.loc 8), (.loc 2)]),
      .asg (.nm 3) (.bin .add (.loc 3) (.lst [(.loc 8), (.loc 9), (.call 13 [(.loc 1), (.loc 9), (.loc 2)])]))]],
  .for_ (.nm 8) (.loc 3)
    [.asg (.nm 10) (.bi .repr [(.loc 8)]),
    .asg (.nm 11) (.lst [(.call 16 [(.loc 8)]), (.call 17 [(.loc 8)]), (.call 19 [(.loc 8)]), (.call 21 [(.loc 8)])]),
    .asg (.nm 11) (.bin .add (.loc 11) (.lst [(.call 23 [(.loc 8)]), (.call 24 [(.loc 8)]), (.call 25 [(.loc 8)])])),
    .asg (.nm 12) (.lst [(.call 0 [(.loc 8)]), (.call 1 [(.loc 8)]), (.call 4 [(.loc 8)]), (.call 5 [(.loc 8)]), (.call 7 [(.loc 8)]), (.call 8 [(.loc 8)])]),
    .ifs (.or [(.cmp .ne (.bi .repr [(.bin .add (.loc 12) (.lst [(.call 9 [(.loc 8)])]))]) (.bi .repr [(.loc 11)])), (.cmp .ne (.bi .repr [(.loc 8)]) (.loc 10))])
      [.ret (.cst (.bl false))]
      []],
  .ret (.cst (.bl true))]
def Γ : List Fn := [⟨1, 1, b0⟩, ⟨1, 2, b1⟩, ⟨1, 2, b2⟩, ⟨1, 2, b3⟩, ⟨1, 1, b4⟩, ⟨1, 1, b5⟩, ⟨1, 1, b6⟩, ⟨1, 2, b7⟩, ⟨1, 2, b8⟩, ⟨1, 2, b9⟩, ⟨1, 1, b10⟩, ⟨2, 5, b11⟩, ⟨2, 2, b12⟩, ⟨3, 5, b13⟩, ⟨2, 4, b14⟩, ⟨0, 0, b15⟩, ⟨1, 1, b16⟩, ⟨1, 2, b17⟩, ⟨1, 2, b18⟩, ⟨1, 1, b19⟩, ⟨1, 2, b20⟩, ⟨1, 1, b21⟩, ⟨1, 1, b22⟩, ⟨1, 1, b23⟩, ⟨1, 2, b24⟩, ⟨1, 2, b25⟩, ⟨1, 2, b26⟩, ⟨2, 3, b27⟩, ⟨0, 5, b28⟩, ⟨1, 14, b29⟩]
def Ik : List Fi := [⟨[], true, false⟩, ⟨[], true, false⟩, ⟨[], true, false⟩, ⟨[], true, false⟩, ⟨[], true, false⟩, ⟨[], true, false⟩, ⟨[], true, false⟩, ⟨[], true, false⟩, ⟨[], true, false⟩, ⟨[], true, false⟩, ⟨[], false, true⟩, ⟨[0], true, true⟩, ⟨[0], false, false⟩, ⟨[0], false, false⟩, ⟨[0], false, true⟩, ⟨[], false, true⟩, ⟨[], true, false⟩, ⟨[], true, false⟩, ⟨[], true, false⟩, ⟨[], true, false⟩, ⟨[], true, false⟩, ⟨[], true, false⟩, ⟨[], true, false⟩, ⟨[], true, false⟩, ⟨[], true, false⟩, ⟨[], true, false⟩, ⟨[], true, false⟩, ⟨[0], true, false⟩, ⟨[], false, true⟩, ⟨[], true, false⟩]
theorem ok : okAll (tbOf Ik) Γ Ik = true := by decide +kernel
end K01
end

section
/-! K01a -/
set_option maxHeartbeats 1000000
/-! K01a: kinds of values, by the program and by the law. -/
namespace K01
open Dv PySem PySem.W

theorem len_wts (l : List Va) : l.length ≤ wts l := by
  induction l with
  | nil => simp
  | cons x l ih => rw [wts_cons, List.length_cons]; omega
theorem wt_mem {l : List Va} {x : Va} (h : x ∈ l) : x.wt ≤ wts l := by
  induction l with
  | nil => cases h
  | cons y l ih =>
    rw [wts_cons]
    rcases List.mem_cons.mp h with rfl | h
    · omega
    · have := ih h; omega
mutual
/-- fewer than 4000 items in each tuple -/
def small : Va → Bool
  | .tup xs => decide (xs.length < 4000) && smalls xs
  | _ => true
def smalls : List Va → Bool
  | [] => true
  | x :: r => small x && smalls r
end
theorem smalls_iff : ∀ {l : List Va}, smalls l = true ↔ ∀ x ∈ l, small x = true
  | [] => by simp [smalls]
  | x :: l => by simp [smalls, smalls_iff (l := l)]
mutual
theorem small_wt : ∀ {v : Va}, v.wt < 4000 → small v = true
  | .tup xs, h => by
    rw [wt_tup] at h
    rw [small, Bool.and_eq_true, decide_eq_true_eq]
    exact ⟨Nat.lt_of_le_of_lt (len_wts xs) h, smalls_wt h⟩
  | .non, _ => rfl
  | .bl _, _ => rfl
  | .int _, _ => rfl
  | .str _, _ => rfl
  | .list _, _ => rfl
  | .dict _, _ => rfl
  | .fn _, _ => rfl
  | .ro _, _ => rfl
theorem smalls_wt : ∀ {l : List Va}, wts l < 4000 → smalls l = true
  | [], _ => rfl
  | x :: l, h => by
    rw [wts_cons] at h
    rw [smalls, small_wt (v := x) (by omega), smalls_wt (l := l) (by omega)]
    rfl
end
/-- what the functions are asked of -/
structure Item (v : Va) : Prop where
  nice : v.nice true 4 = true
  wt : v.wt ≤ 30000
  small : small v = true
theorem Item.mem {xs : List Va} {x : Va} (h : Item (.tup xs)) (hx : x ∈ xs) : Item x := by
  have h1 := h.nice
  have h2 := h.wt
  rw [wt_tup] at h2
  rw [Va.nice, nices_iff] at h1
  have h3 := h.small
  rw [K01.small, Bool.and_eq_true] at h3
  exact ⟨Va.nice_up (h1 x hx) (by decide), Nat.le_trans (wt_mem hx) h2, smalls_iff.mp h3.2 x hx⟩
theorem Item.few {xs : List Va} (h : Item (.tup xs)) : xs.length < 4000 := by
  have h3 := h.small
  rw [K01.small, Bool.and_eq_true] at h3
  exact of_decide_eq_true h3.1
theorem Item.len {xs : List Va} (h : Item (.tup xs)) : xs.length ≤ 30000 := by
  have h2 := h.wt
  rw [wt_tup] at h2
  exact Nat.le_trans (len_wts xs) h2
theorem Item.str {s : Str} (h : Item (.str s)) : PyData.strOk s = true ∧ s.length ≤ 30000 := ⟨by simpa [Va.nice] using h.nice, by simpa using h.wt⟩
/-! ### the kinds -/
def letter (c : Nat) : Bool := decide (97 ≤ c) && decide (c ≤ 122)
def isNum : Va → Bool
  | .int i => decide (0 ≤ i)
  | _ => false
def isName : Va → Bool
  | .str s => decide (1 ≤ s.length) && (decide (s.length ≤ 8) && s.cps.toList.all letter)
  | _ => false
def areNames : Va → Bool
  | .tup xs => xs.all isName
  | _ => false
def ltV : Va → Va → Bool
  | .int i, .int j => decide (i < j)
  | .str a, .str b => decide (a.cps.toList < b.cps.toList)
  | _, _ => false
def rises (xs : List Va) : Bool := (List.range (xs.length - 1)).all fun k => ltV (xs.getD k .non) (xs.getD (k + 1) .non)
def isPair : Va → Bool
  | .tup xs => decide (xs.length = 2) && xs.all isName
  | _ => false
def isPeople : Va → Bool
  | .tup xs => xs.all isName && rises xs
  | _ => false
def strsOf : List Va → List Str
  | .str s :: r => s :: strsOf r
  | _ => []
def isLoop : Va → Bool
  | .tup xs => xs.all isName && (decide (2 ≤ xs.length) && decide (strsOf xs).Nodup)
  | _ => false
def leStr (a b : Str) : Bool := decide (a.cps.toList ≤ b.cps.toList)
def isRing : Va → Bool
  | .tup xs => isLoop (.tup xs) && (strsOf xs).all fun s => leStr ((strsOf xs).headD "") s
  | _ => false
def isRow : Va → Bool
  | .tup xs => xs.all isRing
  | _ => false
def isSizes : Va → Bool
  | .tup xs => xs.all (fun x => isNum x && (match x with
    | .int i => decide (2 ≤ i)
    | _ => false)) && rises xs
  | _ => false
/-- a function of one value that tells P -/
def Chk (f : VCall) (k : Nat) (P : Va → Bool) : Prop := ∀ v, Item v → f k [v] = .ok (.bl (P v)) []
/-- of tuples of names, of numbers -/
def Same (xs : List Va) : Prop := xs.all isName = true ∨ ∀ x ∈ xs, ∃ i : Int, x = .int i
def ChkR (f : VCall) (k : Nat) : Prop := ∀ xs, Item (.tup xs) → Same xs → f k [.tup xs] = .ok (.bl (rises xs)) []
section
variable {f : VCall} {io : Nat → List Nat} {w : Nat} {b : Bool}
theorem run_bl {g : Fn} {v : Va} {t : Bool} {ρ : Ev} (hp : g.np = 1) (h : vXs f io w g.body (vstart g.nl [v]) = .ok (.rt (.bl t)) ρ) : runV f io w g ⟨[], true, b⟩ [v] = .ok (.bl t) [] := by
  rw [run_rt (by simp [hp]) h]
  exact vend_flat rfl (.inr rfl)
theorem number1 : ∀ v, Item v → runV f io w ⟨1, 1, b0⟩ ⟨[], true, b⟩ [v] = .ok (.bl (isNum v)) [] := by
  intro v hv
  refine run_bl (ρ := [some v]) rfl ?_
  show vXs f io w b0 [some v] = _
  unfold b0
  refine xs_ret ?_
  cases v with
  | int i =>
    have : (!decide (i < 0)) = decide (0 ≤ i) := by
      by_cases h : i < 0
      · rw [decide_eq_true h, decide_eq_false (by omega)]; rfl
      · rw [decide_eq_false h, decide_eq_true (by omega)]; rfl
    simp [Ki.sub, vlt_int, isNum, this]
  | bl _ => simp [Ki.sub, isNum]
  | str _ => simp [Ki.sub, isNum]
  | tup _ => simp [Ki.sub, isNum]
  | list _ => simp [Ki.sub, isNum]
  | non => simp [isNum]
  | dict _ => have := hv.nice; simp [Va.nice] at this
  | fn _ => have := hv.nice; simp [Va.nice] at this
  | ro _ => have := hv.nice; simp [Va.nice] at this
theorem number2 : ∀ v, Item v → runV f io w ⟨1, 1, b16⟩ ⟨[], true, b⟩ [v] = .ok (.bl (isNum v)) [] := number1
/-! names -/
theorem strOk1 {s : Str} {c : Nat} (h : PyData.strOk s = true) (hc : c ∈ s.cps.toList) : PyData.strOk ⟨#[c]⟩ = true := by
  rw [strOk_iff] at h ⊢
  intro d hd
  have : d = c := by simpa using hd
  rw [this]
  exact h c hc
theorem in_letters (c : Nat) : strIn ⟨#[c]⟩ "abcdefghijklmnopqrstuvwxyz" = letter c := by
  have e : ("abcdefghijklmnopqrstuvwxyz" : Str).cps.toList = (List.range 26).map (· + 97) := by decide +kernel
  show decide (c ∈ ("abcdefghijklmnopqrstuvwxyz" : Str).cps.toList) = letter c
  rw [e]
  unfold letter
  rw [← Bool.decide_and, decide_eq_decide, List.mem_map]
  constructor
  · rintro ⟨a, ha, rfl⟩
    have := List.mem_range.mp ha
    omega
  · intro h
    exact ⟨c - 97, List.mem_range.mpr (by omega), by omega⟩
theorem name1 (hw : 100000 < w) : ∀ v, Item v → runV f io w ⟨1, 2, b1⟩ ⟨[], true, b⟩ [v] = .ok (.bl (isName v)) [] := by
  intro v hv
  suffices H : ∃ ρ, vXs f io w b1 [some v, none] = .ok (.rt (.bl (isName v))) ρ by
    obtain ⟨ρ, e⟩ := H
    exact run_bl (ρ := ρ) rfl e
  unfold b1
  have no : ∀ {t : Option (Option Ki)}, vkind v = some none ∨ (∃ j, vkind v = some (some j) ∧ j.sub .str = false) → isName v = false → ∃ ρ, vXs f io w b1 [some v, none] = .ok (.rt (.bl (isName v))) ρ := fun {t} h h2 => by
    refine ⟨[some v, none], ?_⟩
    unfold b1
    refine xs_rt ?_
    rw [h2]
    rcases h with h | ⟨j, h, hj⟩
    · simp [h, xs_one]
    · simp [h, hj, xs_one]
  cases v with
  | str s =>
    obtain ⟨so, sl⟩ := hv.str
    by_cases h1 : 1 ≤ s.length ∧ s.length ≤ 8
    · have l1 : ¬ ((s.length : Int) < 1) := by omega
      have l2 : ¬ ((8 : Int) < s.length) := by omega
      refine ⟨[some (.str s), none], ?_⟩
      rw [xs_nx (ρ' := [some (.str s), none]) (by simp [Ki.sub, vlt_int, l1, l2, xs_nil])]
      refine xs_ret ?_
      have lc := lc_map' (f := f) (io := io) (w := w) (ρ := [some (.str s), none]) (ρ' := [some (.str s), none]) (fun c : Nat => .str ⟨#[c]⟩) (t := .nm 1) (e := .cmp .in_ (.loc 1) (.cst (.str "abcdefghijklmnopqrstuvwxyz"))) (it := .loc 0) (l := s.cps.toList) (x := .str s)
        (fun c => .bl (letter c)) (by simp) rfl (by have : s.cps.toList.length = s.length := by simp [Str.length]
                                                    omega) (by have : s.cps.toList.length = s.length := by simp [Str.length]
                                                               omega) fun c hc => ⟨_, rfl, by
          have q : vin (.str ⟨#[c]⟩) (.str "abcdefghijklmnopqrstuvwxyz") = some (letter c) := by rw [← in_letters]; rfl
          simp [q]⟩
      have vb := vbools_map letter s.cps.toList
      have e : isName (.str s) = s.cps.toList.all letter := by simp [isName, h1.1, h1.2]
      simp only [e_bi, es_cons, es_nil, lc, VR.bind_ok, r_all, vb, Option.map, VR.of_some, e]
      simp
    · refine ⟨[some (.str s), none], xs_rt ?_⟩
      have e : isName (.str s) = false := by
        by_cases h2 : 1 ≤ s.length
        · have : ¬ s.length ≤ 8 := fun h => h1 ⟨h2, h⟩
          simp [isName, this]
        · simp [isName, h2]
      rw [e]
      by_cases h2 : 1 ≤ s.length
      · have l1 : ¬ ((s.length : Int) < 1) := by omega
        have l3 : ¬ s.length ≤ 8 := fun h => h1 ⟨h2, h⟩
        have l2 : ((8 : Int) < s.length) := by omega
        simp [Ki.sub, vlt_int, l1, l2, xs_one]
      · have l1 : ((s.length : Int) < 1) := by omega
        simp [Ki.sub, vlt_int, l1, xs_one]
  | non => exact no (t := none) (.inl rfl) rfl
  | bl _ => exact no (t := none) (.inr ⟨_, rfl, rfl⟩) rfl
  | int _ => exact no (t := none) (.inr ⟨_, rfl, rfl⟩) rfl
  | tup _ => exact no (t := none) (.inr ⟨_, rfl, rfl⟩) rfl
  | list _ => exact no (t := none) (.inr ⟨_, rfl, rfl⟩) rfl
  | dict _ => have := hv.nice; simp [Va.nice] at this
  | fn _ => have := hv.nice; simp [Va.nice] at this
  | ro _ => have := hv.nice; simp [Va.nice] at this
end
end K01
end

section
/-! K01b -/
set_option maxHeartbeats 1000000
/-! K01b: names, rises, pairs. -/
namespace K01
open Dv PySem PySem.W

section
variable {f : VCall} {io : Nat → List Nat} {w : Nat} {b : Bool}
theorem veq_nil {xs : List Va} {t : Bool} (h : Va.nices t xs 4 = true) : veq (.list xs) (.list []) = some xs.isEmpty := by
  have h1 : (Va.list xs).nice t 5 = true := by rw [Va.nice]; exact h
  have h2 : (Va.list []).nice t 5 = true := by simp [Va.nice, Va.nices]
  unfold veq
  rw [nice_py h1 (Nat.le_refl _), nice_py h2 (Nat.le_refl _)]
  simp only [nice_shaped h1 (by decide), nice_shaped h2 (by decide), and_self, if_true]
  cases xs with
  | nil => simp [Va.pd, Va.pds, PyData.eqv, PyData.eqvAll]
  | cons x xs => simp [Va.pd, Va.pds, PyData.eqv, PyData.eqvAll]
theorem vtup_nil {xs : List Va} {t : Bool} (h : Va.nices t xs 4 = true) : veq (.tup xs) (.tup []) = some xs.isEmpty := by
  have h1 : (Va.tup xs).nice t 5 = true := by rw [Va.nice]; exact h
  have h2 : (Va.tup []).nice t 5 = true := by simp [Va.nice, Va.nices]
  unfold veq
  rw [nice_py h1 (Nat.le_refl _), nice_py h2 (Nat.le_refl _)]
  simp only [nice_shaped h1 (by decide), nice_shaped h2 (by decide), and_self, if_true]
  cases xs with
  | nil => simp [Va.pd, Va.pds, PyData.eqv, PyData.eqvAll]
  | cons x xs => simp [Va.pd, Va.pds, PyData.eqv, PyData.eqvAll]
theorem filter_not_empty {α : Type} (p : α → Bool) (l : List α) : (l.filter fun x => !p x).isEmpty = l.all p := by
  induction l with
  | nil => rfl
  | cons a l ih =>
    rw [List.filter_cons, List.all_cons]
    cases h : p a with
    | true => simpa using ih
    | false => rfl
/-- a list of those that don't, compared with [] -/
theorem none_left {α : Type} {p : α → Bool} {l : List α} {g : α → Va} (h : ∀ a ∈ l, (g a).nice true 4 = true) : veq (.list ((l.filter fun x => !p x).map g)) (.list []) = some (l.all p) := by
  rw [veq_nil (t := true) (nices_iff.mpr fun x hx => by obtain ⟨a, ha, rfl⟩ := List.mem_map.mp hx; exact h a (List.mem_filter.mp ha).1), List.isEmpty_map, filter_not_empty]
theorem sub_name {xs : List Va} {x : Va} (h : xs.all isName = true) (hx : x ∈ xs) : ∃ s : Str, x = .str s ∧ PyData.strOk s = true ∨ isName x = true := ⟨"", .inr (List.all_eq_true.mp h x hx)⟩
theorem isName_str {x : Va} (h : isName x = true) : ∃ s : Str, x = .str s ∧ 1 ≤ s.length ∧ s.length ≤ 8 ∧ s.cps.toList.all letter = true := by
  cases x with
  | str s => simp [isName] at h; exact ⟨s, rfl, h.1, h.2.1, by simpa using h.2.2⟩
  | _ => simp [isName] at h
theorem le_one (a c : Nat) : decide (([c] : List Nat) < [a]) = decide (c < a) := by
  rw [decide_eq_decide]
  constructor
  · intro h
    cases h with
    | rel h => exact h
    | cons h => cases h
  · exact fun h => List.Lex.rel h
theorem name2 (hw : 100000 < w) : ∀ v, Item v → runV f io w ⟨1, 2, b17⟩ ⟨[], true, b⟩ [v] = .ok (.bl (isName v)) [] := by
  intro v hv
  suffices H : ∃ ρ, vXs f io w b17 [some v, none] = .ok (.rt (.bl (isName v))) ρ by
    obtain ⟨ρ, e⟩ := H
    exact run_bl (ρ := ρ) rfl e
  unfold b17
  cases v with
  | str s =>
    obtain ⟨so, sl⟩ := hv.str
    refine ⟨[some (.str s), none], xs_ret ?_⟩
    have hl : s.cps.toList.length = s.length := by simp [Str.length]
    by_cases h1 : 0 < s.length
    · by_cases h2 : s.length ≤ 8
      · have l1 : (0 : Int) < s.length := by omega
        have l2 : (s.length : Int) < 9 := by omega
        have lc := lc_pure (f := f) (io := io) (w := w) (ρ := [some (.str s), none]) (ρ' := [some (.str s), none]) (fun c : Nat => .str ⟨#[c]⟩) (t := .nm 1) (e := .loc 1) (cs := [(.not (.chain .le .le (.cst (.str "a")) (.loc 1) (.cst (.str "z"))))]) (it := .loc 0) (l := s.cps.toList) (x := .str s)
          (fun c => !letter c) (fun c => .str ⟨#[c]⟩) (by simp) rfl (by omega) (by omega) fun c hc => ⟨_, rfl, by
            have o1 := strOk1 so hc
            have oa : PyData.strOk ("a" : Str) = true := ok_of "a"
            have oz : PyData.strOk ("z" : Str) = true := ok_of "z"
            have q1 := vlt_str o1 oa
            have q2 := vlt_str oz o1
            have e1 : decide ((⟨#[c]⟩ : Str).cps.toList < ("a" : Str).cps.toList) = decide (c < 97) := le_one 97 c
            have e2 : decide (("z" : Str).cps.toList < (⟨#[c]⟩ : Str).cps.toList) = decide (122 < c) := le_one c 122
            rw [e1] at q1
            rw [e2] at q2
            by_cases h3 : c < 97
            · have e : letter c = false := by simp [letter]; omega
              rw [decide_eq_true h3] at q1
              simp [q1, e]
            · rw [decide_eq_false h3] at q1
              by_cases h4 : 122 < c
              · have e : letter c = false := by simp [letter]; omega
                rw [decide_eq_true h4] at q2
                simp [q1, q2, e]
              · have e : letter c = true := by simp [letter]; omega
                rw [decide_eq_false h4] at q2
                simp [q1, q2, e], fun _ => rfl⟩
        have nl := none_left (p := letter) (l := s.cps.toList) (g := fun c => .str ⟨#[c]⟩) fun c hc => by simpa [Va.nice] using strOk1 so hc
        have e : isName (.str s) = s.cps.toList.all letter := by
          have : 1 ≤ s.length := h1
          simp [isName, this, h2]
        rw [e]
        generalize hq : C.lc (.loc 1) (.nm 1) (.loc 0) [(.not (.chain .le .le (.cst (.str "a")) (.loc 1) (.cst (.str "z"))))] = q at *
        simp [Ki.sub, vlt_int, h1, l2, lc, nl]
      · have l1 : (0 : Int) < s.length := by omega
        have l2 : ¬ (s.length : Int) < 9 := by omega
        have e : isName (.str s) = false := by simp [isName, h2]
        simp [Ki.sub, vlt_int, h1, l2, e]
    · have l1 : ¬ (0 : Int) < s.length := by omega
      have e : isName (.str s) = false := by
        have : ¬ 1 ≤ s.length := by omega
        simp [isName, this]
      simp [Ki.sub, vlt_int, h1, e]
  | non => exact ⟨_, xs_ret (by simp [isName]; rfl)⟩
  | bl _ => exact ⟨_, xs_ret (by simp [isName, Ki.sub]; rfl)⟩
  | int _ => exact ⟨_, xs_ret (by simp [isName, Ki.sub]; rfl)⟩
  | tup _ => exact ⟨_, xs_ret (by simp [isName, Ki.sub]; rfl)⟩
  | list _ => exact ⟨_, xs_ret (by simp [isName, Ki.sub]; rfl)⟩
  | dict _ => have := hv.nice; simp [Va.nice] at this
  | fn _ => have := hv.nice; simp [Va.nice] at this
  | ro _ => have := hv.nice; simp [Va.nice] at this
/-! a call that changes nothing -/
theorem e_chk {k i : Nat} {v : Va} {t : Bool} {ρ : Ev} (hio : io k = []) (hi : ρ[i]? = some (some v)) (h : f k [v] = .ok (.bl t) []) : vE f io w (.call k [.loc i]) ρ = .ok (.bl t) ρ := by
  simp [hi, doCall, hio, vfront, h, afterCall, vback]
/-- all of the items -/
theorem lc_chk {k : Nat} {P : Va → Bool} {xs : List Va} (hio : io k = []) (H : Chk f k P) (hx : ∀ x ∈ xs, Item x) (hw : xs.length < w) (hz : xs.length < 16777216) : vE f io w (.bi .all [(.lc (.call k [(.loc 1)]) (.nm 1) (.loc 0) [])]) [some (.tup xs), none] = .ok (.bl (xs.all P)) [some (.tup xs), none] := by
  have lc := lc_map' (f := f) (io := io) (w := w) (ρ := [some (.tup xs), none]) (ρ' := [some (.tup xs), none]) (fun v : Va => v) (t := .nm 1) (e := .call k [.loc 1]) (it := .loc 0) (l := xs) (x := .tup xs)
    (fun v => .bl (P v)) (by simp) (by simp) hw hz fun v hv => ⟨[some (.tup xs), some v], rfl, e_chk (i := 1) hio rfl (H v (hx v hv))⟩
  have vb := vbools_map P xs
  simp only [e_bi, es_cons, es_nil, lc, VR.bind_ok, r_all, vb, Option.map, VR.of_some]
  simp
/-- none that is not -/
theorem lc_chk2 {k : Nat} {P : Va → Bool} {xs : List Va} (hio : io k = []) (H : Chk f k P) (hx : ∀ x ∈ xs, Item x) (hw : xs.length < w) (hz : xs.length < 16777216) : vE f io w (.cmp .eq (.lc (.loc 1) (.nm 1) (.loc 0) [(.not (.call k [(.loc 1)]))]) (.lst [])) [some (.tup xs), none] = .ok (.bl (xs.all P)) [some (.tup xs), none] := by
  have lc := lc_pure (f := f) (io := io) (w := w) (ρ := [some (.tup xs), none]) (ρ' := [some (.tup xs), none]) (fun v : Va => v) (t := .nm 1) (e := .loc 1) (cs := [.not (.call k [.loc 1])]) (it := .loc 0) (l := xs) (x := .tup xs)
    (fun v => !P v) (fun v => v) (by simp) (by simp) hw hz fun v hv => ⟨_, rfl, by
      have := e_chk (w := w) (ρ := [some (.tup xs), some v]) (i := 1) hio rfl (H v (hx v hv))
      simp only [ts_cons, e_not, List.set_cons_succ, List.set_cons_zero, this]
      cases P v <;> simp, fun _ => rfl⟩
  have nl := none_left (p := P) (l := xs) (g := fun v => v) fun v hv => (hx v hv).nice
  simp only [e_cmp, lc, VR.bind_ok, e_lst, es_nil, r_eq, nl, VR.of_some]
theorem not_tup {v : Va} (hv : Item v) : (∃ xs, v = .tup xs) ∨ ∃ j, vkind v = some j ∧ kiOf .tuple j = false := by
  cases v with
  | tup xs => exact .inl ⟨xs, rfl⟩
  | non => exact .inr ⟨_, rfl, rfl⟩
  | bl _ => exact .inr ⟨_, rfl, rfl⟩
  | int _ => exact .inr ⟨_, rfl, rfl⟩
  | str _ => exact .inr ⟨_, rfl, rfl⟩
  | list _ => exact .inr ⟨_, rfl, rfl⟩
  | dict _ => have := hv.nice; simp [Va.nice] at this
  | fn _ => have := hv.nice; simp [Va.nice] at this
  | ro _ => have := hv.nice; simp [Va.nice] at this
/-- what tells nothing of what is no tuple -/
def TupOnly (P : Va → Bool) : Prop := ∀ v, (∀ xs, v ≠ .tup xs) → P v = false
theorem names1 (hw : 100000 < w) (hio : io 1 = []) (H : Chk f 1 isName) : ∀ v, Item v → runV f io w ⟨1, 2, b2⟩ ⟨[], true, b⟩ [v] = .ok (.bl (areNames v)) [] := by
  intro v hv
  refine run_bl (ρ := [some v, none]) rfl ?_
  show vXs f io w b2 [some v, none] = _
  unfold b2
  refine xs_ret ?_
  rcases not_tup hv with ⟨xs, rfl⟩ | ⟨j, h1, h2⟩
  · have := lc_chk (w := w) hio H (fun x hx => hv.mem hx) (by have := hv.len; omega) (by have := hv.len; omega)
    generalize C.bi .all [(.lc (.call 1 [(.loc 1)]) (.nm 1) (.loc 0) [])] = q at *
    simp [Ki.sub, this, areNames]
  · have e : areNames v = false := by
      cases v with
      | tup xs => cases h1; cases h2
      | _ => rfl
    simp [h1, h2, e]
theorem names2 (hw : 100000 < w) (hio : io 17 = []) (H : Chk f 17 isName) : ∀ v, Item v → runV f io w ⟨1, 2, b20⟩ ⟨[], true, b⟩ [v] = .ok (.bl (areNames v)) [] := by
  intro v hv
  refine run_bl (ρ := [some v, none]) rfl ?_
  show vXs f io w b20 [some v, none] = _
  unfold b20
  refine xs_ret ?_
  rcases not_tup hv with ⟨xs, rfl⟩ | ⟨j, h1, h2⟩
  · have := lc_chk2 (w := w) hio H (fun x hx => hv.mem hx) (by have := hv.len; omega) (by have := hv.len; omega)
    rw [e_and2, e_bi]
    simp only [es_cons, es_nil, e_loc', List.getElem?_cons_zero, VR.bind_ok, r_inst, k_tup, Option.map, ko_some, VR.of_some, Ki.sub, bb_bl, e_and1, this, areNames]
  · have e : areNames v = false := by
      cases v with
      | tup xs => cases h1; cases h2
      | _ => rfl
    simp [h1, h2, e]
end
end K01
end

section
/-! K01c -/
set_option maxHeartbeats 1000000
/-! K01c: rises, pairs, people, loops. -/
namespace K01
open Dv PySem PySem.W

section
variable {f : VCall} {io : Nat → List Nat} {w : Nat} {b : Bool}
theorem name_in {xs : List Va} {x : Va} (hi : Item (.tup xs)) (h : xs.all isName = true) (hx : x ∈ xs) : ∃ s : Str, x = .str s ∧ PyData.strOk s = true := by
  obtain ⟨s, rfl, _⟩ := isName_str (List.all_eq_true.mp h x hx)
  exact ⟨s, rfl, (hi.mem hx).str.1⟩
theorem lt_ok {xs : List Va} {x y : Va} (hi : Item (.tup xs)) (h : Same xs) (hx : x ∈ xs) (hy : y ∈ xs) : vlt x y = some (ltV x y) := by
  rcases h with h | h
  · obtain ⟨s, rfl, s1⟩ := name_in hi h hx
    obtain ⟨t, rfl, t1⟩ := name_in hi h hy
    exact vlt_str s1 t1
  · obtain ⟨i, rfl⟩ := h x hx
    obtain ⟨j, rfl⟩ := h y hy
    exact vlt_int
theorem vrng2 {a c : Int} (h : -(2 ^ 62) ≤ a ∧ a < 2 ^ 62 ∧ -(2 ^ 62) ≤ c ∧ c < 2 ^ 62) : vrng [.int a, .int c] = some ((List.range (c - a).toNat).map fun i => .int (a + (i : Nat))) := by
  simp only [vrng]
  rw [if_pos h]
theorem two62 : (2 : Int) ^ 62 = 4611686018427387904 := by decide
theorem rg_a {n : Nat} (hz : n ≤ 30000) : -(2 ^ 62) ≤ (1:Int) ∧ (1:Int) < 2 ^ 62 ∧ -(2 ^ 62) ≤ (n:Int) ∧ (n:Int) < 2 ^ 62 := by rw [two62]; omega
theorem rg_b {xs : List Va} (hz : xs.length ≤ 30000) : ((xs.length : Int) - 1).toNat = xs.length - 1 := by omega
theorem rg_c {xs : List Va} (hz : xs.length ≤ 30000) : vrng [.int 1, .int (xs.length : Int)] = some ((List.range (xs.length - 1)).map fun i => .int (1 + (i : Nat))) := by
  have q := vrng2 (a := 1) (c := xs.length) (rg_a hz)
  rw [rg_b hz] at q
  exact q
theorem rg_d {xs : List Va} (hz : xs.length ≤ 30000) {ρ : Ev} (h0 : ρ[0]? = some (some (.tup xs))) : vEs f io w [(.cst (.int 1)), (.bi .len [(.loc 0)])] ρ = .ok [.int 1, .int xs.length] ρ := by
  simp only [es_cons, es_nil, e_cst, v_int, VR.of_some, VR.bind_ok, e_bi, e_loc', h0, r_len_tup]
theorem rng_e {xs : List Va} (hz : xs.length ≤ 30000) {ρ : Ev} (h0 : ρ[0]? = some (some (.tup xs))) : vE f io w (.rng [(.cst (.int 1)), (.bi .len [(.loc 0)])]) ρ = .ok (.list ((List.range (xs.length - 1)).map fun i : Nat => Va.int (1 + (i : Int)))) ρ := by
  rw [e_rng, rg_d hz h0, VR.bind_ok, rg_c hz]
  rfl
theorem step_e {xs : List Va} (hi : Item (.tup xs)) (h : Same xs) {i : Nat} (hx : i < xs.length - 1) : vE f io w (.cmp .lt (.ix (.loc 0) (.bin .sub (.loc 1) (.cst (.int 1)))) (.ix (.loc 0) (.loc 1))) [some (.tup xs), some (.int (1 + (i : Int)))] = .ok (.bl (ltV (xs.getD i .non) (xs.getD (i + 1) .non))) [some (.tup xs), some (.int (1 + (i : Int)))] := by
  have e1 : (1 + (i : Int) - 1) = (i : Int) := by omega
  have h1 : i < xs.length := by omega
  have h2 : i + 1 < xs.length := by omega
  have a1 : L2.atI xs (i : Int) = some xs[i] := by
    have := vat_nat (xs := xs) (r := (i : Int)) (by omega) (by omega)
    simpa using this
  have a2 : L2.atI xs (1 + (i : Int)) = some xs[i + 1] := by
    have := vat_nat (xs := xs) (r := (1 + (i : Int))) (by omega) (by omega)
    have e : (1 + (i : Int)).toNat = i + 1 := by omega
    simpa [e] using this
  have q := lt_ok hi h (List.getElem_mem h1) (List.getElem_mem h2)
  have g1 : xs.getD i .non = xs[i] := by simp [h1]
  have g2 : xs.getD (i + 1) .non = xs[i + 1] := by simp [h2]
  rw [g1, g2]
  simp [e1, a1, a2, q]
theorem rising1 (hw : 100000 < w) : ∀ xs, Item (.tup xs) → Same xs → runV f io w ⟨1, 2, b3⟩ ⟨[], true, b⟩ [.tup xs] = .ok (.bl (rises xs)) [] := by
  intro xs hi h
  have hz := hi.len
  refine run_bl (ρ := [some (.tup xs), none]) rfl ?_
  show vXs f io w b3 [some (.tup xs), none] = _
  unfold b3
  refine xs_ret ?_
  have lc := lc_map' (f := f) (io := io) (w := w) (ρ := [some (.tup xs), none]) (ρ' := [some (.tup xs), none]) (fun i : Nat => Va.int (1 + (i : Int))) (t := .nm 1) (e := .cmp .lt (.ix (.loc 0) (.bin .sub (.loc 1) (.cst (.int 1)))) (.ix (.loc 0) (.loc 1))) (it := .rng [(.cst (.int 1)), (.bi .len [(.loc 0)])]) (l := List.range (xs.length - 1)) (x := .list ((List.range (xs.length - 1)).map fun i : Nat => Va.int (1 + (i : Int))))
    (fun i => .bl (ltV (xs.getD i .non) (xs.getD (i + 1) .non))) (rng_e hz rfl) rfl (by simp; omega) (by simp; omega) fun i hi' => ⟨[some (.tup xs), some (.int (1 + (i : Int)))], rfl, step_e hi h (List.mem_range.mp hi')⟩
  have vb := vbools_map (fun i => ltV (xs.getD i .non) (xs.getD (i + 1) .non)) (List.range (xs.length - 1))
  rw [e_bi, es_cons, lc]
  simp only [VR.bind_ok, es_nil, r_all, vb, Option.map, VR.of_some]
  rw [List.all_map]
  rfl
theorem rising2 (hw : 100000 < w) : ∀ xs, Item (.tup xs) → Same xs → runV f io w ⟨1, 2, b18⟩ ⟨[], true, b⟩ [.tup xs] = .ok (.bl (rises xs)) [] := by
  intro xs hi h
  have hz := hi.len
  refine run_bl (ρ := [some (.tup xs), none]) rfl ?_
  show vXs f io w b18 [some (.tup xs), none] = _
  unfold b18
  refine xs_ret ?_
  have lc := lc_pure (f := f) (io := io) (w := w) (ρ := [some (.tup xs), none]) (ρ' := [some (.tup xs), none]) (fun i : Nat => Va.int (1 + (i : Int))) (t := .nm 1) (e := .loc 1) (cs := [(.not (.cmp .lt (.ix (.loc 0) (.bin .sub (.loc 1) (.cst (.int 1)))) (.ix (.loc 0) (.loc 1))))]) (it := .rng [(.cst (.int 1)), (.bi .len [(.loc 0)])]) (l := List.range (xs.length - 1)) (x := .list ((List.range (xs.length - 1)).map fun i : Nat => Va.int (1 + (i : Int))))
    (fun i => !ltV (xs.getD i .non) (xs.getD (i + 1) .non)) (fun i => .int (1 + (i : Int))) (rng_e hz rfl) rfl (by simp; omega) (by simp; omega) fun i hi' => ⟨[some (.tup xs), some (.int (1 + (i : Int)))], rfl, by
      have := step_e (f := f) (io := io) (w := w) hi h (List.mem_range.mp hi')
      rw [ts_cons, e_not, this]
      cases ltV (xs.getD i .non) (xs.getD (i + 1) .non) <;> simp, fun _ => rfl⟩
  have nl := none_left (p := fun i => ltV (xs.getD i .non) (xs.getD (i + 1) .non)) (l := List.range (xs.length - 1)) (g := fun i : Nat => Va.int (1 + (i : Int))) fun i hi' => by
    have := List.mem_range.mp hi'
    simp only [Va.nice, decide_eq_true_eq]
    omega
  simp only [e_cmp, lc, VR.bind_ok, e_lst, es_nil, r_eq, nl, VR.of_some]
  rfl
theorem areNames_tup {v : Va} (h : areNames v = true) : ∃ xs, v = .tup xs ∧ xs.all isName = true := by
  cases v with
  | tup xs => exact ⟨xs, rfl, h⟩
  | _ => cases h
theorem pair1 (hio : io 2 = []) (H : Chk f 2 areNames) : ∀ v, Item v → runV f io w ⟨1, 1, b4⟩ ⟨[], true, b⟩ [v] = .ok (.bl (isPair v)) [] := by
  intro v hv
  refine run_bl (ρ := [some v]) rfl ?_
  show vXs f io w b4 [some v] = _
  unfold b4
  refine xs_ret ?_
  have c := e_chk (f := f) (io := io) (w := w) (ρ := [some v]) (i := 0) hio rfl (H v hv)
  rw [e_and2, c]
  cases h : areNames v with
  | true =>
    obtain ⟨xs, rfl, h2⟩ := areNames_tup h
    simp [veq_int, isPair, h2]
    omega
  | false =>
    have e : isPair v = false := by
      cases v with
      | tup xs =>
        have : xs.all isName = false := h
        simp only [isPair, this, Bool.and_false]
      | _ => rfl
    simp [e]
theorem pair2 (hio : io 17 = []) (H : Chk f 17 isName) : ∀ v, Item v → runV f io w ⟨1, 1, b19⟩ ⟨[], true, b⟩ [v] = .ok (.bl (isPair v)) [] := by
  intro v hv
  refine run_bl (ρ := [some v]) rfl ?_
  show vXs f io w b19 [some v] = _
  unfold b19
  refine xs_ret ?_
  rcases not_tup hv with ⟨xs, rfl⟩ | ⟨j, h1, h2⟩
  · by_cases hl : xs.length = 2
    · match xs, hl, hv with
      | [x, y], hl, hv =>
        have c1 := H x (hv.mem (by simp))
        have c2 := H y (hv.mem (by simp))
        have a0 : L2.atI [x, y] 0 = some x := rfl
        have a1 : L2.atI [x, y] 1 = some y := rfl
        have e : isPair (.tup [x, y]) = (isName x && isName y) := by simp [isPair]
        rw [e]
        cases hx : isName x with
        | true => simp [Ki.sub, veq_int, doCall, hio, vfront, a0, a1, c1, c2, hx, afterCall, vback]
        | false => simp [Ki.sub, veq_int, doCall, hio, vfront, a0, a1, c1, c2, hx, afterCall, vback]
    · have e : isPair (.tup xs) = false := by simp [isPair, hl]
      have hl2 : ¬ (xs.length : Int) = 2 := by omega
      simp [Ki.sub, veq_int, hl2, e]
  · have e : isPair v = false := by
      cases v with
      | tup xs => cases h1; cases h2
      | _ => rfl
    simp [h1, h2, e]
theorem people_ {kn kr : Nat} (h1 : io kn = []) (h2 : io kr = []) (H : Chk f kn areNames) (R : ChkR f kr) : ∀ v, Item v → runV f io w ⟨1, 1, [.ret (.and [(.call kn [(.loc 0)]), (.call kr [(.loc 0)])])]⟩ ⟨[], true, b⟩ [v] = .ok (.bl (isPeople v)) [] := by
  intro v hv
  refine run_bl (ρ := [some v]) rfl ?_
  show vXs f io w _ [some v] = _
  refine xs_ret ?_
  have c := e_chk (f := f) (io := io) (w := w) (ρ := [some v]) (i := 0) h1 rfl (H v hv)
  rw [e_and2, c]
  cases h : areNames v with
  | true =>
    obtain ⟨xs, rfl, h3⟩ := areNames_tup h
    have c2 := R xs hv (.inl h3)
    simp only [VR.bind_ok, bb_bl]
    rw [e_and1, e_chk (i := 0) h2 rfl c2]
    simp [isPeople, h3]
  | false =>
    have e : isPeople v = false := by
      cases v with
      | tup xs =>
        have : xs.all isName = false := h
        simp only [isPeople, this, Bool.false_and]
      | _ => rfl
    simp [e]
/-! different names -/
theorem strs_eq : ∀ {xs : List Va}, xs.all isName = true → xs = (strsOf xs).map .str
  | [], _ => rfl
  | x :: xs, h => by
    rw [List.all_cons, Bool.and_eq_true] at h
    obtain ⟨s, rfl, _⟩ := isName_str h.1
    rw [strsOf, List.map_cons, ← strs_eq h.2]
theorem vkeys_str : ∀ l : List Str, vkeys? (l.map .str) = some (l.map .inr)
  | [] => rfl
  | x :: l => by simp [vkeys?, vkey?, vkeys_str l]
theorem any_in {ks : List Ke} {k : Ke} : (ks.any fun j => decide (j = k)) = true ↔ k ∈ ks := by
  rw [List.any_eq_true]
  exact ⟨fun ⟨j, hj, e⟩ => by rw [← of_decide_eq_true e]; exact hj, fun h => ⟨k, h, decide_eq_true rfl⟩⟩
theorem fold_le : ∀ (ks acc : List Ke), (ks.foldl addK acc).length ≤ acc.length + ks.length
  | [], acc => by simp
  | k :: ks, acc => by
    rw [List.foldl_cons, List.length_cons]
    refine Nat.le_trans (fold_le ks _) ?_
    unfold addK
    split <;> simp <;> omega
theorem fold_eq : ∀ (ks acc : List Ke), (ks.foldl addK acc).length = acc.length + ks.length ↔ ks.Nodup ∧ ∀ k ∈ ks, k ∉ acc
  | [], acc => by simp
  | k :: ks, acc => by
    rw [List.foldl_cons, List.length_cons, List.nodup_cons]
    by_cases h : k ∈ acc
    · have e : addK acc k = acc := by unfold addK; rw [if_pos (any_in.mpr h)]
      rw [e]
      have := fold_le ks acc
      exact ⟨fun q => by omega, fun q => absurd h (q.2 k List.mem_cons_self)⟩
    · have e : addK acc k = acc ++ [k] := by unfold addK; rw [if_neg fun z => h (any_in.mp z)]
      rw [e]
      have ih := fold_eq ks (acc ++ [k])
      rw [List.length_append, List.length_singleton] at ih
      constructor
      · intro q
        obtain ⟨i1, i2⟩ := ih.mp (by omega)
        exact ⟨⟨fun z => i2 k z (by simp), i1⟩, fun j hj => (List.mem_cons.mp hj).elim (fun z => by rw [z]; exact h) fun z y => i2 j z (by simp [y])⟩
      · rintro ⟨⟨q1, q2⟩, q3⟩
        have := ih.mpr ⟨q2, fun j hj z => (List.mem_append.mp z).elim (q3 j (List.mem_cons_of_mem _ hj)) fun z => q1 (by rw [← List.mem_singleton.mp z]; exact hj)⟩
        omega
theorem met_nodup (l : List Str) : (met (l.map Sum.inr) (l.map (Sum.inr : Str → Ke)).length).length = l.length ↔ l.Nodup := by
  unfold met
  rw [List.take_length]
  have := fold_eq (l.map Sum.inr) []
  rw [List.length_map] at this
  simp only [List.length_nil, Nat.zero_add, List.not_mem_nil, not_false_eq_true, implies_true, and_true] at this
  rw [this, List.Nodup, List.pairwise_map]
  exact ⟨fun h => h.imp fun q e => q (by rw [e]), fun h => h.imp fun q e => q (Sum.inr.inj e)⟩
theorem lset_str {l : List Str} (h : l.length < 4000) : vbi .lset [.tup (l.map .str)] = some (.int (met (l.map Sum.inr) (l.map (Sum.inr : Str → Ke)).length).length) := by
  show vlset [.tup (l.map .str)] = _
  simp only [vlset, vseq, vkeys_str]
  rw [if_pos (by simpa using h)]
theorem loop_ {kn : Nat} {c : C} {ρc : Ev} (h1 : io kn = []) (H : Chk f kn areNames) (hc : ∀ xs : List Va, vE f io w c [some (.tup xs)] = .ok (.bl (decide (2 ≤ xs.length))) [some (.tup xs)]) : ∀ v, Item v →
    runV f io w ⟨1, 1, [.ret (.and [(.call kn [(.loc 0)]), c, (.cmp .eq (.bi .lset [(.loc 0)]) (.bi .len [(.loc 0)]))])]⟩ ⟨[], true, b⟩ [v] = .ok (.bl (isLoop v)) [] := by
  intro v hv
  refine run_bl (ρ := [some v]) rfl ?_
  show vXs f io w _ [some v] = _
  refine xs_ret ?_
  have c1 := e_chk (f := f) (io := io) (w := w) (ρ := [some v]) (i := 0) h1 rfl (H v hv)
  rw [e_and2, c1]
  cases h : areNames v with
  | true =>
    obtain ⟨xs, rfl, h3⟩ := areNames_tup h
    simp only [VR.bind_ok, bb_bl]
    rw [e_and2, hc]
    have e : isLoop (.tup xs) = (decide (2 ≤ xs.length) && decide (strsOf xs).Nodup) := by simp [isLoop, h3]
    rw [e]
    by_cases h2 : 2 ≤ xs.length
    · have hs := strs_eq h3
      have ll : (strsOf xs).length = xs.length := by have := congrArg List.length hs; simpa using this.symm
      have q := lset_str (l := strsOf xs) (by rw [ll]; exact hv.few)
      rw [← hs] at q
      have q2 := met_nodup (strsOf xs)
      generalize (met ((strsOf xs).map Sum.inr) ((strsOf xs).map (Sum.inr : Str → Ke)).length).length = n at *
      have e3 : decide ((n : Int) = (xs.length : Int)) = decide (strsOf xs).Nodup := by
        rw [decide_eq_decide, ← q2, ll]
        omega
      simp [h2, q, veq_int]
      rw [← q2, ll]
      omega
    · simp [h2]
  | false =>
    have e : isLoop v = false := by
      cases v with
      | tup xs =>
        have : xs.all isName = false := h
        simp only [isLoop, this, Bool.false_and]
      | _ => rfl
    simp [e]
end
end K01
end

section
/-! K01d -/
set_option maxHeartbeats 1000000
/-! K01d: the draw. -/
namespace K01
open Dv PySem PySem.W

def rdV (cells : List Int) (a l c : Int) : Va := .list [.list (cells.map .int), .int a, .int l, .int c]
/-- a reader out of which at most n draws were made -/
def Rd (n : Nat) (v : Va) : Prop := ∃ (cells : List Int) (a l c : Int), v = rdV cells a l c ∧ cells.length ≤ 63 ∧ 0 ≤ a ∧ 0 ≤ l ∧ 0 ≤ c ∧ c ≤ n
theorem Rd.mono {n m : Nat} {v : Va} (h : Rd n v) (hn : n ≤ m) : Rd m v := by
  obtain ⟨cells, a, l, c, e, h1, h2, h3, h4, h5⟩ := h
  exact ⟨cells, a, l, c, e, h1, h2, h3, h4, by omega⟩
/-- draws: a number below m, and the reader behind -/
def DrawR (f : VCall) (k : Nat) : Prop := ∀ (n : Nat) (v : Va) (m : Int), Rd n v → n < 2 ^ 20 → 1 ≤ m → m < 2 ^ 30 → ∃ r v', f k [v, .int m] = .ok (.int r) [v'] ∧ 0 ≤ r ∧ r < m ∧ Rd (n + 1) v'
section
variable {cells : List Int} {a l c d : Int}
theorem j0 : vidx (rdV cells a l c) (.int 0) = some (.list (cells.map .int)) := rfl
theorem j1 : vidx (rdV cells a l c) (.int 1) = some (.int a) := rfl
theorem j2 : vidx (rdV cells a l c) (.int 2) = some (.int l) := rfl
theorem j3 : vidx (rdV cells a l c) (.int 3) = some (.int c) := rfl
theorem s1 : vset (rdV cells a l c) (.int 1) (.int d) = some (rdV cells d l c) := rfl
theorem s2 : vset (rdV cells a l c) (.int 2) (.int d) = some (rdV cells a d c) := rfl
theorem s3 : vset (rdV cells a l c) (.int 3) (.int d) = some (rdV cells a l d) := rfl
end
theorem ints_ne (ns : List Int) : veq (.list (ns.map .int)) (.list []) = some ns.isEmpty := by
  have py : ∀ ns : List Int, Va.pys (ns.map Va.int) 4 = some (ns.map .int) := fun ns => by
    induction ns with
    | nil => simp [Va.pys]
    | cons n ns ih => simp [Va.pys, Va.py, ih]
  have h1 : (Va.list (ns.map .int)).py 5 = some (.list (ns.map .int)) := by simp [Va.py, py]
  have h2 : (Va.list []).py 5 = some (.list []) := by simp [Va.py, Va.pys]
  unfold veq
  rw [h1, h2]
  dsimp only
  rw [if_pos ⟨Dv.shaped_ints ns, by simpa using Dv.shaped_ints []⟩]
  cases ns with
  | nil => simp [PyData.eqv, PyData.eqvAll]
  | cons n ns => simp [PyData.eqv, PyData.eqvAll]
theorem reader1 {f : VCall} {io : Nat → List Nat} {w : Nat} (ns : List Int) (hn : ns.length ≤ 63) : ∃ v, runV f io w ⟨1, 1, b10⟩ ⟨[], false, true⟩ [.ro (ns.map .int)] = .ok v [] ∧ Rd 0 v := by
  refine ⟨rdV ns 0 0 0, ?_, ns, 0, 0, 0, rfl, hn, by omega, by omega, by omega, by omega⟩
  have e : cut (ns.map Va.int) none (some 63) = ns.map .int := by
    unfold cut
    have h0 : HT.sIx (ns.map Va.int).length 0 none = 0 := rfl
    have h1 : HT.sIx (ns.map Va.int).length (ns.map Va.int).length (some 63) = (ns.map Va.int).length := by
      simp [HT.sIx]
      omega
    rw [h0, h1]
    simp only [List.drop_zero, Nat.sub_zero]
    rw [List.take_of_length_le (Nat.le_refl _)]
  rw [run_rt (v := rdV ns 0 0 0) (ρ := [some (.ro (ns.map .int))]) rfl ?_]
  · rfl
  · show vXs f io w b10 [some (.ro (ns.map .int))] = _
    unfold b10
    refine xs_ret ?_
    simp [vslc, vbnd, vslice, e, rdV]
theorem draw1 {f : VCall} {io : Nat → List Nat} {w n : Nat} {v : Va} {m : Int} (F : Rd n v) (hn : n < 2 ^ 20) (h1 : 1 ≤ m) (h2 : m < 2 ^ 30) :
    ∃ r v', runV f io w ⟨2, 5, b11⟩ ⟨[0], true, true⟩ [v, .int m] = .ok (.int r) [v'] ∧ 0 ≤ r ∧ r < m ∧ Rd (n + 1) v' := by
  obtain ⟨cells, a, l, c, rfl, hc, ha, hl, hc0, hcn⟩ := F
  have q1 : (0 : Int) < m := by omega
  have q2 : m < 1073741824 := by omega
  suffices H : (vXs f io w b11 (vstart 5 [rdV cells a l c, .int m])).wp fun fl ρ => ∃ v, fl = .rt v ∧ ∃ r v', v = .int r ∧ ρ[0]? = some (some v') ∧ 0 ≤ r ∧ r < m ∧ Rd (n + 1) v' by
    obtain ⟨v, ρ, e, r, v', rfl, e0, r1, r2, r3⟩ := run_wp (g := ⟨2, 5, b11⟩) (i := ⟨[0], true, true⟩) (f := f) (io := io) (w := w) (vs := [rdV cells a l c, .int m]) rfl H
    refine ⟨r, v', ?_, r1, r2, r3⟩
    rw [e]
    simp [vend, Va.flat, outs, e0]
  unfold b11
  rw [xs_nx (ρ' := [some (rdV cells a l (c + 1)), some (.int m), none, none, none]) (by
    simp [vstart, j3, s3])]
  by_cases hlt : 0 < l
  · refine vp_eq (xs_rt (v := .int (l % m)) (ρ' := [some (rdV cells a (l / m) (c + 1)), some (.int m), some (.int (l % m)), none, none]) ?_) ⟨_, rfl, _, _, rfl, rfl, Int.emod_nonneg _ (by omega), Int.emod_lt_of_pos _ q1, _, _, _, _, rfl, hc, ha, Int.ediv_nonneg hl (by omega), by omega, by omega⟩
    simp [xs_cons, xs_nil, j2, s2, vlt_int, hlt, q1, q2]
  · have l0 : l = 0 := by omega
    subst l0
    rw [xs_nx (ρ' := [some (rdV cells a 0 (c + 1)), some (.int m), none, none, none]) (by
      simp [xs_nil, j2, vlt_int])]
    rw [xs_nx (ρ' := [some (rdV cells a 0 (c + 1)), some (.int m), none, some (.int 13), none]) (by simp)]
    have cell : ∃ z : Int, vX f io w (.ifs (.cmp .ne (.ix (.loc 0) (.cst (.int 0))) (.lst []))
        [.asg (.nm 3) (.ix (.ix (.loc 0) (.cst (.int 0))) (.bin .mod (.ix (.loc 0) (.cst (.int 1))) (.bi .len [(.ix (.loc 0) (.cst (.int 0)))])))]
        []) [some (rdV cells a 0 (c + 1)), some (.int m), none, some (.int 13), none] =
        .ok .nx [some (rdV cells a 0 (c + 1)), some (.int m), none, some (.int z), none] := by
      have e := ints_ne cells
      by_cases hcl : cells = []
      · subst hcl
        exact ⟨13, by simp [j0, xs_nil] at e ⊢; simp [e, xs_nil]⟩
      · have hpos : (0 : Int) < (cells.map Va.int).length := by have := List.length_pos_iff.mpr hcl; simpa using this
        have h3 := Int.emod_lt_of_pos a hpos
        have h4 := Int.emod_nonneg a (by omega : ((cells.map Va.int).length : Int) ≠ 0)
        have at1 := vat_nat h4 h3
        obtain ⟨z, hz⟩ : ∃ z : Int, (cells.map Va.int)[(a % (cells.map Va.int).length).toNat]'(by omega) = .int z := ⟨_, List.getElem_map _⟩
        rw [hz] at at1
        simp only [List.length_map] at at1 hpos
        have hemp : cells.isEmpty = false := by simpa using hcl
        have hm := r_mod_int (i := a) hpos
        exact ⟨z, by simp [j0, j1, e, hemp, hm, at1, xs_one]⟩
    obtain ⟨z, hz⟩ := cell
    rw [xs_nx hz]
    rw [xs_nx (ρ' := [some (rdV cells (a + 1) 0 (c + 1)), some (.int m), none, some (.int z), none]) (by
      simp [j1, s1])]
    have p18 : vbin .pow (.int 10) (.int 18) = some (.int 1000000000000000000) := r_pow_int (n := 18) (by decide) (by decide) (by decide)
    by_cases hbig : 1000000000000000000 ≤ z ∧ a + 1 ≤ cells.length
    · refine vp_eq (xs_rt (v := .int (z % m)) (ρ' := [some (rdV cells (a + 1) (z / m) (c + 1)), some (.int m), none, some (.int z), none]) ?_) ⟨_, rfl, _, _, rfl, rfl, Int.emod_nonneg _ (by omega), Int.emod_lt_of_pos _ q1, _, _, _, _, rfl, hc, by omega, Int.ediv_nonneg (by omega) (by omega), by omega, by omega⟩
      have b1 : ¬ z < 1000000000000000000 := by omega
      have b2 : ¬ (cells.length : Int) < a + 1 := by omega
      simp [xs_cons, xs_nil, j0, j1, s2, vlt_int, b2, b1, p18, q1, q2]
    · rw [xs_nx (ρ' := [some (rdV cells (a + 1) 0 (c + 1)), some (.int m), none, some (.int z), none]) (by
        by_cases b1 : z < 1000000000000000000
        · simp [xs_nil, vlt_int, b1, p18]
        · have b2 : (cells.length : Int) < a + 1 := Int.not_le.mp fun h => hbig ⟨by omega, h⟩
          simp [xs_nil, j0, j1, vlt_int, b1, b2, p18])]
      have c1 : -two64 < c + 1 ∧ c + 1 < two64 := by unfold two64; omega
      have c2 : -two64 < (5827 : Int) ∧ (5827 : Int) < two64 := by decide
      have c3 : -two64 < (3907 : Int) ∧ (3907 : Int) < two64 := by decide
      generalize hx : z % 2147483629 + 5827 * (c + 1) + 17 = x
      have x1 : -two64 < x ∧ x < two64 := by
        have h1 := Int.emod_nonneg z (by decide : (2147483629 : Int) ≠ 0)
        have h2 := Int.emod_lt_of_pos z (by decide : (0 : Int) < 2147483629)
        unfold two64
        omega
      have p5 : ∀ {x : Int}, (-two64 < x ∧ x < two64) → vbin .pow (.int x) (.int 5) = some (.int (x ^ 5)) := fun {x} h => r_pow_int (n := 5) (by decide) h.1 h.2
      rw [xs_nx (ρ' := [some (rdV cells (a + 1) 0 (c + 1)), some (.int m), none, some (.int z), some (.int (x ^ 5 % 2147483647))]) (by
        simp [j3, c1, c2, hx, p5 x1])]
      generalize hy : x ^ 5 % 2147483647 + 3907 * (c + 1) * (c + 1) = y
      have y1 : -two64 < y ∧ y < two64 := by
        have h1 := Int.emod_nonneg (x ^ 5) (by decide : (2147483647 : Int) ≠ 0)
        have h2 := Int.emod_lt_of_pos (x ^ 5) (by decide : (0 : Int) < 2147483647)
        have h3 : 3907 * (c + 1) * (c + 1) ≤ 3907 * 1048576 * 1048576 := Int.mul_le_mul (by omega) (by omega) (by omega) (by omega)
        have h4 : 0 ≤ 3907 * (c + 1) * (c + 1) := Int.mul_nonneg (by omega) (by omega)
        unfold two64
        omega
      refine vp_eq (xs_rt (v := .int (y ^ 5 % 2147483587 / 32 % m)) (ρ' := [some (rdV cells (a + 1) 0 (c + 1)), some (.int m), none, some (.int z), some (.int (x ^ 5 % 2147483647))]) ?_) ⟨_, rfl, _, _, rfl, rfl, Int.emod_nonneg _ (by omega), Int.emod_lt_of_pos _ q1, _, _, _, _, rfl, hc, by omega, by omega, by omega, by omega⟩
      simp [j3, c1, c3, hy, p5 y1, q1]
end K01
end

section
/-! K01e -/
set_option maxHeartbeats 2000000
/-! K01e: changes at random. -/
namespace K01
open Dv PySem PySem.W

theorem cut_to {xs : List Va} {i : Nat} (h : i ≤ xs.length) : cut xs none (some (i : Int)) = xs.take i := by
  unfold cut
  have h0 : HT.sIx xs.length 0 none = 0 := rfl
  have h1 : HT.sIx xs.length xs.length (some (i : Int)) = i := by
    rw [HT.sIx_nat]; omega
  rw [h0, h1]
  rfl
theorem cut_from {xs : List Va} {i : Nat} (h : i ≤ xs.length) : cut xs (some (i : Int)) none = xs.drop i := by
  unfold cut
  have h0 : HT.sIx xs.length xs.length none = xs.length := rfl
  have h1 : HT.sIx xs.length 0 (some (i : Int)) = i := by
    rw [HT.sIx_nat]; omega
  rw [h0, h1, List.take_of_length_le (by simp)]
theorem slc_to {xs : List Va} {i : Nat} (h : i ≤ xs.length) : vslc (.tup xs) .non (.int (i : Int)) = some (.tup (xs.take i)) := by
  simp [vslc, vbnd, vslice, cut_to h]
theorem slc_from {xs : List Va} {i : Nat} (h : i ≤ xs.length) : vslc (.tup xs) (.int (i : Int)) .non = some (.tup (xs.drop i)) := by
  simp [vslc, vbnd, vslice, cut_from h]
theorem slc_to1 {xs : List Va} {i : Nat} (h : i + 1 ≤ xs.length) : vslc (.tup xs) .non (.int ((i : Int) + 1)) = some (.tup (xs.take (i + 1))) := slc_to h
theorem slc_from1 {xs : List Va} {i : Nat} (h : i + 1 ≤ xs.length) : vslc (.tup xs) (.int ((i : Int) + 1)) .non = some (.tup (xs.drop (i + 1))) := slc_from h
/-- the menu -/
def Menu (menu : List Va) : Prop := 0 < menu.length ∧ menu.length < 100 ∧ ∀ x ∈ menu, x.nice true 1 = true ∧ x.wt ≤ 300
theorem wts_take_le (l : List Va) (i : Nat) : wts (l.take i) + wts (l.drop i) = wts l := by
  rw [← wts_append, List.take_append_drop]
theorem wts_at {l : List Va} {i : Nat} (h : i < l.length) : wts (l.take i) + (l[i].wt + 1 + wts (l.drop (i + 1))) = wts l := by
  have := wts_take_le l i
  rw [List.drop_eq_getElem_cons h, wts_cons] at this
  exact this
section
variable {f : VCall} {io : Nat → List Nat} {w : Nat}
/-- a random value of the menu -/
def PickOk (f : VCall) (k : Nat) (menu : List Va) : Prop := ∀ (n : Nat) (rd : Va), Rd n rd → n < 2 ^ 20 → ∃ x rd', f k [rd, .list menu] = .ok x [rd'] ∧ x ∈ menu ∧ Rd (n + 1) rd'
theorem pick1 {menu : List Va} (hm : Menu menu) (hio : io 11 = [0]) (D : DrawR f 11) {n : Nat} {rd : Va} (F : Rd n rd) (hn : n < 2 ^ 20) : ∃ x rd', runV f io w ⟨2, 2, b12⟩ ⟨[0], false, false⟩ [rd, .list menu] = .ok x [rd'] ∧ x ∈ menu ∧ Rd (n + 1) rd' := by
  obtain ⟨r, rd', e, h0, h1, F'⟩ := D n rd menu.length F hn (by have := hm.1; omega) (by have := hm.2.1; omega)
  have a := vat_nat (xs := menu) h0 h1
  refine ⟨menu[r.toNat]'(by omega), rd', ?_, List.getElem_mem _, F'⟩
  · rw [run_rt (v := menu[r.toNat]'(by omega)) (ρ := [some rd', some (.list menu)]) rfl ?_]
    · simp [vend, outs]
    · show vXs f io w b12 [some rd, some (.list menu)] = _
      unfold b12
      refine xs_ret ?_
      simp [doCall, hio, vfront, e, afterCall, vback, a]
/-- changed: d storeys -/
def MutOk (f : VCall) (k d : Nat) (menu : List Va) : Prop := ∀ (n : Nat) (rd v : Va), Rd n rd → n + 10 * d < 2 ^ 18 → v.nice true d = true → v.wt ≤ 14000 → ∃ v' rd', f k [rd, v, .list menu] = .ok v' [rd'] ∧ v'.nice true (d + 1) = true ∧ v'.wt ≤ 2 * v.wt + 400 ∧ Rd (n + 5 * (d + 1)) rd'
variable {menu : List Va} (hm : Menu menu) (i11 : io 11 = [0]) (i12 : io 12 = [0]) (i13 : io 13 = [0]) (D : DrawR f 11) (Pk : PickOk f 12 menu)
include hm i11 i12 i13 D Pk
/-- the end: neither a tuple that is changed nor a text -/
theorem mut_end {n d : Nat} {rd v : Va} {a3 a4 : Option Va} (F : Rd n rd) (hn : n < 2 ^ 19) (hv : v.nice true d = true) (hns : ∀ s, v ≠ .str s) : ∃ v' rd' ρ, vXs f io w [.ifs (.and [(.bi (.inst .str) [(.loc 1)]), (.cmp .eq (.call 11 [(.loc 0), (.cst (.int 2))]) (.cst (.int 0)))])
    [.ret (.ix (.lst [(.bin .add (.loc 1) (.cst (.str "a"))), (.slc (.loc 1) (.bnd (.cst (.int 1))) (.cst .non))]) (.call 11 [(.loc 0), (.cst (.int 2))]))]
    [],
  .ifs (.and [(.bi (.inst .tuple) [(.loc 1)]), (.cmp .eq (.call 11 [(.loc 0), (.cst (.int 4))]) (.cst (.int 0)))])
    [.ret (.bi .list [(.loc 1)])]
    [],
  .ret (.call 12 [(.loc 0), (.loc 2)])] [some rd, some v, some (.list menu), a3, a4] = .ok (.rt v') ρ ∧ ρ[0]? = some (some rd') ∧ v'.nice true (d + 1) = true ∧ v'.wt ≤ v.wt + 400 ∧ Rd (n + 2) rd' := by
  obtain ⟨x, rd2, e2, hx, F2⟩ := Pk n rd F (by omega)
  have hx1 := hm.2.2 x hx
  by_cases ht : ∃ xs, v = .tup xs
  · obtain ⟨xs, rfl⟩ := ht
    obtain ⟨r, rd1, e1, r0, r1, F1⟩ := D n rd 4 F (by omega) (by omega) (by omega)
    obtain ⟨y, rd3, e3, hy, F3⟩ := Pk (n + 1) rd1 F1 (by omega)
    have hy1 := hm.2.2 y hy
    by_cases h0 : r = 0
    · subst h0
      refine ⟨.list xs, rd1, [some rd1, some (.tup xs), some (.list menu), a3, a4], ?_, rfl, ?_, by simp, F1.mono (by omega)⟩
      · rw [xs_nx (ρ' := [some rd, some (.tup xs), some (.list menu), a3, a4]) (by simp [Ki.sub, xs_nil])]
        refine xs_rt ?_
        simp [Ki.sub, doCall, i11, vfront, e1, afterCall, vback, veq_int, xs_one]
      · cases d with
        | zero => simp [Va.nice] at hv
        | succ d =>
          have h : Va.nices true xs d = true := by simpa [Va.nice] using hv
          have := Va.nices_up h (show d ≤ d + 1 by omega)
          simpa [Va.nice] using this
    · refine ⟨y, rd3, [some rd3, some (.tup xs), some (.list menu), a3, a4], ?_, rfl, Va.nice_up hy1.1 (by omega), by omega, F3.mono (by omega)⟩
      rw [xs_nx (ρ' := [some rd, some (.tup xs), some (.list menu), a3, a4]) (by simp [Ki.sub, xs_nil])]
      rw [xs_nx (ρ' := [some rd1, some (.tup xs), some (.list menu), a3, a4]) (by simp [Ki.sub, doCall, i11, vfront, e1, afterCall, vback, veq_int, h0, xs_nil])]
      refine xs_ret ?_
      simp [doCall, i12, vfront, e3, afterCall, vback]
  · refine ⟨x, rd2, [some rd2, some v, some (.list menu), a3, a4], ?_, rfl, Va.nice_up hx1.1 (by omega), by omega, F2.mono (by omega)⟩
    have k1 : ∃ j, vkind v = some j ∧ kiOf .str j = false ∧ kiOf .tuple j = false := by
      cases v with
      | tup xs => exact absurd ⟨xs, rfl⟩ ht
      | str s => exact absurd rfl (hns s)
      | non => exact ⟨_, rfl, rfl, rfl⟩
      | bl _ => exact ⟨_, rfl, rfl, rfl⟩
      | int _ => exact ⟨_, rfl, rfl, rfl⟩
      | list _ => exact ⟨_, rfl, rfl, rfl⟩
      | dict _ => simp [Va.nice] at hv
      | fn _ => simp [Va.nice] at hv
      | ro _ => simp [Va.nice] at hv
    obtain ⟨j, k1, k2, k3⟩ := k1
    rw [xs_nx (ρ' := [some rd, some v, some (.list menu), a3, a4]) (by simp [k1, k2, xs_nil])]
    rw [xs_nx (ρ' := [some rd, some v, some (.list menu), a3, a4]) (by simp [k1, k3, xs_nil])]
    refine xs_ret ?_
    simp [doCall, i12, vfront, e2, afterCall, vback]
/-- a change, one storey down -/
theorem mut1 {d : Nat} (hd : d ≤ 4) (hW : ∀ e, d = e + 1 → MutOk f 13 e menu) {n : Nat} {rd v : Va} (F : Rd n rd) (hn : n + 10 * d < 2 ^ 18) (hv : v.nice true d = true) (hw : v.wt ≤ 14000) :
    ∃ v' rd', runV f io w ⟨3, 5, b13⟩ ⟨[0], false, false⟩ [rd, v, .list menu] = .ok v' [rd'] ∧ v'.nice true (d + 1) = true ∧ v'.wt ≤ 2 * v.wt + 400 ∧ Rd (n + 5 * (d + 1)) rd' := by
  suffices H : ∃ v' rd' ρ, vXs f io w b13 [some rd, some v, some (.list menu), none, none] = .ok (.rt v') ρ ∧ ρ[0]? = some (some rd') ∧ v'.nice true (d + 1) = true ∧ v'.wt ≤ 2 * v.wt + 400 ∧ Rd (n + 5 * (d + 1)) rd' by
    obtain ⟨v', rd', ρ, e, e0, h1, h2, h3⟩ := H
    refine ⟨v', rd', ?_, h1, h2, h3⟩
    rw [run_rt (v := v') (ρ := ρ) rfl e]
    simp [vend, outs, e0]
  unfold b13
  by_cases hs : ∃ s, v = .str s
  · obtain ⟨s, rfl⟩ := hs
    have sw : s.length ≤ 14000 := by simpa using hw
    have so : PyData.strOk s = true := by simpa [Va.nice] using hv
    rw [xs_nx (ρ' := [some rd, some (.str s), some (.list menu), none, none]) (by simp [Ki.sub, xs_nil])]
    obtain ⟨r, rd1, e1, r0, r1, F1⟩ := D n rd 2 F (by omega) (by omega) (by omega)
    by_cases h0 : r = 0
    · subst h0
      obtain ⟨r', rd2, e2, r0', r1', F2⟩ := D (n + 1) rd1 2 F1 (by omega) (by omega) (by omega)
      have l1 : s.length + 1 ≤ 16777216 := by omega
      have la : ("a" : Str).length = 1 := rfl
      have slc1 : vslc (.str s) (.int 1) .non = some (.str ⟨(cut s.cps.toList (some 1) none).toArray⟩) := rfl
      have okc : PyData.strOk ⟨(cut s.cps.toList (some 1) none).toArray⟩ = true := by
        rw [strOk_iff] at so ⊢
        intro c hc
        unfold cut at hc
        exact so c (List.mem_of_mem_drop (List.mem_of_mem_take hc))
      have lnc : (⟨(cut s.cps.toList (some 1) none).toArray⟩ : Str).length ≤ s.length := by
        show (cut s.cps.toList (some 1) none).toArray.size ≤ s.cps.size
        rw [List.size_toArray]
        unfold cut
        rw [List.length_take, List.length_drop, Array.length_toList]
        omega
      have oka : PyData.strOk (s ++ ("a" : Str)) = true := ok_app so (ok_of "a")
      have lna : (s ++ ("a" : Str)).length = s.length + 1 := by
        show (s.cps ++ ("a" : Str).cps).size = _
        rw [Array.size_append]
        rfl
      have rr : r' = 0 ∨ r' = 1 := by omega
      rcases rr with rfl | rfl
      · refine ⟨.str (s ++ "a"), rd2, [some rd2, some (.str s), some (.list menu), none, none], xs_rt ?_, rfl, by simpa [Va.nice] using oka, by rw [wt_str, wt_str, lna]; omega, F2.mono (by omega)⟩
        have at0 : L2.atI [Va.str (s ++ ("a" : Str)), .str ⟨(cut s.cps.toList (some 1) none).toArray⟩] 0 = some (.str (s ++ ("a" : Str))) := rfl
        simp [Ki.sub, doCall, i11, vfront, e1, e2, afterCall, vback, veq_int, xs_one, la, l1, slc1, at0]
      · refine ⟨.str ⟨(cut s.cps.toList (some 1) none).toArray⟩, rd2, [some rd2, some (.str s), some (.list menu), none, none], xs_rt ?_, rfl, by simpa [Va.nice] using okc, by rw [wt_str, wt_str]; omega, F2.mono (by omega)⟩
        have at1 : L2.atI [Va.str (s ++ ("a" : Str)), .str ⟨(cut s.cps.toList (some 1) none).toArray⟩] 1 = some (.str ⟨(cut s.cps.toList (some 1) none).toArray⟩) := rfl
        simp [Ki.sub, doCall, i11, vfront, e1, e2, afterCall, vback, veq_int, xs_one, la, l1, slc1, at1]
    · obtain ⟨y, rd3, e3, hy, F3⟩ := Pk (n + 1) rd1 F1 (by omega)
      have hy1 := hm.2.2 y hy
      refine ⟨y, rd3, [some rd3, some (.str s), some (.list menu), none, none], ?_, rfl, Va.nice_up hy1.1 (by omega), by omega, F3.mono (by omega)⟩
      rw [xs_nx (ρ' := [some rd1, some (.str s), some (.list menu), none, none]) (by simp [Ki.sub, doCall, i11, vfront, e1, afterCall, vback, veq_int, h0, xs_nil])]
      rw [xs_nx (ρ' := [some rd1, some (.str s), some (.list menu), none, none]) (by simp [Ki.sub, xs_nil])]
      refine xs_ret ?_
      simp [doCall, i12, vfront, e3, afterCall, vback]
  have hns : ∀ s, v ≠ .str s := fun s e => hs ⟨s, e⟩
  by_cases ht : ∃ x xs, v = .tup (x :: xs)
  rotate_left
  · obtain ⟨v', rd', ρ, e, e0, h1, h2, h3⟩ := mut_end (f := f) (io := io) (w := w) hm i11 i12 i13 D Pk (a3 := none) (a4 := none) F (by omega) hv hns
    refine ⟨v', rd', ρ, ?_, e0, h1, by omega, h3.mono (by omega)⟩
    rw [xs_nx (ρ' := [some rd, some v, some (.list menu), none, none]) ?_, e]
    cases v with
    | tup xs =>
      cases xs with
      | nil =>
        have q : veq (.tup []) (.tup []) = some true := vtup_nil (t := true) (xs := []) (by simp [Va.nices])
        simp [Ki.sub, q, xs_nil]
      | cons x xs => exact absurd ⟨x, xs, rfl⟩ ht
    | str s => exact absurd rfl (hns s)
    | non => simp [xs_nil]
    | bl _ => simp [Ki.sub, xs_nil]
    | int _ => simp [Ki.sub, xs_nil]
    | list _ => simp [Ki.sub, xs_nil]
    | dict _ => simp [Va.nice] at hv
    | fn _ => simp [Va.nice] at hv
    | ro _ => simp [Va.nice] at hv
  obtain ⟨x0, xs0, rfl⟩ := ht
  generalize hxs : x0 :: xs0 = xs at *
  have hne : xs.isEmpty = false := by rw [← hxs]; rfl
  have hpos : 0 < xs.length := by rw [← hxs]; simp
  clear hxs
  have lw : xs.length ≤ 14000 := Nat.le_trans (len_wts xs) (by simpa using hw)
  have ww : wts xs ≤ 14000 := by simpa using hw
  obtain ⟨e, rfl⟩ : ∃ e, d = e + 1 := by
    cases d with
    | zero => simp [Va.nice] at hv
    | succ e => exact ⟨e, rfl⟩
  have hni : Va.nices true xs e = true := by simpa [Va.nice] using hv
  have q := vtup_nil (t := true) (xs := xs) (Va.nices_up hni (by omega))
  rw [hne] at q
  obtain ⟨r, rd1, e1, r0, r1, F1⟩ := D n rd 4 F (by omega) (by omega) (by omega)
  by_cases h0 : 0 < r
  rotate_left
  · obtain ⟨v', rd', ρ, e', e0, h1, h2, h3⟩ := mut_end (f := f) (io := io) (w := w) hm i11 i12 i13 D Pk (a3 := none) (a4 := none) F1 (by omega) hv hns
    refine ⟨v', rd', ρ, ?_, e0, h1, by omega, h3.mono (by omega)⟩
    rw [xs_nx (ρ' := [some rd1, some (.tup xs), some (.list menu), none, none]) ?_, e']
    simp [Ki.sub, q, doCall, i11, vfront, e1, afterCall, vback, vlt_int, h0, xs_nil]
  obtain ⟨ra, rd2, e2, ra0, ra1, F2⟩ := D (n + 1) rd1 xs.length F1 (by omega) (by omega) (by omega)
  obtain ⟨i, rfl⟩ : ∃ i : Nat, ra = i := ⟨ra.toNat, by omega⟩
  have hi : i < xs.length := by omega
  obtain ⟨rw', rd3, e3, rw0, rw1, F3⟩ := D (n + 2) rd2 8 F2 (by omega) (by omega) (by omega)
  have ni : ∀ x ∈ xs, x.nice true e = true := nices_iff.mp hni
  have nup : ∀ {l : List Va}, (∀ x ∈ l, x.nice true (e + 1) = true) → (Va.tup l).nice true (e + 1 + 1) = true := fun h => by
    rw [Va.nice]
    exact nices_iff.mpr h
  have n1 : ∀ x ∈ xs, x.nice true (e + 1) = true := fun x hx => Va.nice_up (ni x hx) (by omega)
  have tk : ∀ {j} , ∀ x ∈ xs.take j, x.nice true (e + 1) = true := fun x hx => n1 x (List.mem_of_mem_take hx)
  have dk : ∀ {j} , ∀ x ∈ xs.drop j, x.nice true (e + 1) = true := fun x hx => n1 x (List.mem_of_mem_drop hx)
  have wd := wts_take_le xs i
  have wd1 := wts_take_le xs (i + 1)
  have wa := wts_at hi
  have st := slc_to (xs := xs) (i := i) (by omega)
  have sf := slc_from (xs := xs) (i := i) (by omega)
  have st1 := slc_to1 (xs := xs) (i := i) (by omega)
  have sf1 := slc_from1 (xs := xs) (i := i) (by omega)
  have at1 : L2.atI xs (i : Int) = some xs[i] := by
    have := vat_nat (xs := xs) (r := (i : Int)) (by omega) (by omega)
    simpa using this
  have la : (xs.take i).length + (xs.drop i).length ≤ 16777216 := by simp; omega
  -- the whole of the branch
  suffices H : ∃ v' rd' ρ, vXs f io w [.asg (.tp [3, 4]) (.tup [(.call 11 [(.loc 0), (.bi .len [(.loc 1)])]), (.call 11 [(.loc 0), (.cst (.int 8))])]),
    .ifs (.cmp .lt (.loc 4) (.cst (.int 4)))
      [.ret (.bin .add (.bin .add (.slc (.loc 1) (.cst .non) (.bnd (.loc 3))) (.tup [(.call 13 [(.loc 0), (.ix (.loc 1) (.loc 3)), (.loc 2)])])) (.slc (.loc 1) (.bnd (.bin .add (.loc 3) (.cst (.int 1)))) (.cst .non)))]
      [],
    .ifs (.cmp .eq (.loc 4) (.cst (.int 4)))
      [.ret (.bin .add (.slc (.loc 1) (.cst .non) (.bnd (.loc 3))) (.slc (.loc 1) (.bnd (.bin .add (.loc 3) (.cst (.int 1)))) (.cst .non)))]
      [],
    .ifs (.cmp .eq (.loc 4) (.cst (.int 5)))
      [.ret (.bin .add (.slc (.loc 1) (.cst .non) (.bnd (.bin .add (.loc 3) (.cst (.int 1))))) (.slc (.loc 1) (.bnd (.loc 3)) (.cst .non)))]
      [],
    .ifs (.cmp .eq (.loc 4) (.cst (.int 6)))
      [.ret (.bin .add (.slc (.loc 1) (.bnd (.loc 3)) (.cst .non)) (.slc (.loc 1) (.cst .non) (.bnd (.loc 3))))]
      [],
    .ret (.bin .add (.bin .add (.slc (.loc 1) (.cst .non) (.bnd (.loc 3))) (.tup [(.call 12 [(.loc 0), (.loc 2)])])) (.slc (.loc 1) (.bnd (.loc 3)) (.cst .non)))] [some rd1, some (.tup xs), some (.list menu), none, none] = .ok (.rt v') ρ ∧ ρ[0]? = some (some rd') ∧ v'.nice true (e + 1 + 1) = true ∧ v'.wt ≤ 2 * (Va.tup xs).wt + 400 ∧ Rd (n + 5 * (e + 1 + 1)) rd' by
    obtain ⟨v', rd', ρ, h1, h2⟩ := H
    refine ⟨v', rd', ρ, ?_, h2⟩
    rw [xs_rt (v := v') (ρ' := ρ) ?_]
    rw [x_ifs]
    have c : vE f io w (.and [(.bi (.inst .tuple) [(.loc 1)]), (.cmp .ne (.loc 1) (.tup [])), (.cmp .gt (.call 11 [(.loc 0), (.cst (.int 4))]) (.cst (.int 0)))]) [some rd, some (.tup xs), some (.list menu), none, none] = .ok (.bl true) [some rd1, some (.tup xs), some (.list menu), none, none] := by
      simp [Ki.sub, q, doCall, i11, vfront, e1, afterCall, vback, vlt_int, h0]
    rw [c]
    exact h1
  rw [xs_nx (ρ' := [some rd3, some (.tup xs), some (.list menu), some (.int i), some (.int rw')]) (by simp [doCall, i11, vfront, e2, e3, afterCall, vback])]
  by_cases w4 : rw' < 4
  · obtain ⟨y, rd4, e4, ny, wy, F4⟩ := hW e rfl (n + 3) rd3 xs[i] F3 (by omega) (ni _ (List.getElem_mem hi)) (by have := wt_mem (List.getElem_mem hi); omega)
    refine ⟨.tup (xs.take i ++ [y] ++ xs.drop (i + 1)), rd4, [some rd4, some (.tup xs), some (.list menu), some (.int i), some (.int rw')], xs_rt ?_, rfl, nup ?_, ?_, F4.mono (by omega)⟩
    · have l1 : (xs.take i).length + 1 ≤ 16777216 := by simp; omega
      have l2 : (xs.take i ++ [y]).length + (xs.drop (i + 1)).length ≤ 16777216 := by simp; omega
      have c1 := r_add_tup (xs := xs.take i) (ys := [y]) l1
      have c2 := r_add_tup l2
      generalize xs.take i ++ [y] = A at *
      simp [vlt_int, w4, xs_one, doCall, i13, vfront, e4, afterCall, vback, st, sf1, at1, c1, c2]
    · intro x hx
      simp only [List.mem_append, List.mem_singleton] at hx
      rcases hx with (hx | rfl) | hx
      · exact tk x hx
      · exact ny
      · exact dk x hx
    · simp only [wt_tup, wts_append, wts_cons, wts_nil]
      omega
  rw [xs_nx (ρ' := [some rd3, some (.tup xs), some (.list menu), some (.int i), some (.int rw')]) (by simp [vlt_int, w4, xs_nil])]
  by_cases w5 : rw' = 4
  · subst w5
    refine ⟨.tup (xs.take i ++ xs.drop (i + 1)), rd3, [some rd3, some (.tup xs), some (.list menu), some (.int i), some (.int 4)], xs_rt ?_, rfl, nup ?_, ?_, F3.mono (by omega)⟩
    · have c1 := r_add_tup (xs := xs.take i) (ys := xs.drop (i + 1)) (by simp; omega)
      simp [veq_int, xs_one, st, sf1, c1]
    · intro x hx
      exact (List.mem_append.mp hx).elim (tk x) (dk x)
    · simp only [wt_tup, wts_append]
      omega
  rw [xs_nx (ρ' := [some rd3, some (.tup xs), some (.list menu), some (.int i), some (.int rw')]) (by simp [veq_int, w5, xs_nil])]
  by_cases w6 : rw' = 5
  · subst w6
    refine ⟨.tup (xs.take (i + 1) ++ xs.drop i), rd3, [some rd3, some (.tup xs), some (.list menu), some (.int i), some (.int 5)], xs_rt ?_, rfl, nup ?_, ?_, F3.mono (by omega)⟩
    · have c1 := r_add_tup (xs := xs.take (i + 1)) (ys := xs.drop i) (by simp; omega)
      simp [veq_int, xs_one, st1, sf, c1]
    · intro x hx
      exact (List.mem_append.mp hx).elim (tk x) (dk x)
    · simp only [wt_tup, wts_append]
      omega
  rw [xs_nx (ρ' := [some rd3, some (.tup xs), some (.list menu), some (.int i), some (.int rw')]) (by simp [veq_int, w6, xs_nil])]
  by_cases w7 : rw' = 6
  · subst w7
    refine ⟨.tup (xs.drop i ++ xs.take i), rd3, [some rd3, some (.tup xs), some (.list menu), some (.int i), some (.int 6)], xs_rt ?_, rfl, nup ?_, ?_, F3.mono (by omega)⟩
    · have c1 := r_add_tup (xs := xs.drop i) (ys := xs.take i) (by simp; omega)
      simp [veq_int, xs_one, st, sf, c1]
    · intro x hx
      exact (List.mem_append.mp hx).elim (dk x) (tk x)
    · simp only [wt_tup, wts_append]
      omega
  rw [xs_nx (ρ' := [some rd3, some (.tup xs), some (.list menu), some (.int i), some (.int rw')]) (by simp [veq_int, w7, xs_nil])]
  obtain ⟨y, rd4, e4, hy, F4⟩ := Pk (n + 3) rd3 F3 (by omega)
  have hy1 := hm.2.2 y hy
  refine ⟨.tup (xs.take i ++ [y] ++ xs.drop i), rd4, [some rd4, some (.tup xs), some (.list menu), some (.int i), some (.int rw')], xs_ret ?_, rfl, nup ?_, ?_, F4.mono (by omega)⟩
  · have l1 : (xs.take i).length + 1 ≤ 16777216 := by simp; omega
    have l2 : (xs.take i ++ [y]).length + (xs.drop i).length ≤ 16777216 := by simp; omega
    have c1 := r_add_tup (xs := xs.take i) (ys := [y]) l1
    have c2 := r_add_tup l2
    generalize xs.take i ++ [y] = A at *
    simp [doCall, i12, vfront, e4, afterCall, vback, st, sf, c1, c2]
  · intro x hx
    simp only [List.mem_append, List.mem_singleton] at hx
    rcases hx with (hx | rfl) | hx
    · exact tk x hx
    · exact Va.nice_up hy1.1 (by omega)
    · exact dk x hx
  · simp only [wt_tup, wts_append, wts_cons, wts_nil]
    omega
end
end K01
end

section
/-! K01f -/
set_option maxHeartbeats 2000000
/-! K01f: rings, rows, sizes. -/
namespace K01
open Dv PySem PySem.W

section
variable {f : VCall} {io : Nat → List Nat} {w : Nat} {b : Bool}
theorem tupAll1 {k : Nat} {P : Va → Bool} (hw : 100000 < w) (hio : io k = []) (H : Chk f k P) : ∀ v, Item v → runV f io w ⟨1, 2, [.ret (.and [(.bi (.inst .tuple) [(.loc 0)]), (.bi .all [(.lc (.call k [(.loc 1)]) (.nm 1) (.loc 0) [])])])]⟩ ⟨[], true, b⟩ [v] = .ok (.bl (match v with
    | .tup xs => xs.all P
    | _ => false)) [] := by
  intro v hv
  refine run_bl (ρ := [some v, none]) rfl ?_
  show vXs f io w _ [some v, none] = _
  refine xs_ret ?_
  rcases not_tup hv with ⟨xs, rfl⟩ | ⟨j, h1, h2⟩
  · have := lc_chk (w := w) hio H (fun x hx => hv.mem hx) (by have := hv.len; omega) (by have := hv.len; omega)
    generalize C.bi .all [(.lc (.call k [(.loc 1)]) (.nm 1) (.loc 0) [])] = q at *
    simp [Ki.sub, this]
  · cases v with
    | tup xs => cases h1; cases h2
    | _ => simp [h1, h2]
theorem tupAll2 {k : Nat} {P : Va → Bool} (hw : 100000 < w) (hio : io k = []) (H : Chk f k P) : ∀ v, Item v → runV f io w ⟨1, 2, [.ret (.and [(.bi (.inst .tuple) [(.loc 0)]), (.cmp .eq (.lc (.loc 1) (.nm 1) (.loc 0) [(.not (.call k [(.loc 1)]))]) (.lst []))])]⟩ ⟨[], true, b⟩ [v] = .ok (.bl (match v with
    | .tup xs => xs.all P
    | _ => false)) [] := by
  intro v hv
  refine run_bl (ρ := [some v, none]) rfl ?_
  show vXs f io w _ [some v, none] = _
  refine xs_ret ?_
  rcases not_tup hv with ⟨xs, rfl⟩ | ⟨j, h1, h2⟩
  · have := lc_chk2 (w := w) hio H (fun x hx => hv.mem hx) (by have := hv.len; omega) (by have := hv.len; omega)
    generalize C.cmp .eq (.lc (.loc 1) (.nm 1) (.loc 0) [(.not (.call k [(.loc 1)]))]) (.lst []) = q at *
    simp [Ki.sub, this]
  · cases v with
    | tup xs => cases h1; cases h2
    | _ => simp [h1, h2]
theorem row_eq (v : Va) : (match v with
    | .tup xs => xs.all isRing
    | _ => false) = isRow v := by cases v <;> rfl
theorem len_ge {xs : List Va} : vE f io w (.cmp .ge (.bi .len [(.loc 0)]) (.cst (.int 2))) [some (.tup xs)] = .ok (.bl (decide (2 ≤ xs.length))) [some (.tup xs)] := by
  by_cases h : 2 ≤ xs.length
  · have h2 : ¬ ((xs.length : Int) < 2) := by omega
    simp [vlt_int, h, h2]
  · have h2 : ((xs.length : Int) < 2) := by omega
    simp [vlt_int, h, h2]
theorem len_gt {xs : List Va} : vE f io w (.cmp .gt (.bi .len [(.loc 0)]) (.cst (.int 1))) [some (.tup xs)] = .ok (.bl (decide (2 ≤ xs.length))) [some (.tup xs)] := by
  by_cases h : 2 ≤ xs.length
  · have h2 : ((1 : Int) < xs.length) := by omega
    simp [vlt_int, h, h2]
  · have h2 : ¬ ((1 : Int) < xs.length) := by omega
    simp [vlt_int, h, h2]
theorem loop_tup {v : Va} (h : isLoop v = true) : ∃ xs, v = .tup xs ∧ xs.all isName = true ∧ 2 ≤ xs.length := by
  cases v with
  | tup xs =>
    simp only [isLoop, Bool.and_eq_true, decide_eq_true_eq] at h
    exact ⟨xs, rfl, h.1, h.2.1⟩
  | _ => cases h
theorem ring_no {v : Va} (h : isLoop v = false) : isRing v = false := by
  cases v with
  | tup xs => simp only [isRing, h, Bool.false_and]
  | _ => rfl
theorem strs_fine {xs : List Va} (hi : Item (.tup xs)) (h : xs.all isName = true) : ∀ s ∈ strsOf xs, PyData.strOk s = true := by
  intro s hs
  have e := strs_eq h
  have : Va.str s ∈ xs := by rw [e]; exact List.mem_map.mpr ⟨s, hs, rfl⟩
  exact (hi.mem this).str.1
theorem ring1 (hw : 100000 < w) (hio : io 6 = []) (H : Chk f 6 isLoop) : ∀ v, Item v → runV f io w ⟨1, 2, b7⟩ ⟨[], true, b⟩ [v] = .ok (.bl (isRing v)) [] := by
  intro v hv
  refine run_bl (ρ := [some v, none]) rfl ?_
  show vXs f io w b7 [some v, none] = _
  unfold b7
  have c := e_chk (f := f) (io := io) (w := w) (ρ := [some v, none]) (i := 0) hio rfl (H v hv)
  cases h : isLoop v with
  | false =>
    refine xs_rt ?_
    rw [x_ifs, e_not, c, ring_no h]
    simp [h, xs_one]
  | true =>
    rw [xs_nx (ρ' := [some v, none]) (by rw [x_ifs, e_not, c]; simp [h, xs_nil])]
    obtain ⟨xs, rfl, h1, h2⟩ := loop_tup h
    have hz := hv.few
    have hs := strs_eq h1
    have hf := strs_fine hv h1
    refine xs_ret ?_
    have e : isRing (.tup xs) = (strsOf xs).all fun s => leStr ((strsOf xs).headD "") s := by simp only [isRing, h, Bool.true_and]
    rw [e]
    generalize strsOf xs = l at *
    subst hs
    have ll : (l.map Va.str).length = l.length := by simp
    rw [ll] at h2 hz
    obtain ⟨s0, r, rfl⟩ : ∃ s0 r, l = s0 :: r := by
      cases l with
      | nil => simp at h2
      | cons s r => exact ⟨s, r, rfl⟩
    have lc := lc_map' (f := f) (io := io) (w := w) (ρ := [some (.tup ((s0 :: r).map .str)), none]) (ρ' := [some (.tup ((s0 :: r).map .str)), none]) Va.str (t := .nm 1) (e := .cmp .le (.ix (.loc 0) (.cst (.int 0))) (.loc 1)) (it := .loc 0) (l := s0 :: r) (x := .tup ((s0 :: r).map .str))
      (fun s => .bl (leStr s0 s)) (by simp) rfl (by omega) (by omega) fun s hsm => ⟨_, rfl, by
        have q := vlt_str (hf s hsm) (hf s0 List.mem_cons_self)
        have q2 : (!decide (s.cps.toList < s0.cps.toList)) = leStr s0 s := by
          unfold leStr
          by_cases hh : s.cps.toList < s0.cps.toList
          · rw [decide_eq_true hh, decide_eq_false (List.not_le.mpr hh)]; rfl
          · rw [decide_eq_false hh, decide_eq_true (List.not_lt.mp hh)]; rfl
        have a0 : L2.atI ((s0 :: r).map Va.str) 0 = some (.str s0) := by simp [L2.atI, L2.ixN]
        generalize (s0 :: r).map Va.str = xs at *
        rw [← q2]
        generalize decide (s.cps.toList < s0.cps.toList) = dd at *
        simp [a0, q]⟩
    have vb := vbools_map (fun s => leStr s0 s) (s0 :: r)
    generalize hx : (s0 :: r).map Va.str = xs at *
    rw [e_bi, es_cons, lc]
    simp only [VR.bind_ok, es_nil, r_all, vb, Option.map, VR.of_some]
    rw [List.all_map]
    rfl
/-! the least text -/
def minS (s : Str) (l : List Str) : Str := l.foldl (fun a y => if y.cps.toList < a.cps.toList then y else a) s
theorem minD_str : ∀ (l : List Str) (s : Str), PySem.W.minD (.str s) (l.map .str) = .str (minS s l)
  | [], s => rfl
  | y :: l, s => by
    unfold PySem.W.minD minS
    rw [List.map_cons, List.foldl_cons, List.foldl_cons, PySem.W.dataLt_str]
    have ih := minD_str l (if y.cps.toList < s.cps.toList then y else s)
    unfold PySem.W.minD minS at ih
    rw [← ih]
    congr 1
    by_cases h : y.cps.toList < s.cps.toList
    · rw [if_pos h, if_pos (decide_eq_true h)]
    · rw [if_neg h, if_neg (by simpa using h)]
theorem minS_mem : ∀ (l : List Str) (s : Str), minS s l ∈ s :: l
  | [], s => by simp [minS]
  | y :: l, s => by
    have ih := minS_mem l (if y.cps.toList < s.cps.toList then y else s)
    have e : minS s (y :: l) = minS (if y.cps.toList < s.cps.toList then y else s) l := rfl
    rw [e]
    rcases List.mem_cons.mp ih with h | h
    · rw [h]
      split <;> simp
    · exact List.mem_cons_of_mem _ (List.mem_cons_of_mem _ h)
theorem minS_le : ∀ (l : List Str) (s : Str), ∀ y ∈ s :: l, (minS s l).cps.toList ≤ y.cps.toList
  | [], s, y, h => by
    have : y = s := by simpa using h
    rw [this]
    exact List.le_refl _
  | z :: l, s, y, h => by
    have e : minS s (z :: l) = minS (if z.cps.toList < s.cps.toList then z else s) l := rfl
    rw [e]
    have ih := minS_le l (if z.cps.toList < s.cps.toList then z else s)
    have h0 := ih _ List.mem_cons_self
    rcases List.mem_cons.mp h with rfl | h
    · refine List.le_trans h0 ?_
      split
      · exact List.le_of_lt ‹_›
      · exact List.le_refl _
    · rcases List.mem_cons.mp h with rfl | h
      · refine List.le_trans h0 ?_
        split
        · exact List.le_refl _
        · exact List.not_lt.mp ‹_›
      · exact ih y (List.mem_cons_of_mem _ h)
theorem str_anti {a b : Str} (h1 : a.cps.toList ≤ b.cps.toList) (h2 : b.cps.toList ≤ a.cps.toList) : a = b := by
  have e : a.cps.toList = b.cps.toList := List.le_antisymm h1 h2
  have e2 : a.cps = b.cps := Array.toList_inj.mp e
  cases a; cases b; cases e2; rfl
theorem min_first (s : Str) (l : List Str) : decide (s = minS s l) = (s :: l).all fun y => leStr s y := by
  rw [Bool.eq_iff_iff, decide_eq_true_eq, List.all_eq_true]
  unfold leStr
  constructor
  · intro h y hy
    rw [decide_eq_true_eq, h]
    exact minS_le l s y hy
  · intro h
    exact str_anti (of_decide_eq_true (h _ (minS_mem l s))) (minS_le l s s List.mem_cons_self)
theorem pys_str : ∀ (l : List Str) (n : Nat), Va.pys (l.map .str) n = some (l.map .str)
  | [], n => by simp [Va.pys]
  | x :: l, n => by simp [Va.pys, Va.py, pys_str l n]
theorem min_list {s : Str} {l : List Str} (h : ∀ x ∈ s :: l, PyData.strOk x = true) : vbi (.mm false) [.list ((s :: l).map .str)] = some (.str (minS s l)) := by
  show vmm false [.list ((s :: l).map .str)] = _
  have so : Dv.sortable ((s :: l).map .str) = true := sortable_sts h
  simp only [vmm, vseq, pys_str]
  show vbest false (.str s :: l.map .str) = _
  have so' : Dv.sortable (PyData.str s :: l.map .str) = true := so
  simp only [vbest]
  rw [if_pos so']
  have := minD_str l s
  rw [if_neg (by decide), this]
  simp [vofPy]
theorem ring2 (hw : 100000 < w) (hio : io 22 = []) (H : Chk f 22 isLoop) : ∀ v, Item v → runV f io w ⟨1, 1, b23⟩ ⟨[], true, b⟩ [v] = .ok (.bl (isRing v)) [] := by
  intro v hv
  refine run_bl (ρ := [some v]) rfl ?_
  show vXs f io w b23 [some v] = _
  unfold b23
  refine xs_ret ?_
  have c := e_chk (f := f) (io := io) (w := w) (ρ := [some v]) (i := 0) hio rfl (H v hv)
  rw [e_and2, c]
  cases h : isLoop v with
  | false => simp [ring_no h]
  | true =>
    obtain ⟨xs, rfl, h1, h2⟩ := loop_tup h
    have hs := strs_eq h1
    have hf := strs_fine hv h1
    have e : isRing (.tup xs) = (strsOf xs).all fun s => leStr ((strsOf xs).headD "") s := by simp only [isRing, h, Bool.true_and]
    rw [e]
    generalize strsOf xs = l at *
    subst hs
    obtain ⟨s0, r, rfl⟩ : ∃ s0 r, l = s0 :: r := by
      cases l with
      | nil => simp at h2
      | cons s r => exact ⟨s, r, rfl⟩
    have q := min_list hf
    have a0 : L2.atI ((s0 :: r).map Va.str) 0 = some (.str s0) := by simp [L2.atI, L2.ixN]
    have m1 := hf _ (minS_mem r s0)
    have ve := veq_str (hf s0 List.mem_cons_self) m1
    have mf := min_first s0 r
    show _ = VR.ok (Va.bl ((s0 :: r).all fun s => leStr s0 s)) _
    rw [← mf]
    generalize (s0 :: r).map Va.str = xs at *
    generalize decide (s0 = minS s0 r) = t at *
    simp [a0, q, ve]
/-! sizes -/
def big : Va → Bool
  | .int i => decide (2 ≤ i)
  | _ => false
theorem sizes_eq (xs : List Va) : isSizes (.tup xs) = (xs.all (fun x => isNum x && big x) && rises xs) := by
  unfold isSizes
  congr 1
theorem num_int {v : Va} (h : isNum v = true) : ∃ i : Int, v = .int i ∧ 0 ≤ i := by
  cases v with
  | int i => exact ⟨i, rfl, of_decide_eq_true h⟩
  | _ => cases h
theorem one_big {xs : List Va} {x : Va} {k : Nat} (hio : io k = []) (H : Chk f k isNum) (hx : Item x) : vE f io w (.and [(.call k [(.loc 1)]), (.cmp .ge (.loc 1) (.cst (.int 2)))]) [some (.tup xs), some x] = .ok (.bl (isNum x && big x)) [some (.tup xs), some x] := by
  have c := e_chk (f := f) (io := io) (w := w) (ρ := [some (.tup xs), some x]) (i := 1) hio rfl (H x hx)
  rw [e_and2, c]
  cases h : isNum x with
  | false => simp
  | true =>
    obtain ⟨i, rfl, _⟩ := num_int h
    by_cases h2 : 2 ≤ i
    · have h3 : ¬ i < 2 := by omega
      simp [vlt_int, big, h2, h3]
    · have h3 : i < 2 := by omega
      simp [vlt_int, big, h2, h3]
theorem one_big2 {xs : List Va} {x : Va} {k : Nat} (hio : io k = []) (H : Chk f k isNum) (hx : Item x) : vE f io w (.or [(.not (.call k [(.loc 1)])), (.cmp .lt (.loc 1) (.cst (.int 2)))]) [some (.tup xs), some x] = .ok (.bl (!(isNum x && big x))) [some (.tup xs), some x] := by
  have c := e_chk (f := f) (io := io) (w := w) (ρ := [some (.tup xs), some x]) (i := 1) hio rfl (H x hx)
  rw [e_or2, e_not, c]
  cases h : isNum x with
  | false => simp
  | true =>
    obtain ⟨i, rfl, _⟩ := num_int h
    by_cases h2 : 2 ≤ i
    · have h3 : ¬ i < 2 := by omega
      simp [vlt_int, big, h2, h3]
    · have h3 : i < 2 := by omega
      simp [vlt_int, big, h2, h3]
theorem same_of {xs : List Va} (h : xs.all (fun x => isNum x && big x) = true) : Same xs := .inr fun x hx => by
  have := List.all_eq_true.mp h x hx
  rw [Bool.and_eq_true] at this
  obtain ⟨i, e, _⟩ := num_int this.1
  exact ⟨i, e⟩
theorem sizes1 (hw : 100000 < w) (h0 : io 0 = []) (h3 : io 3 = []) (H : Chk f 0 isNum) (R : ChkR f 3) : ∀ v, Item v → runV f io w ⟨1, 2, b9⟩ ⟨[], true, b⟩ [v] = .ok (.bl (isSizes v)) [] := by
  intro v hv
  refine run_bl (ρ := [some v, none]) rfl ?_
  show vXs f io w b9 [some v, none] = _
  unfold b9
  rcases not_tup hv with ⟨xs, rfl⟩ | ⟨j, k1, k2⟩
  · have hz := hv.few
    have lc := lc_map' (f := f) (io := io) (w := w) (ρ := [some (.tup xs), none]) (ρ' := [some (.tup xs), none]) (fun v : Va => v) (t := .nm 1) (e := .and [(.call 0 [(.loc 1)]), (.cmp .ge (.loc 1) (.cst (.int 2)))]) (it := .loc 0) (l := xs) (x := .tup xs)
      (fun x => .bl (isNum x && big x)) (by simp) (by simp) (by omega) (by omega) fun x hx => ⟨[some (.tup xs), some x], rfl, one_big h0 H (hv.mem hx)⟩
    have vb := vbools_map (fun x => isNum x && big x) xs
    have al : vE f io w (.bi .all [(.lc (.and [(.call 0 [(.loc 1)]), (.cmp .ge (.loc 1) (.cst (.int 2)))]) (.nm 1) (.loc 0) [])]) [some (.tup xs), none] = .ok (.bl (xs.all fun x => isNum x && big x)) [some (.tup xs), none] := by
      rw [e_bi, es_cons, lc]
      simp only [VR.bind_ok, es_nil, r_all, vb, Option.map, VR.of_some]
      rw [List.all_map]
      rfl
    have es := sizes_eq xs
    have sm := same_of (xs := xs)
    generalize C.bi .all [(.lc (.and [(.call 0 [(.loc 1)]), (.cmp .ge (.loc 1) (.cst (.int 2)))]) (.nm 1) (.loc 0) [])] = q at *
    generalize (xs.all fun x => isNum x && big x) = t at *
    rw [es]
    cases t with
    | false =>
      refine xs_rt ?_
      simp [Ki.sub, al, xs_one]
    | true =>
      rw [xs_nx (ρ' := [some (.tup xs), none]) (by simp [Ki.sub, al, xs_nil])]
      refine xs_ret ?_
      rw [e_chk (i := 0) h3 rfl (R xs hv (sm rfl))]
      simp
  · have e : isSizes v = false := by
      cases v with
      | tup xs => cases k1; cases k2
      | _ => rfl
    rw [e]
    refine xs_rt ?_
    simp [k1, k2, xs_one]
theorem sizes2 (hw : 100000 < w) (h0 : io 16 = []) (h3 : io 18 = []) (H : Chk f 16 isNum) (R : ChkR f 18) : ∀ v, Item v → runV f io w ⟨1, 2, b25⟩ ⟨[], true, b⟩ [v] = .ok (.bl (isSizes v)) [] := by
  intro v hv
  refine run_bl (ρ := [some v, none]) rfl ?_
  show vXs f io w b25 [some v, none] = _
  unfold b25
  rcases not_tup hv with ⟨xs, rfl⟩ | ⟨j, k1, k2⟩
  · have hz := hv.few
    have lc := lc_pure (f := f) (io := io) (w := w) (ρ := [some (.tup xs), none]) (ρ' := [some (.tup xs), none]) (fun v : Va => v) (t := .nm 1) (e := .loc 1) (cs := [.or [(.not (.call 16 [(.loc 1)])), (.cmp .lt (.loc 1) (.cst (.int 2)))]]) (it := .loc 0) (l := xs) (x := .tup xs)
      (fun x => !(isNum x && big x)) (fun x => x) (by simp) (by simp) (by omega) (by omega) fun x hx => ⟨[some (.tup xs), some x], rfl, by
        rw [ts_cons, one_big2 h0 H (hv.mem hx)]
        cases isNum x && big x <;> simp, fun _ => rfl⟩
    have nl := none_left (p := fun x => isNum x && big x) (l := xs) (g := fun v => v) fun v hx => (hv.mem hx).nice
    have al : vE f io w (.cmp .ne (.lc (.loc 1) (.nm 1) (.loc 0) [(.or [(.not (.call 16 [(.loc 1)])), (.cmp .lt (.loc 1) (.cst (.int 2)))])]) (.lst [])) [some (.tup xs), none] = .ok (.bl (!(xs.all fun x => isNum x && big x))) [some (.tup xs), none] := by
      simp only [e_cmp, lc, VR.bind_ok, e_lst, es_nil, r_ne, nl, VR.of_some, Option.map]
    have es := sizes_eq xs
    have sm := same_of (xs := xs)
    generalize C.cmp .ne (.lc (.loc 1) (.nm 1) (.loc 0) [(.or [(.not (.call 16 [(.loc 1)])), (.cmp .lt (.loc 1) (.cst (.int 2)))])]) (.lst []) = q at *
    generalize (xs.all fun x => isNum x && big x) = t at *
    rw [es]
    cases t with
    | false =>
      refine xs_rt ?_
      simp [Ki.sub, al, xs_one]
    | true =>
      rw [xs_nx (ρ' := [some (.tup xs), none]) (by simp [Ki.sub, al, xs_nil])]
      refine xs_ret ?_
      rw [e_chk (i := 0) h3 rfl (R xs hv (sm rfl))]
      simp
  · have e : isSizes v = false := by
      cases v with
      | tup xs => cases k1; cases k2
      | _ => rfl
    rw [e]
    refine xs_rt ?_
    simp [k1, k2, xs_one]
end
end K01
end

section
/-! K01h -/
set_option maxHeartbeats 2000000
/-! K01h: rings, rows and sizes that are drawn. -/
namespace K01
open Dv PySem PySem.W

/-- a short list of short texts -/
structure Few (l : List Str) : Prop where
  len : l.length ≤ 8
  ok : ∀ s ∈ l, PyData.strOk s = true ∧ s.length ≤ 8
/-- what is drawn -/
structure Base (v : Va) : Prop where
  nice : v.nice true 2 = true
  wt : v.wt ≤ 400
theorem wts_strs : ∀ {l : List Str}, (∀ s ∈ l, s.length ≤ 8) → wts (l.map Va.str) ≤ l.length * 9
  | [], _ => by simp
  | s :: l, h => by
    have h1 := wts_strs fun t ht => h t (List.mem_cons_of_mem _ ht)
    have h2 := h s List.mem_cons_self
    rw [List.map_cons, wts_cons, wt_str, List.length_cons]
    omega
theorem Few.nices {l : List Str} (h : Few l) (n : Nat) : Va.nices true (l.map Va.str) n = true := nices_iff.mpr fun x hx => by
  obtain ⟨s, hs, rfl⟩ := List.mem_map.mp hx
  simpa [Va.nice] using (h.ok s hs).1
theorem Few.base {l : List Str} (h : Few l) : Base (.tup (l.map .str)) := ⟨by
  rw [Va.nice]; exact h.nices 1, by
  rw [wt_tup]
  have h1 := wts_strs fun s hs => (h.ok s hs).2
  have h2 := h.len
  omega⟩
theorem Few.perm {l m : List Str} (h : Few l) (p : m.Perm l) : Few m := ⟨by rw [p.length_eq]; exact h.len, fun s hs => h.ok s (p.mem_iff.mp hs)⟩
theorem erase_map : ∀ (l : List Str) (i : Nat), (l.map Va.str).eraseIdx i = (l.eraseIdx i).map Va.str := fun l i => stv_erase l i
section
variable {f : VCall} {io : Nat → List Nat} {w : Nat} {b : Bool}
theorem vrng1 {c : Int} (h : -(2 ^ 62) ≤ c ∧ c < 2 ^ 62) : vrng [.int c] = some ((List.range c.toNat).map fun i => .int ((0 : Int) + (i : Nat))) := by
  simp only [vrng]
  rw [if_pos h]
theorem rg_1 {n : Nat} (hz : n ≤ 30000) : -(2 ^ 62) ≤ (n : Int) ∧ (n : Int) < 2 ^ 62 := by rw [two62]; omega
theorem rg_2 {n : Nat} (hz : n ≤ 30000) : vrng [.int (n : Int)] = some ((List.range n).map fun i => .int ((0 : Int) + (i : Nat))) := vrng1 (rg_1 hz)
theorem rg_3 {i : Nat} {ρ : Ev} {xs : List Va} (h : ρ[i]? = some (some (.list xs))) : vEs f io w [.bi .len [.loc i]] ρ = .ok [.int xs.length] ρ := by
  simp only [es_cons, es_nil, e_bi, e_loc', h, VR.bind_ok, r_len_list, VR.of_some]
theorem len_rng {ρ : Ev} {l : List Str} (h : ρ[1]? = some (some (.list (l.map Va.str)))) (hz : l.length ≤ 30000) : vE f io w (.rng [.bi .len [.loc 1]]) ρ = .ok (.list ((List.range l.length).map fun i : Nat => Va.int ((0 : Int) + (i : Int)))) ρ := by
  rw [e_rng, rg_3 h, VR.bind_ok, List.length_map, rg_2 hz]
  rfl
/-! texts in another order -/
def ShufOk (f : VCall) (k : Nat) : Prop := ∀ (n : Nat) (rd : Va) (l : List Str), Rd n rd → n < 2 ^ 19 → l.length ≤ 100 → ∃ (l' : List Str) (rd' : Va), f k [rd, .list (l.map .str)] = .ok (.list (l'.map .str)) [rd'] ∧ l'.Perm l ∧ Rd (n + l.length) rd'
theorem shuf1 (hw : 100000 < w) (i11 : io 11 = [0]) (D : DrawR f 11) {n : Nat} {rd : Va} {l : List Str} (F : Rd n rd) (hn : n < 2 ^ 19) (hl : l.length ≤ 100) :
    ∃ (l' : List Str) (rd' : Va), runV f io w ⟨2, 4, b14⟩ ⟨[0], false, true⟩ [rd, .list (l.map .str)] = .ok (.list (l'.map .str)) [rd'] ∧ l'.Perm l ∧ Rd (n + l.length) rd' := by
  suffices H : ∃ (l' : List Str) (rd' : Va) (ρ : Ev), vXs f io w b14 [some rd, some (.list (l.map .str)), none, none] = .ok (.rt (.list (l'.map .str))) ρ ∧ ρ[0]? = some (some rd') ∧ l'.Perm l ∧ Rd (n + l.length) rd' by
    obtain ⟨l', rd', ρ, e, e0, h1, h2⟩ := H
    refine ⟨l', rd', ?_, h1, h2⟩
    rw [run_rt (g := ⟨2, 4, b14⟩) (vs := [rd, .list (l.map .str)]) (v := .list (l'.map .str)) (ρ := ρ) rfl e]
    simp [vend, outs, e0]
  unfold b14
  generalize hL : Va.list (l.map .str) = L
  rw [xs_nx (ρ' := [some rd, some L, some (.list (l.map .str)), none]) (by rw [← hL]; simp)]
  have H := lc_wp (b := tnV f io w (.nm 3) [] (.me .pop (.loc 2) [(.call 11 [(.loc 0), (.bi .len [(.loc 2)])])])) (enc := fun i : Nat => Va.int ((0 : Int) + (i : Int)))
    (fun pre acc ρ => ∃ (a left : List Str) (rd' : Va), acc = a.map .str ∧ ρ = [some rd', some L, some (.list (left.map .str)), none] ∧ (a ++ left).Perm l ∧ a.length = pre.length ∧ Rd (n + pre.length) rd')
    (List.range l.length) [] [] [some rd, some L, some (.list (l.map .str)), none] ⟨[], l, rd, rfl, rfl, .refl _, rfl, F⟩ (by rw [sizeLine_eq]; simp; omega) fun pre i post acc ρ e hI => by
      obtain ⟨a, left, rd', rfl, rfl, hp, ha, F'⟩ := hI
      have hlen := congrArg List.length e
      simp at hlen
      have hpl := hp.length_eq
      rw [List.length_append] at hpl
      have hle : 0 < left.length := by omega
      obtain ⟨r, rd2, e1, r0, r1, F2⟩ := D (n + pre.length) rd' left.length F' (by omega) (by omega) (by omega)
      obtain ⟨j, rfl⟩ : ∃ j : Nat, r = j := ⟨r.toNat, by omega⟩
      have hj : j < left.length := by omega
      have mp := m_pop (xs := left.map Va.str) (n := j) (by simpa using hj) (by simp; omega)
      rw [erase_map, List.getElem_map] at mp
      refine vp_eq (a := some (.str left[j])) (ρ := [some rd2, some L, some (.list ((left.eraseIdx j).map .str)), none]) ?_ ⟨a ++ [left[j]], left.eraseIdx j, rd2, by simp, rfl, ?_, by simp [ha], by simpa [Nat.add_assoc] using F2⟩
      · unfold tnV
        simp only [st_nm, ts_nil, VR.bind_ok, List.set_cons_succ, List.set_cons_zero, e_me, List.getElem?_cons_succ, List.getElem?_cons_zero, es_cons, es_nil, e_call, e_loc', e_bi, r_len_list, List.length_map, VR.of_some, doCall, i11, vfront, e1, afterCall, vback, mp]
        rfl
      · refine .trans ?_ hp
        rw [List.append_assoc]
        exact (perm_pop hj).append_left a
  obtain ⟨ys, ρ, e, a, left, rd', rfl, rfl, hp, ha, F'⟩ := vp_out H
  have hpl := hp.length_eq
  rw [List.length_append] at hpl
  simp only [List.nil_append, List.length_range] at ha F'
  have le : left = [] := List.eq_nil_of_length_eq_zero (by omega)
  subst le
  refine ⟨a, rd', [some rd', some L, some (.list (([] : List Str).map .str)), none], xs_ret ?_, rfl, by simpa using hp, F'⟩
  rw [e_lc (x := .list ((List.range l.length).map fun i : Nat => Va.int ((0 : Int) + (i : Int)))) (ds := (List.range l.length).map fun i : Nat => Va.int ((0 : Int) + (i : Int))) (ρ' := [some rd, some L, some (.list (l.map .str)), none]) ?_ rfl (by simp; omega), e]
  · rfl
  · exact len_rng (by rw [← hL]; rfl) (by omega)
/-! a ring -/
def pool : List Str := ["ann", "b", "bob", "cy", "dan", "eve", "fay", "zzzzzzzz"]
theorem pool_few : Few pool := ⟨by decide, fun s hs => by
  have : ∀ s ∈ pool, PyData.strOk s = true ∧ s.length ≤ 8 := by decide +kernel
  exact this s hs⟩
theorem pool1 : runV f io w ⟨0, 0, b15⟩ ⟨[], false, true⟩ [] = .ok (.list (pool.map .str)) [] := by
  rw [run_rt (v := .list (pool.map .str)) (ρ := []) rfl (by show vXs f io w b15 [] = _; unfold b15; exact xs_ret (by simp [pool]))]
  rfl
def RingD (f : VCall) (k : Nat) : Prop := ∀ (n : Nat) (rd : Va) (m : Int), Rd n rd → n < 2 ^ 18 → 2 ≤ m → m ≤ 8 → ∃ (l : List Str) (rd' : Va), f k [rd, .int m] = .ok (.tup (l.map Va.str)) [rd'] ∧ Few l ∧ 2 ≤ l.length ∧ Rd (n + 9) rd'
theorem flats_strs (l : List Str) : Va.flats (l.map Va.str) = true := flats_of fun v hv => by obtain ⟨s, _, rfl⟩ := List.mem_map.mp hv; rfl
theorem ringd1 (i11 : io 11 = [0]) (i14 : io 14 = [0]) (i15 : io 15 = []) (D : DrawR f 11) (S : ShufOk f 14) (hp : f 15 [] = .ok (.list (pool.map .str)) []) {n : Nat} {rd : Va} {m : Int} (F : Rd n rd) (hn : n < 2 ^ 18) (h2 : 2 ≤ m) (h8 : m ≤ 8) :
    ∃ (l : List Str) (rd' : Va), runV f io w ⟨2, 3, b27⟩ ⟨[0], true, false⟩ [rd, .int m] = .ok (.tup (l.map Va.str)) [rd'] ∧ Few l ∧ 2 ≤ l.length ∧ Rd (n + 9) rd' := by
  obtain ⟨l', rd1, e1, p1, F1⟩ := S n rd pool F (by omega) (by decide)
  have pl : pool.length = 8 := rfl
  obtain ⟨r, rd2, e2, r0, r1, F2⟩ := D (n + pool.length) rd1 (m - 1) F1 (by omega) (by omega) (by omega)
  obtain ⟨j, hj⟩ : ∃ j : Nat, 2 + r = j := ⟨(2 + r).toNat, by omega⟩
  have ll : l'.length = 8 := p1.length_eq
  have fl := pool_few.perm p1
  refine ⟨l'.take j, rd2, ?_, ⟨by rw [List.length_take]; omega, fun s hs => fl.ok s (List.mem_of_mem_take hs)⟩, by rw [List.length_take]; omega, F2.mono (by omega)⟩
  have ct : vslc (.list (l'.map .str)) .non (.int (2 + r)) = some (.list ((l'.take j).map .str)) := by
    rw [hj]
    have := cut_to (xs := l'.map Va.str) (i := j) (by rw [List.length_map]; omega)
    simp [vslc, vbnd, vslice, this, List.map_take]
  rw [run_rt (v := .tup ((l'.take j).map .str)) (ρ := [some rd2, some (.int m), some (.list (pool.map .str))]) rfl ?_]
  · simp [vend, outs, Va.flat, -List.map_take, flats_strs (l'.take j)]
  · show vXs f io w b27 [some rd, some (.int m), none] = _
    unfold b27
    generalize hP : Va.list (pool.map .str) = P at *
    rw [xs_nx (ρ' := [some rd, some (.int m), some P]) (by simp [doCall, i15, vfront, hp, afterCall, vback])]
    refine xs_ret ?_
    generalize (l'.take j).map Va.str = T at *
    generalize l'.map Va.str = T' at *
    simp [doCall, i11, i14, vfront, e1, e2, afterCall, vback, ct]
/-! turned -/
def TurnD (f : VCall) (k : Nat) : Prop := ∀ (l : List Str), Few l → 0 < l.length → ∃ l' : List Str, f k [.tup (l.map Va.str)] = .ok (.tup (l'.map Va.str)) [] ∧ l'.Perm l
theorem index_str {l : List Str} (h : Few l) {m : Str} (hm : m ∈ l) : ∃ j, j < l.length ∧ vmr .index (.tup (l.map .str)) [.str m] = some (.int (j : Nat)) := by
  have hn : (Va.list (l.map .str)).nice true 2 = true := by rw [Va.nice]; exact h.nices 1
  have s1 := nice_shaped hn (by decide)
  have s2 : SeqAt.shaped (.str m) = true := shaped_str (h.ok m hm).1
  have ep : Va.pds (l.map Va.str) = l.map PyData.str := by rw [pds_map, List.map_map]; rfl
  have s1' : SeqAt.shaped (.list (l.map PyData.str)) = true := by rw [← ep]; exact s1
  have e : vmr .index (.tup (l.map .str)) [.str m] = (placeP (l.map .str) (.str m)).map fun j => .int (j : Nat) := by
    show vindex (.tup (l.map .str)) [.str m] = _
    simp only [vindex, vseq, pys_str, Va.py]
  rw [e]
  unfold placeP
  rw [if_pos ⟨s1', s2⟩]
  cases hf : (l.map PyData.str).findIdx? fun z => PyData.eqv z (.str m) with
  | none =>
    have := List.findIdx?_eq_none_iff.mp hf (.str m) (List.mem_map.mpr ⟨m, hm, rfl⟩)
    simp [PyData.eqv] at this
  | some j =>
    obtain ⟨hj, _⟩ := List.findIdx?_eq_some_iff_getElem.mp hf
    exact ⟨j, by simpa using hj, rfl⟩
theorem turn1 {l : List Str} (h : Few l) (hl : 0 < l.length) : ∃ l' : List Str, runV f io w ⟨1, 2, b26⟩ ⟨[], true, false⟩ [.tup (l.map Va.str)] = .ok (.tup (l'.map Va.str)) [] ∧ l'.Perm l := by
  obtain ⟨s, r, e⟩ : ∃ s r, l = s :: r := by
    cases l with
    | nil => simp at hl
    | cons s r => exact ⟨s, r, rfl⟩
  have q := min_list (s := s) (l := r) (by rw [← e]; exact fun x hx => (h.ok x hx).1)
  have mm := minS_mem r s
  rw [← e] at q mm
  obtain ⟨j, hj, ix⟩ := index_str h mm
  have ll : (l.map Va.str).length = l.length := by simp
  have c1 := slc_from (xs := l.map Va.str) (i := j) (by omega)
  have c2 := slc_to (xs := l.map Va.str) (i := j) (by omega)
  have c3 := r_add_tup (xs := (l.map Va.str).drop j) (ys := (l.map Va.str).take j) (by simp; have := h.len; omega)
  refine ⟨l.drop j ++ l.take j, ?_, ?_⟩
  · have e2 : (l.drop j ++ l.take j).map Va.str = (l.map Va.str).drop j ++ (l.map Va.str).take j := by simp
    rw [e2, run_rt (v := .tup ((l.map Va.str).drop j ++ (l.map Va.str).take j)) (ρ := [some (.tup (l.map Va.str)), some (.int (j : Nat))]) rfl ?_]
    · rw [← e2]
      exact vend_flat rfl (.inr (by rw [Va.flat]; exact flats_strs _))
    · show vXs f io w b26 [some (.tup (l.map Va.str)), none] = _
      unfold b26
      have ok : vmrOk .index (.tup (l.map Va.str)) = true := rfl
      generalize l.map Va.str = xs at *
      rw [xs_nx (ρ' := [some (.tup xs), some (.int (j : Nat))]) (by simp [q, ix, ok])]
      refine xs_ret ?_
      simp [c1, c2, c3]
  · refine .trans List.perm_append_comm ?_
    rw [List.take_append_drop]
/-! sorted -/
def unstr : Va → Str
  | .str s => s
  | _ => ""
theorem perm_map_inv {ys : List Va} {l : List Str} (p : ys.Perm (l.map Va.str)) : ∃ l' : List Str, ys = l'.map Va.str ∧ l'.Perm l := by
  refine ⟨ys.map unstr, ?_, ?_⟩
  · have : ∀ y ∈ ys, Va.str (unstr y) = y := fun y hy => by
      obtain ⟨s, _, rfl⟩ := List.mem_map.mp (p.mem_iff.mp hy)
      rfl
    rw [List.map_map]
    clear p
    induction ys with
    | nil => rfl
    | cons y ys ih => rw [List.map_cons, Function.comp, this y List.mem_cons_self, ← ih fun z hz => this z (List.mem_cons_of_mem _ hz)]
  · have := p.map unstr
    rw [List.map_map] at this
    have e : (unstr ∘ Va.str) = id := by funext s; rfl
    rw [e, List.map_id] at this
    exact this
theorem sorted_perm {l : List Str} (h : Few l) : ∃ l' : List Str, vbi .sorted [.tup (l.map Va.str)] = some (.list (l'.map Va.str)) ∧ l'.Perm l := by
  have so : Dv.sortable (l.map PyData.str) = true := sortable_sts fun x hx => (h.ok x hx).1
  have e : vbi .sorted [.tup (l.map Va.str)] = some (.list ((((l.map Va.str).zip (l.map PyData.str)).mergeSort (PySem.W.dataLe false (·.2))).map (·.1))) := by
    show (vsort (l.map Va.str)).map Va.list = _
    unfold vsort
    simp only [pys_str]
    rw [if_pos so]
    rfl
  have z : (l.map Va.str).zip (l.map PyData.str) = l.map fun s => (Va.str s, PyData.str s) := by
    clear e so h
    induction l with
    | nil => rfl
    | cons s l ih => simp [ih]
  have p := (List.mergeSort_perm ((l.map Va.str).zip (l.map PyData.str)) (PySem.W.dataLe false (·.2))).map (·.1)
  rw [z, List.map_map] at p
  have p' : ((((l.map Va.str).zip (l.map PyData.str)).mergeSort (PySem.W.dataLe false (·.2))).map (·.1)).Perm (l.map Va.str) := by rw [z]; exact p
  obtain ⟨l', e2, p2⟩ : ∃ l' : List Str, ((((l.map Va.str).zip (l.map PyData.str)).mergeSort (PySem.W.dataLe false (·.2))).map (·.1)) = l'.map Va.str ∧ l'.Perm l := by
    generalize ((((l.map Va.str).zip (l.map PyData.str)).mergeSort (PySem.W.dataLe false (·.2))).map (·.1)) = ys at p'
    clear p z e so h
    obtain ⟨l', h1, h2⟩ := perm_map_inv p'
    exact ⟨l', h1, h2⟩
  exact ⟨l', by rw [e, e2], p2⟩
end
end K01
end

section
/-! K01i -/
set_option maxHeartbeats 4000000
/-! K01i: the law. -/
namespace K01
open Dv PySem PySem.W

/-! ### the written values -/
def fixedL : List Va := match runV (fun _ _ => .bad) (fun _ => []) 1000000 ⟨0, 5, b28⟩ ⟨[], false, true⟩ [] with
  | .ok (.list l) _ => l
  | _ => []
theorem fixed1 {f : VCall} {io : Nat → List Nat} : runV f io 1000000 ⟨0, 5, b28⟩ ⟨[], false, true⟩ [] = .ok (.list fixedL) [] := by kernel_rfl
def itemB (v : Va) : Bool := v.nice true 4 && (decide (v.wt ≤ 30000) && small v)
theorem itemB_ok {v : Va} (h : itemB v = true) : Item v := by
  simp only [itemB, Bool.and_eq_true, decide_eq_true_eq] at h
  exact ⟨h.1, h.2.1, h.2.2⟩
theorem fixed2 : fixedL.all itemB = true := by decide +kernel
theorem fixed3 : fixedL.length ≤ 100 := by decide +kernel
def menuL : List Va := [.non, .bl true, .int 0, .int 1, .int 2, .int (-1), .int (10 ^ 59), .str "", .str "a", .str "ann", .str "A", .tup [], .list [], .tup [.str "a"], .tup [.str "a", .str "b"], .tup [.int 2, .int 3]]
theorem menu_ok : Menu menuL := ⟨by decide, by decide, fun x hx => by
  have : (menuL.all fun x => x.nice true 1 && decide (x.wt ≤ 300)) = true := by decide +kernel
  have := List.all_eq_true.mp this x hx
  simpa using this⟩
/-! ### items -/
theorem base_item {v v1 v2 : Va} (h : Base v) (n1 : v1.nice true 3 = true) (w1 : v1.wt ≤ 2 * v.wt + 400) (n2 : v2.nice true 4 = true) (w2 : v2.wt ≤ 2 * v1.wt + 400) : ∀ x ∈ [v, v1, v2], Item x := by
  have hw := h.wt
  intro x hx
  rcases List.mem_cons.mp hx with rfl | hx
  · exact ⟨Va.nice_up h.nice (by decide), by omega, small_wt (by omega)⟩
  rcases List.mem_cons.mp hx with rfl | hx
  · exact ⟨Va.nice_up n1 (by decide), by omega, small_wt (by omega)⟩
  rw [List.mem_singleton.mp hx]
  exact ⟨n2, by omega, small_wt (by omega)⟩
theorem rows_base {rs : List Va} (h : ∀ r ∈ rs, ∃ l : List Str, r = .tup (l.map .str) ∧ Few l) (hl : rs.length ≤ 3) : Base (.tup rs) := by
  refine ⟨?_, ?_⟩
  · rw [Va.nice]
    exact nices_iff.mpr fun r hr => by
      obtain ⟨l, rfl, f⟩ := h r hr
      rw [Va.nice]
      exact f.nices 0
  · rw [wt_tup]
    have := wts_le (l := rs) (k := 72) fun r hr => by
      obtain ⟨l, rfl, f⟩ := h r hr
      rw [wt_tup]
      have h1 := wts_strs fun s hs => (f.ok s hs).2
      have h2 := f.len
      omega
    have h2 : rs.length * (72 + 1) ≤ 3 * 73 := Nat.mul_le_mul_right _ hl
    omega
theorem ints_base {xs : List Va} (h : ∀ x ∈ xs, ∃ i : Int, x = .int i ∧ i.natAbs < 2 ^ 64) (hl : xs.length ≤ 4) : Base (.tup xs) := by
  refine ⟨?_, ?_⟩
  · rw [Va.nice]
    exact nices_iff.mpr fun r hr => by
      obtain ⟨i, rfl, hi⟩ := h r hr
      simp only [Va.nice, decide_eq_true_eq]
      have : (2 : Nat) ^ 64 < 10 ^ 90 := by decide
      omega
  · rw [wt_tup]
    have := wts_le (l := xs) (k := 64) fun r hr => by
      obtain ⟨i, rfl, hi⟩ := h r hr
      exact wt_int hi
    have h2 : xs.length * (64 + 1) ≤ 4 * 65 := Nat.mul_le_mul_right _ hl
    omega
theorem vkeys_int : ∀ l : List Int, vkeys? (l.map .int) = some (l.map .inl)
  | [] => rfl
  | x :: l => by simp [vkeys?, vkey?, vkeys_int l]
theorem sset_ints {l : List Int} (h : l.length ≤ 4) : ∃ ys : List Va, vbi .sset [.list (l.map .int)] = some (.list ys) ∧ ys.length ≤ 4 ∧ ∀ y ∈ ys, ∃ i ∈ l, y = .int i := by
  have ok : oneKind (l.map (Sum.inl : Int → Ke)) = true := by
    unfold oneKind
    rw [Bool.or_eq_true]
    exact .inl (List.all_eq_true.mpr fun k hk => by obtain ⟨i, _, rfl⟩ := List.mem_map.mp hk; rfl)
  have sh : (l.map (Sum.inl : Int → Ke)).all keyOk = true := List.all_eq_true.mpr fun k hk => by
    obtain ⟨i, _, rfl⟩ := List.mem_map.mp hk
    exact shaped_int
  refine ⟨((met (l.map Sum.inl) (l.map (Sum.inl : Int → Ke)).length).mergeSort keyLe).map vkeyD, ?_, ?_, fun y hy => ?_⟩
  · show vsset [.list (l.map .int)] = _
    simp only [vsset, vkeys_int]
    rw [if_pos ⟨ok, sh, by simp; omega⟩]
  · rw [List.length_map, List.length_mergeSort]
    unfold met
    have := fold_le ((l.map (Sum.inl : Int → Ke)).take (l.map (Sum.inl : Int → Ke)).length) []
    simp only [List.length_take, List.length_map, List.length_nil] at this ⊢
    omega
  · obtain ⟨k, hk, rfl⟩ := List.mem_map.mp hy
    have := met_mem ((List.mergeSort_perm _ _).mem_iff.mp hk)
    obtain ⟨i, hi, rfl⟩ := List.mem_map.mp this
    exact ⟨i, hi, rfl⟩
/-! ### loops that draw -/
section
variable {f : VCall} {io : Nat → List Nat} {w : Nat} {b : Bool}
/-- what stands where the law runs -/
structure Env (f : VCall) (io : Nat → List Nat) : Prop where
  i11 : io 11 = [0]
  i13 : io 13 = [0]
  i26 : io 26 = []
  i27 : io 27 = [0]
  ib : ∀ k ∈ [0, 1, 4, 5, 7, 8, 9, 10, 16, 17, 19, 21, 23, 24, 25, 28], io k = []
  reader : ∀ ns : List Int, ns.length ≤ 63 → ∃ v, f 10 [.ro (ns.map .int)] = .ok v [] ∧ Rd 0 v
  draw : DrawR f 11
  mutn : ∀ d, d ≤ 3 → MutOk f 13 d menuL
  turn : TurnD f 26
  ring : RingD f 27
  fixed : f 28 [] = .ok (.list fixedL) []
  number : Chk f 0 isNum
  name : Chk f 1 isName
  pair : Chk f 4 isPair
  people : Chk f 5 isPeople
  isring : Chk f 7 isRing
  row : Chk f 8 isRow
  sizes : Chk f 9 isSizes
  number' : Chk f 16 isNum
  name' : Chk f 17 isName
  pair' : Chk f 19 isPair
  people' : Chk f 21 isPeople
  isring' : Chk f 23 isRing
  row' : Chk f 24 isRow
  sizes' : Chk f 25 isSizes
variable (K : Env f io)
include K
/-- tuple([turned(ring(5)) for j in range(draw(4))]) -/
theorem rows_e (hw : 100000 < w) {n : Nat} {rd : Va} {σ0 : Option Va} {σr : List (Option Va)} (hσ : σr.length = 11) (F : Rd n rd) (hn : n < 2 ^ 17) : ∃ rs rd', vE f io w (.bi .tuple [(.lc (.call 26 [(.call 27 [(.loc 1), (.cst (.int 5))])]) (.nm 13) (.rng [(.call 11 [(.loc 1), (.cst (.int 4))])]) [])]) (σ0 :: some rd :: (σr ++ [none])) = .ok (.tup rs) (σ0 :: some rd' :: (σr ++ [none])) ∧ Base (.tup rs) ∧ Rd (n + 30) rd' := by
  obtain ⟨r, rd1, e1, r0, r1, F1⟩ := K.draw n rd 4 F (by omega) (by omega) (by omega)
  obtain ⟨m, rfl⟩ : ∃ m : Nat, r = m := ⟨r.toNat, by omega⟩
  have hm : m ≤ 3 := by omega
  have H := lc_wp (b := tnV f io w (.nm 13) [] (.call 26 [(.call 27 [(.loc 1), (.cst (.int 5))])])) (enc := fun i : Nat => Va.int ((0 : Int) + (i : Int)))
    (fun pre acc ρ => ∃ rd', ρ = σ0 :: some rd' :: (σr ++ [none]) ∧ acc.length = pre.length ∧ (∀ r ∈ acc, ∃ l : List Str, r = .tup (l.map .str) ∧ Few l) ∧ Rd (n + 1 + 9 * pre.length) rd')
    (List.range m) [] [] (σ0 :: some rd1 :: (σr ++ [none])) ⟨rd1, rfl, rfl, fun r hr => by simp at hr, F1⟩ (by rw [sizeLine_eq]; simp; omega) fun pre i post acc ρ e hI => by
      obtain ⟨rd', rfl, ha, hr, F'⟩ := hI
      have hlen := congrArg List.length e
      simp at hlen
      obtain ⟨l, rd2, e2, fl, l2, F2⟩ := K.ring _ rd' 5 F' (by omega) (by omega) (by omega)
      obtain ⟨l', e3, p3⟩ := K.turn l fl (by omega)
      refine vp_eq (a := some (.tup (l'.map .str))) (ρ := σ0 :: some rd2 :: (σr ++ [none])) ?_ ⟨rd2, rfl, by simp [ha], fun r h => ?_, F2.mono (by simp; omega)⟩
      · have hs : ∀ x : Option Va, (σ0 :: some rd' :: (σr ++ [none])).set 13 x = σ0 :: some rd' :: (σr ++ [x]) := fun x => by
          show σ0 :: some rd' :: (σr ++ [none]).set 11 x = _
          rw [List.set_append_right _ _ (by omega), hσ]
          rfl
        have hb : back [13] (σ0 :: some rd' :: (σr ++ [none])) (σ0 :: some rd2 :: (σr ++ [some (.int ((0 : Int) + (i : Int)))])) = σ0 :: some rd2 :: (σr ++ [none]) := by
          have g : (σ0 :: some rd' :: (σr ++ [none]))[13]? = some none := by
            show (σr ++ [none])[11]? = some none
            rw [List.getElem?_append_right (by omega), hσ]
            rfl
          simp only [back, List.foldl_cons, List.foldl_nil, g]
          show σ0 :: some rd2 :: (σr ++ [some (Va.int ((0 : Int) + (i : Int)))]).set 11 none = _
          rw [List.set_append_right _ _ (by omega), hσ]
          rfl
        unfold tnV
        simp only [st_nm, hs, ts_nil, VR.bind_ok]
        have c : vE f io w (.call 26 [(.call 27 [(.loc 1), (.cst (.int 5))])]) (σ0 :: some rd' :: (σr ++ [some (.int ((0 : Int) + (i : Int)))])) = .ok (.tup (l'.map .str)) (σ0 :: some rd2 :: (σr ++ [some (.int ((0 : Int) + (i : Int)))])) := by
          simp [doCall, K.i26, K.i27, vfront, e2, e3, afterCall, vback]
        rw [c]
        simp only [VR.bind_ok, VR.scope, ix_nm, hb]
      · rcases List.mem_append.mp h with h | h
        · exact hr r h
        · rw [List.mem_singleton.mp h]
          exact ⟨l', rfl, fl.perm p3⟩
  obtain ⟨ys, ρ, e, rd', rfl, hl, hr, F'⟩ := vp_out H
  simp only [List.nil_append, List.length_range] at hl F'
  refine ⟨ys, rd', ?_, rows_base hr (by omega), F'.mono (by omega)⟩
  have it : vE f io w (.rng [(.call 11 [(.loc 1), (.cst (.int 4))])]) (σ0 :: some rd :: (σr ++ [none])) = .ok (.list ((List.range m).map fun i : Nat => Va.int ((0 : Int) + (i : Int)))) (σ0 :: some rd1 :: (σr ++ [none])) := by
    have c : vEs f io w [(.call 11 [(.loc 1), (.cst (.int 4))])] (σ0 :: some rd :: (σr ++ [none])) = .ok [.int (m : Int)] (σ0 :: some rd1 :: (σr ++ [none])) := by
      simp [doCall, K.i11, vfront, e1, afterCall, vback]
    rw [e_rng, c, VR.bind_ok, rg_2 (by omega)]
    rfl
  rw [e_bi, es_cons, e_lc it rfl (by simp; omega), e]
  simp
/-- tuple(sorted(set([2 + draw(9) for j in range(draw(5))]))) -/
theorem sizes_e (hw : 100000 < w) {n : Nat} {rd : Va} {σ0 : Option Va} {σr : List (Option Va)} (hσ : σr.length = 11) (F : Rd n rd) (hn : n < 2 ^ 17) : ∃ rs rd', vE f io w (.bi .tuple [(.bi .sset [(.lc (.bin .add (.cst (.int 2)) (.call 11 [(.loc 1), (.cst (.int 9))])) (.nm 13) (.rng [(.call 11 [(.loc 1), (.cst (.int 5))])]) [])])]) (σ0 :: some rd :: (σr ++ [none])) = .ok (.tup rs) (σ0 :: some rd' :: (σr ++ [none])) ∧ Base (.tup rs) ∧ Rd (n + 30) rd' := by
  obtain ⟨r, rd1, e1, r0, r1, F1⟩ := K.draw n rd 5 F (by omega) (by omega) (by omega)
  obtain ⟨m, rfl⟩ : ∃ m : Nat, r = m := ⟨r.toNat, by omega⟩
  have hm : m ≤ 4 := by omega
  have H := lc_wp (b := tnV f io w (.nm 13) [] (.bin .add (.cst (.int 2)) (.call 11 [(.loc 1), (.cst (.int 9))]))) (enc := fun i : Nat => Va.int ((0 : Int) + (i : Int)))
    (fun pre acc ρ => ∃ (rd' : Va) (l : List Int), ρ = σ0 :: some rd' :: (σr ++ [none]) ∧ acc = l.map Va.int ∧ l.length = pre.length ∧ (∀ i ∈ l, 2 ≤ i ∧ i ≤ 10) ∧ Rd (n + 1 + pre.length) rd')
    (List.range m) [] [] (σ0 :: some rd1 :: (σr ++ [none])) ⟨rd1, [], rfl, rfl, rfl, fun r hr => by simp at hr, F1⟩ (by rw [sizeLine_eq]; simp; omega) fun pre i post acc ρ e hI => by
      obtain ⟨rd', l, rfl, rfl, ha, hr, F'⟩ := hI
      have hlen := congrArg List.length e
      simp at hlen
      obtain ⟨z, rd2, e2, z0, z1, F2⟩ := K.draw _ rd' 9 F' (by omega) (by omega) (by omega)
      refine vp_eq (a := some (.int (2 + z))) (ρ := σ0 :: some rd2 :: (σr ++ [none])) ?_ ⟨rd2, l ++ [2 + z], rfl, by simp, by simp [ha], fun r h => ?_, F2.mono (by simp; omega)⟩
      · have hs : ∀ x : Option Va, (σ0 :: some rd' :: (σr ++ [none])).set 13 x = σ0 :: some rd' :: (σr ++ [x]) := fun x => by
          show σ0 :: some rd' :: (σr ++ [none]).set 11 x = _
          rw [List.set_append_right _ _ (by omega), hσ]
          rfl
        have hb : back [13] (σ0 :: some rd' :: (σr ++ [none])) (σ0 :: some rd2 :: (σr ++ [some (.int ((0 : Int) + (i : Int)))])) = σ0 :: some rd2 :: (σr ++ [none]) := by
          have g : (σ0 :: some rd' :: (σr ++ [none]))[13]? = some none := by
            show (σr ++ [none])[11]? = some none
            rw [List.getElem?_append_right (by omega), hσ]
            rfl
          simp only [back, List.foldl_cons, List.foldl_nil, g]
          show σ0 :: some rd2 :: (σr ++ [some (Va.int ((0 : Int) + (i : Int)))]).set 11 none = _
          rw [List.set_append_right _ _ (by omega), hσ]
          rfl
        unfold tnV
        simp only [st_nm, hs, ts_nil, VR.bind_ok]
        have c : vE f io w (.bin .add (.cst (.int 2)) (.call 11 [(.loc 1), (.cst (.int 9))])) (σ0 :: some rd' :: (σr ++ [some (.int ((0 : Int) + (i : Int)))])) = .ok (.int (2 + z)) (σ0 :: some rd2 :: (σr ++ [some (.int ((0 : Int) + (i : Int)))])) := by
          simp [doCall, K.i11, vfront, e2, afterCall, vback]
        rw [c]
        simp only [VR.bind_ok, VR.scope, ix_nm, hb]
      · rcases List.mem_append.mp h with h | h
        · exact hr r h
        · rw [List.mem_singleton.mp h]
          omega
  obtain ⟨ys, ρ, e, rd', l, rfl, rfl, hl, hr, F'⟩ := vp_out H
  simp only [List.nil_append, List.length_range] at hl F'
  obtain ⟨zs, q1, q2, q3⟩ := sset_ints (l := l) (by omega)
  refine ⟨zs, rd', ?_, ints_base (fun x hx => by
    obtain ⟨i, hi, rfl⟩ := q3 x hx
    have := hr i hi
    exact ⟨i, rfl, by omega⟩) q2, F'.mono (by omega)⟩
  have it : vE f io w (.rng [(.call 11 [(.loc 1), (.cst (.int 5))])]) (σ0 :: some rd :: (σr ++ [none])) = .ok (.list ((List.range m).map fun i : Nat => Va.int ((0 : Int) + (i : Int)))) (σ0 :: some rd1 :: (σr ++ [none])) := by
    have c : vEs f io w [(.call 11 [(.loc 1), (.cst (.int 5))])] (σ0 :: some rd :: (σr ++ [none])) = .ok [.int (m : Int)] (σ0 :: some rd1 :: (σr ++ [none])) := by
      simp [doCall, K.i11, vfront, e1, afterCall, vback]
    rw [e_rng, c, VR.bind_ok, rg_2 (by omega)]
    rfl
  rw [e_bi, es_cons, e_bi, es_cons, e_lc it rfl (by simp; omega), e]
  generalize l.map Va.int = L at *
  simp [q1]
/-! the first loop -/
def bIn : List T := [.asg (.nm 9) (.call 13 [(.loc 1), (.loc 8), (.loc 2)]),
      .asg (.nm 3) (.bin .add (.loc 3) (.lst [(.loc 8), (.loc 9), (.call 13 [(.loc 1), (.loc 9), (.loc 2)])]))]
theorem inner {n : Nat} {rd v sc : Va} {L : List Va} {a4 a5 a6 a7 a8 a9 : Option Va} (F : Rd n rd) (hn : n < 2 ^ 17) (hv : Base v) (hL : ∀ x ∈ L, Item x) (hl : L.length ≤ 1000) : ∃ (rd' y : Va) (L' : List Va), tnX f io w (.nm 8) bIn v [some sc, some rd, some (.list menuL), some (.list L), a4, a5, a6, a7, a8, a9, none, none, none, none] = .ok .nx [some sc, some rd', some (.list menuL), some (.list L'), a4, a5, a6, a7, some v, some y, none, none, none, none] ∧
    Rd (n + 40) rd' ∧ (∀ x ∈ L', Item x) ∧ L'.length = L.length + 3 := by
  have hw := hv.wt
  obtain ⟨v1, rd1, e1, n1, w1, F1⟩ := K.mutn 2 (by omega) n rd v F (by omega) hv.nice (by omega)
  obtain ⟨v2, rd2, e2, n2, w2, F2⟩ := K.mutn 3 (by omega) _ rd1 v1 F1 (by omega) n1 (by omega)
  refine ⟨rd2, v1, L ++ [v, v1, v2], ?_, F2.mono (by omega), fun x hx => ?_, by simp⟩
  · have c := r_add_list (xs := L) (ys := [v, v1, v2]) (by simp; omega)
    generalize menuL = M at *
    generalize L ++ [v, v1, v2] = L' at *
    unfold tnX bIn
    simp only [st_nm, List.set_cons_succ, List.set_cons_zero]
    rw [xs_nx (ρ' := [some sc, some rd1, some (.list M), some (.list L), a4, a5, a6, a7, some v, some v1, none, none, none, none]) (by simp [doCall, K.i13, vfront, e1, afterCall, vback])]
    rw [xs_one]
    simp [doCall, K.i13, vfront, e2, afterCall, vback, c]
  · rcases List.mem_append.mp hx with hx | hx
    · exact hL x hx
    · exact base_item hv n1 w1 n2 w2 x hx
theorem items5 {sc : Va} {a4 a5 a6 a7 : Option Va} : ∀ (vs : List Va) (L : List Va) (n : Nat) (rd : Va) (a8 a9 : Option Va), vs.length ≤ 5 → Rd n rd → n + 40 * vs.length < 2 ^ 17 → (∀ v ∈ vs, Base v) → (∀ x ∈ L, Item x) → L.length + 3 * vs.length ≤ 1000 → ∃ (rd' : Va) (L' : List Va) (b8 b9 : Option Va),
    forV (tnX f io w (.nm 8) bIn) vs [some sc, some rd, some (.list menuL), some (.list L), a4, a5, a6, a7, a8, a9, none, none, none, none] = .ok .nx [some sc, some rd', some (.list menuL), some (.list L'), a4, a5, a6, a7, b8, b9, none, none, none, none] ∧ Rd (n + 40 * vs.length) rd' ∧ (∀ x ∈ L', Item x) ∧ L'.length = L.length + 3 * vs.length
  | [], L, n, rd, a8, a9, h5, F, hn, hv, hL, hl => ⟨rd, L, a8, a9, rfl, F, hL, rfl⟩
  | v :: vs, L, n, rd, a8, a9, h5, F, hn, hv, hL, hl => by
    rw [List.length_cons] at h5 hn hl
    obtain ⟨rd1, y, L1, e1, F1, hL1, hl1⟩ := inner K (w := w) (sc := sc) (a4 := a4) (a5 := a5) (a6 := a6) (a7 := a7) (a8 := a8) (a9 := a9) F (by omega) (hv v List.mem_cons_self) hL (by omega)
    obtain ⟨rd2, L2, b8, b9, e2, F2, hL2, hl2⟩ := items5 vs L1 (n + 40) rd1 (some v) (some y) (by omega) F1 (by omega) (fun v h => hv v (List.mem_cons_of_mem _ h)) hL1 (by omega)
    refine ⟨rd2, L2, b8, b9, ?_, F2.mono (by rw [List.length_cons]; omega), hL2, by rw [List.length_cons]; omega⟩
    simp only [forV, e1, VR.bind_ok]
    exact e2
def bOut : List T := [.asg (.nm 5) (.call 27 [(.loc 1), (.cst (.int 8))]),
    .asg (.nm 6) (.bi .tuple [(.lc (.call 26 [(.call 27 [(.loc 1), (.cst (.int 5))])]) (.nm 13) (.rng [(.call 11 [(.loc 1), (.cst (.int 4))])]) [])]),
    .asg (.nm 7) (.bi .tuple [(.bi .sset [(.lc (.bin .add (.cst (.int 2)) (.call 11 [(.loc 1), (.cst (.int 9))])) (.nm 13) (.rng [(.call 11 [(.loc 1), (.cst (.int 5))])]) [])])]),
    .for_ (.nm 8) (.tup [(.loc 5), (.call 26 [(.loc 5)]), (.bi .tuple [(.bi .sorted [(.loc 5)])]), (.loc 6), (.loc 7)]) bIn]
theorem outer (hw : 100000 < w) {n : Nat} {rd sc : Va} {L : List Va} {k : Va} {a4 a5 a6 a7 a8 a9 : Option Va} (F : Rd n rd) (hn : n < 2 ^ 16) (hL : ∀ x ∈ L, Item x) (hl : L.length ≤ 900) : ∃ (rd' : Va) (L' : List Va) (b5 b6 b7 b8 b9 : Option Va),
    tnX f io w (.nm 4) bOut k [some sc, some rd, some (.list menuL), some (.list L), a4, a5, a6, a7, a8, a9, none, none, none, none] = .ok .nx [some sc, some rd', some (.list menuL), some (.list L'), some k, b5, b6, b7, b8, b9, none, none, none, none] ∧ Rd (n + 300) rd' ∧ (∀ x ∈ L', Item x) ∧ L'.length = L.length + 15 := by
  obtain ⟨l, rd1, e1, fl, l2, F1⟩ := K.ring n rd 8 F (by omega) (by omega) (by omega)
  obtain ⟨l', e2, p2⟩ := K.turn l fl (by omega)
  obtain ⟨ls, e3, p3⟩ := sorted_perm fl
  obtain ⟨rs, rd2, e4, b4, F2⟩ := rows_e K (w := w) hw (σ0 := some sc) (σr := [some (.list menuL), some (.list L), some k, some (.tup (l.map .str)), a6, a7, a8, a9, none, none, none]) rfl F1 (by omega)
  obtain ⟨zs, rd3, e5, b5, F3⟩ := sizes_e K (w := w) hw (σ0 := some sc) (σr := [some (.list menuL), some (.list L), some k, some (.tup (l.map .str)), some (.tup rs), a7, a8, a9, none, none, none]) rfl F2 (by omega)
  obtain ⟨rd4, L', b8, b9, e6, F4, hL4, hl4⟩ := items5 K (w := w) (sc := sc) (a4 := some k) (a5 := some (.tup (l.map .str))) (a6 := some (.tup rs)) (a7 := some (.tup zs)) [.tup (l.map .str), .tup (l'.map .str), .tup (ls.map .str), .tup rs, .tup zs] L _ rd3 a8 a9 (by simp) F3 (by simp; omega) (fun v hv => by
    simp only [List.mem_cons, List.not_mem_nil, or_false] at hv
    rcases hv with rfl | rfl | rfl | rfl | rfl
    · exact fl.base
    · exact (fl.perm p2).base
    · exact (fl.perm p3).base
    · exact b4
    · exact b5) hL (by simp; omega)
  refine ⟨rd4, L', some (.tup (l.map .str)), some (.tup rs), some (.tup zs), b8, b9, ?_, F4.mono (by simp), hL4, by simpa using hl4⟩
  unfold tnX bOut
  simp only [st_nm, List.set_cons_succ, List.set_cons_zero]
  generalize hR : Va.tup (l.map .str) = R at *
  generalize Va.tup (l'.map .str) = R' at *
  generalize ls.map Va.str = R'' at *
  generalize menuL = M at *
  rw [xs_nx (ρ' := [some sc, some rd1, some (.list M), some (.list L), some k, some R, a6, a7, a8, a9, none, none, none, none]) (by simp [doCall, K.i27, vfront, e1, afterCall, vback])]
  rw [xs_nx (ρ' := [some sc, some rd2, some (.list M), some (.list L), some k, some R, some (.tup rs), a7, a8, a9, none, none, none, none]) (by
    rw [x_asg]
    simp only [List.cons_append, List.nil_append] at e4
    rw [e4]
    rfl)]
  rw [xs_nx (ρ' := [some sc, some rd3, some (.list M), some (.list L), some k, some R, some (.tup rs), some (.tup zs), a8, a9, none, none, none, none]) (by
    rw [x_asg]
    simp only [List.cons_append, List.nil_append] at e5
    rw [e5]
    rfl)]
  rw [xs_one, x_for (x := .tup [R, R', .tup R'', .tup rs, .tup zs]) (ds := [R, R', .tup R'', .tup rs, .tup zs]) (ρ' := [some sc, some rd3, some (.list M), some (.list L), some k, some R, some (.tup rs), some (.tup zs), a8, a9, none, none, none, none]) (by
    simp [doCall, K.i26, vfront, e2, e3, afterCall, vback]) rfl (by simp; omega)]
  exact e6
/-! the second loop -/
def bChk : List T := [.asg (.nm 10) (.bi .repr [(.loc 8)]),
    .asg (.nm 11) (.lst [(.call 16 [(.loc 8)]), (.call 17 [(.loc 8)]), (.call 19 [(.loc 8)]), (.call 21 [(.loc 8)])]),
    .asg (.nm 11) (.bin .add (.loc 11) (.lst [(.call 23 [(.loc 8)]), (.call 24 [(.loc 8)]), (.call 25 [(.loc 8)])])),
    .asg (.nm 12) (.lst [(.call 0 [(.loc 8)]), (.call 1 [(.loc 8)]), (.call 4 [(.loc 8)]), (.call 5 [(.loc 8)]), (.call 7 [(.loc 8)]), (.call 8 [(.loc 8)])]),
    .ifs (.or [(.cmp .ne (.bi .repr [(.bin .add (.loc 12) (.lst [(.call 9 [(.loc 8)])]))]) (.bi .repr [(.loc 11)])), (.cmp .ne (.bi .repr [(.loc 8)]) (.loc 10))])
      [.ret (.cst (.bl false))]
      []]
theorem check {v sc rd m L : Va} {a4 a5 a6 a7 a8 a9 a10 a11 a12 : Option Va} (hv : Item v) : ∃ b10 b11 b12 : Option Va, tnX f io w (.nm 8) bChk v [some sc, some rd, some m, some L, a4, a5, a6, a7, a8, a9, a10, a11, a12, none] = .ok .nx [some sc, some rd, some m, some L, a4, a5, a6, a7, some v, a9, b10, b11, b12, none] := by
  have n5 := Va.nice_up hv.nice (show 4 ≤ 5 by decide)
  have rp := vrepr_nice n5 (by have := hv.wt; omega)
  have ok := ok_rep n5
  have ve : veq (.str v.rep) (.str v.rep) = some true := by rw [veq_str ok ok]; simp
  have c0 := K.number v hv
  have c1 := K.name v hv
  have c2 := K.pair v hv
  have c3 := K.people v hv
  have c4 := K.isring v hv
  have c5 := K.row v hv
  have c6 := K.sizes v hv
  have d0 := K.number' v hv
  have d1 := K.name' v hv
  have d2 := K.pair' v hv
  have d3 := K.people' v hv
  have d4 := K.isring' v hv
  have d5 := K.row' v hv
  have d6 := K.sizes' v hv
  have ib := K.ib
  have b0 := ib 0 (by decide)
  have b1 := ib 1 (by decide)
  have b2 := ib 4 (by decide)
  have b3 := ib 5 (by decide)
  have b4 := ib 7 (by decide)
  have b5 := ib 8 (by decide)
  have b6 := ib 9 (by decide)
  have g0 := ib 16 (by decide)
  have g1 := ib 17 (by decide)
  have g2 := ib 19 (by decide)
  have g3 := ib 21 (by decide)
  have g4 := ib 23 (by decide)
  have g5 := ib 24 (by decide)
  have g6 := ib 25 (by decide)
  generalize isNum v = t0 at *
  generalize isName v = t1 at *
  generalize isPair v = t2 at *
  generalize isPeople v = t3 at *
  generalize isRing v = t4 at *
  generalize isRow v = t5 at *
  generalize isSizes v = t6 at *
  have nb : (Va.list [.bl t0, .bl t1, .bl t2, .bl t3, .bl t4, .bl t5, .bl t6]).nice true 5 = true := by simp [Va.nice, Va.nices]
  have rb := vrepr_nice nb (by simp)
  have okb := ok_rep nb
  have vb : veq (.str (Va.list [.bl t0, .bl t1, .bl t2, .bl t3, .bl t4, .bl t5, .bl t6]).rep) (.str (Va.list [.bl t0, .bl t1, .bl t2, .bl t3, .bl t4, .bl t5, .bl t6]).rep) = some true := by rw [veq_str okb okb]; simp
  generalize (Va.list [.bl t0, .bl t1, .bl t2, .bl t3, .bl t4, .bl t5, .bl t6]).rep = B at *
  generalize v.rep = R at *
  refine ⟨some (.str R), some (.list [.bl t0, .bl t1, .bl t2, .bl t3, .bl t4, .bl t5, .bl t6]), some (.list [.bl t0, .bl t1, .bl t2, .bl t3, .bl t4, .bl t5]), ?_⟩
  unfold tnX bChk
  simp only [st_nm, List.set_cons_succ, List.set_cons_zero]
  rw [xs_nx (ρ' := [some sc, some rd, some m, some L, a4, a5, a6, a7, some v, a9, some (.str R), a11, a12, none]) (by simp [rp])]
  rw [xs_nx (ρ' := [some sc, some rd, some m, some L, a4, a5, a6, a7, some v, a9, some (.str R), some (.list [.bl t0, .bl t1, .bl t2, .bl t3]), a12, none]) (by
    simp [doCall, g0, g1, g2, g3, vfront, d0, d1, d2, d3, afterCall, vback])]
  rw [xs_nx (ρ' := [some sc, some rd, some m, some L, a4, a5, a6, a7, some v, a9, some (.str R), some (.list [.bl t0, .bl t1, .bl t2, .bl t3, .bl t4, .bl t5, .bl t6]), a12, none]) (by
    simp [doCall, g4, g5, g6, vfront, d4, d5, d6, afterCall, vback])]
  rw [xs_nx (ρ' := [some sc, some rd, some m, some L, a4, a5, a6, a7, some v, a9, some (.str R), some (.list [.bl t0, .bl t1, .bl t2, .bl t3, .bl t4, .bl t5, .bl t6]), some (.list [.bl t0, .bl t1, .bl t2, .bl t3, .bl t4, .bl t5]), none]) (by
    simp [doCall, b0, b1, b2, b3, b4, b5, vfront, c0, c1, c2, c3, c4, c5, afterCall, vback])]
  rw [xs_one]
  simp [doCall, b6, vfront, c6, afterCall, vback, rb, rp, vb, ve, xs_nil]
theorem law01 (ns : List Int) (hn : ns.length ≤ 63) (hw : 100000 < w) : runV f io w ⟨1, 14, b29⟩ ⟨[], true, b⟩ [.ro (ns.map .int)] = .ok (.bl true) [] := by
  obtain ⟨v, e1, F⟩ := K.reader ns hn
  have i10 := K.ib 10 (by decide)
  have i28 := K.ib 28 (by decide)
  have e28 := K.fixed
  suffices H : ∃ ρ, vXs f io w b29 [some (.ro (ns.map .int)), none, none, none, none, none, none, none, none, none, none, none, none, none] = .ok (.rt (.bl true)) ρ by
    obtain ⟨ρ, e⟩ := H
    exact run_bl (g := ⟨1, 14, b29⟩) (ρ := ρ) rfl e
  generalize Va.ro (ns.map .int) = sc at *
  unfold b29
  rw [xs_nx (ρ' := [some sc, some v, none, none, none, none, none, none, none, none, none, none, none, none]) (by simp [doCall, i10, vfront, e1, afterCall, vback])]
  have p59 : vbin .pow (.int 10) (.int 59) = some (.int (10 ^ 59)) := r_pow_int (n := 59) (by decide) (by decide) (by decide)
  rw [xs_nx (ρ' := [some sc, some v, some (.list menuL), none, none, none, none, none, none, none, none, none, none, none]) (by simp [p59, menuL])]
  rw [xs_nx (ρ' := [some sc, some v, some (.list menuL), some (.list fixedL), none, none, none, none, none, none, none, none, none, none]) (by simp [doCall, i28, vfront, e28, afterCall, vback])]
  show ∃ ρ, vXs f io w [.for_ (.nm 4) (.rng [(.cst (.int 16))]) bOut, .for_ (.nm 8) (.loc 3) bChk, .ret (.cst (.bl true))] [some sc, some v, some (.list menuL), some (.list fixedL), none, none, none, none, none, none, none, none, none, none] = .ok (.rt (.bl true)) ρ
  have hf : ∀ x ∈ fixedL, Item x := fun x hx => itemB_ok (List.all_eq_true.mp fixed2 x hx)
  have hl := fixed3
  generalize fixedL = L0 at *
  have H := for_all (enc := fun i : Nat => Va.int ((0 : Int) + (i : Int))) (l := List.range 16) (b := tnX f io w (.nm 4) bOut)
    (fun pre ρ => ∃ (rd' : Va) (L' : List Va) (b4 b5 b6 b7 b8 b9 : Option Va), ρ = [some sc, some rd', some (.list menuL), some (.list L'), b4, b5, b6, b7, b8, b9, none, none, none, none] ∧ Rd (300 * pre.length) rd' ∧ (∀ x ∈ L', Item x) ∧ L'.length ≤ 100 + 15 * pre.length)
    (ρ := [some sc, some v, some (.list menuL), some (.list L0), none, none, none, none, none, none, none, none, none, none]) ⟨v, L0, _, _, _, _, _, _, rfl, F, hf, by simpa using hl⟩ fun pre i post ρ e hI => by
      obtain ⟨rd', L', b4, b5, b6, b7, b8, b9, rfl, F', hL, hz⟩ := hI
      have hlen := congrArg List.length e
      simp at hlen
      obtain ⟨rd2, L2, c5, c6, c7, c8, c9, e2, F2, hL2, hl2⟩ := outer K (w := w) hw (sc := sc) (k := .int ((0 : Int) + (i : Int))) (a4 := b4) (a5 := b5) (a6 := b6) (a7 := b7) (a8 := b8) (a9 := b9) F' (by omega) hL (by omega)
      exact vp_eq (a := .nx) e2 ⟨.inl rfl, rd2, L2, _, _, _, _, _, _, rfl, F2.mono (by simp; omega), hL2, by simp; omega⟩
  obtain ⟨fl, ρ, e, rfl, rd', L', b4, b5, b6, b7, b8, b9, rfl, F', hL, hz⟩ := vp_out H
  rw [xs_nx (t := .for_ (.nm 4) (.rng [(.cst (.int 16))]) bOut) (ρ' := [some sc, some rd', some (.list menuL), some (.list L'), b4, b5, b6, b7, b8, b9, none, none, none, none]) (by
    rw [x_for (x := .list ((List.range 16).map fun i : Nat => Va.int ((0 : Int) + (i : Int)))) (ds := (List.range 16).map fun i : Nat => Va.int ((0 : Int) + (i : Int))) (ρ' := [some sc, some v, some (.list menuL), some (.list L0), none, none, none, none, none, none, none, none, none, none]) (by
      rw [e_rng]
      simp only [es_cons, es_nil, e_cst, v_int, VR.of_some, VR.bind_ok]
      have := rg_2 (n := 16) (by omega)
      rw [show ((16 : Nat) : Int) = 16 from rfl] at this
      rw [this]
      rfl) rfl (by simp; omega)]
    exact e)]
  have H2 := for_all (enc := fun x : Va => x) (l := L') (b := tnX f io w (.nm 8) bChk)
    (fun pre ρ => ∃ b8 b10 b11 b12 : Option Va, ρ = [some sc, some rd', some (.list menuL), some (.list L'), b4, b5, b6, b7, b8, b9, b10, b11, b12, none])
    (ρ := [some sc, some rd', some (.list menuL), some (.list L'), b4, b5, b6, b7, b8, b9, none, none, none, none]) ⟨_, _, _, _, rfl⟩ fun pre x post ρ e hI => by
      obtain ⟨b8, b10, b11, b12, rfl⟩ := hI
      obtain ⟨c10, c11, c12, e2⟩ := check K (w := w) (sc := sc) (rd := rd') (m := .list menuL) (L := .list L') (a4 := b4) (a5 := b5) (a6 := b6) (a7 := b7) (a8 := b8) (a9 := b9) (a10 := b10) (a11 := b11) (a12 := b12) (hL x (by rw [e]; simp))
      exact vp_eq (a := .nx) e2 ⟨.inl rfl, _, _, _, _, rfl⟩
  have hm : (L'.map fun x : Va => x) = L' := by simp
  rw [hm] at H2
  obtain ⟨fl, ρ, e2, rfl, c8, c10, c11, c12, rfl⟩ := vp_out H2
  rw [xs_nx (t := .for_ (.nm 8) (.loc 3) bChk) (by
    rw [x_forL (x := .list L') (ds := L') rfl rfl (by simp at hz; omega)]
    exact e2)]
  exact ⟨_, xs_ret (by simp; rfl)⟩
end
end K01
end

section
/-! K01j -/
set_option maxHeartbeats 2000000
/-! K01j: the whole. -/
namespace K01
open Dv PySem PySem.W

abbrev cv (n : Nat) : VCall := callV Γ Ik 1000000 n
theorem cv_eq {n k : Nat} {g : Fn} {i : Fi} {vs : List Va} (h : Γ[k]? = some g) (h' : Ik[k]? = some i) : cv (n + 1) k vs = runV (cv n) (ioOf Ik) 1000000 g i vs := callV_eq h h'
theorem k_draw (n : Nat) : DrawR (cv (n + 1)) 11 := fun c v m F hn h1 h2 => by
  rw [cv_eq (g := ⟨2, 5, b11⟩) (i := ⟨[0], true, true⟩) rfl rfl]
  exact draw1 F hn h1 h2
theorem k_pick (n : Nat) : PickOk (cv (n + 2)) 12 menuL := fun c v F hn => by
  rw [cv_eq (g := ⟨2, 2, b12⟩) (i := ⟨[0], false, false⟩) rfl rfl]
  exact pick1 menu_ok rfl (k_draw n) F hn
theorem k_mut : ∀ (d n : Nat), d ≤ 4 → MutOk (cv (n + d + 3)) 13 d menuL
  | 0, n, hd => fun c rd v F hn hv hw => by
    rw [cv_eq (g := ⟨3, 5, b13⟩) (i := ⟨[0], false, false⟩) rfl rfl]
    exact mut1 menu_ok rfl rfl rfl (k_draw _) (k_pick _) hd (fun e he => by omega) F (by omega) hv hw
  | d + 1, n, hd => fun c rd v F hn hv hw => by
    rw [show n + (d + 1) + 3 = (n + d + 3) + 1 by omega, cv_eq (g := ⟨3, 5, b13⟩) (i := ⟨[0], false, false⟩) rfl rfl]
    exact mut1 menu_ok rfl rfl rfl (k_draw _) (k_pick _) hd (fun e he => by
      have : e = d := by omega
      subst this
      exact k_mut e n (by omega)) F (by omega) hv hw
theorem k_shuf (n : Nat) : ShufOk (cv (n + 2)) 14 := fun c rd l F hn hl => by
  rw [cv_eq (g := ⟨2, 4, b14⟩) (i := ⟨[0], false, true⟩) rfl rfl]
  exact shuf1 (by decide) rfl (k_draw n) F hn hl
theorem k_pool (n : Nat) : cv (n + 1) 15 [] = .ok (.list (pool.map .str)) [] := by
  rw [cv_eq (g := ⟨0, 0, b15⟩) (i := ⟨[], false, true⟩) rfl rfl]
  exact pool1
theorem k_ring (n : Nat) : RingD (cv (n + 3)) 27 := fun c rd m F hn h2 h8 => by
  rw [cv_eq (g := ⟨2, 3, b27⟩) (i := ⟨[0], true, false⟩) rfl rfl]
  exact ringd1 rfl rfl rfl (k_draw _) (k_shuf _) (k_pool _) F hn h2 h8
theorem k_turn (n : Nat) : TurnD (cv (n + 1)) 26 := fun l fl hl => by
  rw [cv_eq (g := ⟨1, 2, b26⟩) (i := ⟨[], true, false⟩) rfl rfl]
  exact turn1 fl hl
theorem k_0 (n : Nat) : Chk (cv (n + 1)) 0 isNum := fun v hv => by
  rw [cv_eq (g := ⟨1, 1, b0⟩) (i := ⟨[], true, false⟩) rfl rfl]
  exact number1 v hv
theorem k_16 (n : Nat) : Chk (cv (n + 1)) 16 isNum := fun v hv => by
  rw [cv_eq (g := ⟨1, 1, b16⟩) (i := ⟨[], true, false⟩) rfl rfl]
  exact number2 v hv
theorem k_1 (n : Nat) : Chk (cv (n + 1)) 1 isName := fun v hv => by
  rw [cv_eq (g := ⟨1, 2, b1⟩) (i := ⟨[], true, false⟩) rfl rfl]
  exact name1 (by decide) v hv
theorem k_17 (n : Nat) : Chk (cv (n + 1)) 17 isName := fun v hv => by
  rw [cv_eq (g := ⟨1, 2, b17⟩) (i := ⟨[], true, false⟩) rfl rfl]
  exact name2 (by decide) v hv
theorem k_2 (n : Nat) : Chk (cv (n + 2)) 2 areNames := fun v hv => by
  rw [cv_eq (g := ⟨1, 2, b2⟩) (i := ⟨[], true, false⟩) rfl rfl]
  exact names1 (by decide) rfl (k_1 n) v hv
theorem k_20 (n : Nat) : Chk (cv (n + 2)) 20 areNames := fun v hv => by
  rw [cv_eq (g := ⟨1, 2, b20⟩) (i := ⟨[], true, false⟩) rfl rfl]
  exact names2 (by decide) rfl (k_17 n) v hv
theorem k_3 (n : Nat) : ChkR (cv (n + 1)) 3 := fun xs hi h => by
  rw [cv_eq (g := ⟨1, 2, b3⟩) (i := ⟨[], true, false⟩) rfl rfl]
  exact rising1 (by decide) xs hi h
theorem k_18 (n : Nat) : ChkR (cv (n + 1)) 18 := fun xs hi h => by
  rw [cv_eq (g := ⟨1, 2, b18⟩) (i := ⟨[], true, false⟩) rfl rfl]
  exact rising2 (by decide) xs hi h
theorem k_4 (n : Nat) : Chk (cv (n + 3)) 4 isPair := fun v hv => by
  rw [cv_eq (g := ⟨1, 1, b4⟩) (i := ⟨[], true, false⟩) rfl rfl]
  exact pair1 rfl (k_2 n) v hv
theorem k_19 (n : Nat) : Chk (cv (n + 2)) 19 isPair := fun v hv => by
  rw [cv_eq (g := ⟨1, 1, b19⟩) (i := ⟨[], true, false⟩) rfl rfl]
  exact pair2 rfl (k_17 n) v hv
theorem k_5 (n : Nat) : Chk (cv (n + 3)) 5 isPeople := fun v hv => by
  rw [cv_eq (g := ⟨1, 1, b5⟩) (i := ⟨[], true, false⟩) rfl rfl]
  exact people_ rfl rfl (k_2 n) (k_3 _) v hv
theorem k_21 (n : Nat) : Chk (cv (n + 3)) 21 isPeople := fun v hv => by
  rw [cv_eq (g := ⟨1, 1, b21⟩) (i := ⟨[], true, false⟩) rfl rfl]
  exact people_ rfl rfl (k_20 n) (k_18 _) v hv
theorem k_6 (n : Nat) : Chk (cv (n + 3)) 6 isLoop := fun v hv => by
  rw [cv_eq (g := ⟨1, 1, b6⟩) (i := ⟨[], true, false⟩) rfl rfl]
  exact loop_ (ρc := []) rfl (k_2 n) (fun xs => len_ge) v hv
theorem k_22 (n : Nat) : Chk (cv (n + 3)) 22 isLoop := fun v hv => by
  rw [cv_eq (g := ⟨1, 1, b22⟩) (i := ⟨[], true, false⟩) rfl rfl]
  exact loop_ (ρc := []) rfl (k_20 n) (fun xs => len_gt) v hv
theorem k_7 (n : Nat) : Chk (cv (n + 4)) 7 isRing := fun v hv => by
  rw [cv_eq (g := ⟨1, 2, b7⟩) (i := ⟨[], true, false⟩) rfl rfl]
  exact ring1 (by decide) rfl (k_6 n) v hv
theorem k_23 (n : Nat) : Chk (cv (n + 4)) 23 isRing := fun v hv => by
  rw [cv_eq (g := ⟨1, 1, b23⟩) (i := ⟨[], true, false⟩) rfl rfl]
  exact ring2 (by decide) rfl (k_22 n) v hv
theorem k_8 (n : Nat) : Chk (cv (n + 5)) 8 isRow := fun v hv => by
  rw [cv_eq (g := ⟨1, 2, b8⟩) (i := ⟨[], true, false⟩) rfl rfl, ← row_eq]
  exact tupAll1 (by decide) rfl (k_7 n) v hv
theorem k_24 (n : Nat) : Chk (cv (n + 5)) 24 isRow := fun v hv => by
  rw [cv_eq (g := ⟨1, 2, b24⟩) (i := ⟨[], true, false⟩) rfl rfl, ← row_eq]
  exact tupAll2 (by decide) rfl (k_23 n) v hv
theorem k_9 (n : Nat) : Chk (cv (n + 2)) 9 isSizes := fun v hv => by
  rw [cv_eq (g := ⟨1, 2, b9⟩) (i := ⟨[], true, false⟩) rfl rfl]
  exact sizes1 (by decide) rfl rfl (k_0 _) (k_3 _) v hv
theorem k_25 (n : Nat) : Chk (cv (n + 2)) 25 isSizes := fun v hv => by
  rw [cv_eq (g := ⟨1, 2, b25⟩) (i := ⟨[], true, false⟩) rfl rfl]
  exact sizes2 (by decide) rfl rfl (k_16 _) (k_18 _) v hv
theorem k_env : Env (cv 10) (ioOf Ik) where
  i11 := rfl
  i13 := rfl
  i26 := rfl
  i27 := rfl
  ib := by decide
  reader := fun ns hn => by
    rw [cv_eq (n := 9) (g := ⟨1, 1, b10⟩) (i := ⟨[], false, true⟩) rfl rfl]
    exact reader1 ns hn
  draw := k_draw 9
  mutn := fun d hd => by
    have := k_mut d (7 - d) (by omega)
    rwa [show 7 - d + d + 3 = 10 by omega] at this
  turn := k_turn 9
  ring := k_ring 7
  fixed := by
    rw [cv_eq (n := 9) (g := ⟨0, 5, b28⟩) (i := ⟨[], false, true⟩) rfl rfl]
    exact fixed1
  number := k_0 9
  name := k_1 9
  pair := k_4 7
  people := k_5 7
  isring := k_7 6
  row := k_8 5
  sizes := k_9 8
  number' := k_16 9
  name' := k_17 9
  pair' := k_19 8
  people' := k_21 7
  isring' := k_23 6
  row' := k_24 5
  sizes' := k_25 8
theorem k01_true (ns : List Int) (hn : ns.length ≤ 63) : callV Γ Ik 1000000 11 29 [.ro (ns.map .int)] = .ok (.bl true) [] := by
  have : cv 11 29 [.ro (ns.map .int)] = .ok (.bl true) [] := by
    rw [cv_eq (n := 10) (g := ⟨1, 14, b29⟩) (i := ⟨[], true, false⟩) rfl rfl]
    exact law01 k_env ns hn (by decide)
  exact this
end K01
end

section
/-! K01z -/
set_option maxHeartbeats 0
namespace K01
open Dv PySem PySem.Spec PyProof.Rows L2
def top (i : Nat) : Stmt := PySem.Challenge.pw_handround_k01_kinds_of_values.main.body.getD i (.Pass ⟨0, 0, 0, 0⟩)
def nm (s : Stmt) : Str := match s with
  | .FunctionDef n _ _ _ _ _ _ _ _ _ => n
  | _ => ""
def mkD (s : Stmt) : He.DefD := ⟨(nm s, none), nm s, nm s, defArgs s, defBody s, defScope s, [], []⟩
def ixs : List Nat := [4, 5, 6, 7, 8, 9, 10, 11, 12, 13, 15, 16, 17, 18, 19, 20, 21, 22, 23, 24, 25, 26, 27, 28, 29, 30, 31, 32, 33, 34]
def fn : List He.DefD := ixs.map fun i => mkD (top i)
def blts : List Str := ["isinstance", "int", "bool", "str", "tuple", "list", "len", "all", "set", "sorted", "min", "range", "repr"]
def cs : List (Str × Ke) := [("LETTERS", .inr "abcdefghijklmnopqrstuvwxyz"), ("LONGEST_NAME", .inl 8), ("LEAST_SIZE", .inl 2)]
abbrev Rw : PySem.W.OpenRow := PySem.W.OpenLaw.row PySem.Challenge.rw_handround_k01_kinds_of_values
abbrev hk : PySem.W.Hook := He.hookD 4 (factsOf fn blts cs) fn
def ob (s : PySem.W.SharedT) : He.AlD := He.obsDG 4 (factsOf fn blts cs) fn (HandSHeadRun.getT s)
theorem ob_eq (s : PySem.W.SharedT) : ob s = hk.obs s.abs := He.obsDG_eq (HandSHeadRun.getT_eq s)
def loose : List Str := ["LETTERS", "LONGEST_NAME", "LEAST_SIZE", "is_number", "is_name", "are_names", "is_rising", "is_pair", "is_people", "is_cycle", "is_ring", "is_row", "is_sizes", "_law_reader", "_law_draw", "_law_random_value", "_law_mutate", "_law_shuffled", "_law_people_pool", "_law_is_number", "_law_is_name", "_law_ascends", "_law_is_pair", "_law_are_names", "_law_is_people", "_law_is_loop", "_law_is_ring", "_law_is_row", "_law_is_sizes", "_law_turned", "_law_random_ring", "_law_fixed_values"]
theorem run (w : World) : HandSHeadRun.RunEq Rw (PySem.W.view Rw.prog [34]) hk ob 2000 loose w := by
  intro os
  kernel_rfl
theorem comp : compAll fn blts cs fn = some Γ := by kernel_rfl
theorem law_true (ns : List Int) (h : ns.length ≤ 63) (hb : ∀ z ∈ ns, Builtin.Int.intBits z ≤ 1048576) : ∃ wk s', callF Γ wk 11 29 [script ns] ⟨[], 0⟩ = .ok (.bl true) s' :=
  ⟨1000000, law_va (os := []) ok rfl (k01_true ns h)⟩
end K01
open PySem PySem.W PySem.Calls PyProof.Rows
theorem PySem.Challenge.cw_handround_k01_kinds_of_values_holds : PySem.Challenge.rw_handround_k01_kinds_of_values.Holds := by
  w_on; o_law
  refine HandSHeadRun.head_any (r := K01.Rw) (q := view K01.Rw.prog [34]) (H := K01.hk) (ob := K01.ob) (M := 2000) (loose := K01.loose) (d := HandSHeadRun.topDef K01.Rw.prog 34) (kwd := []) K01.ob_eq
    (by kernel_rfl) (fun s => by kernel_rfl) K01.run (by kernel_rfl) (by kernel_rfl) (by kernel_rfl) (by rfl) (by first | assumption | decide +kernel) (by decide +kernel) ⟨rfl, rfl, rfl, rfl, rfl, by decide +kernel⟩ ?hw ?hc
  case hw => w_witness2
  case hc => exact Dv.walk_end (l := PySem.Challenge.rw_handround_k01_kinds_of_values) (n := 63) (k := 11) (i := 29) rfl (by decide) rfl ⟨rfl, by decide, by decide⟩ (fun w h y => y) K01.comp rfl rfl K01.law_true
end
