import PyProof.Rows.All
import Wide.All
import OpenK.AllK
import Wide.FinOn
import HandS.ForMost
import HandS.TupAny
import HandS.TupMul
import HandS.TupLe
import HandS.Deep
import HandS.Style
import HandS.Wide
import HandS.Rev
import HandS.Star
import KE.DataEq
import KE.DataCmp
import HandS.IsInst
import KE.SortData
import HandS.SetKeys
import HandS.Strs
import HandS.TupSets
import PyProof.ReprRoads
import PyProof.CallFns
import KE.KRevSl
import HandS.Zip
import HandS.Iter
import HandS.Dict
import HandS.Codes
import HandS.HeadEnd
import HandS.Defaults
import HandS.Head0
import HandS.Head1
import HandS.Head2
import HandS.HeadHook1
import HandS.HeadHook2
import HandS.Exc
import PySem.Challenge.RW_partviews_k04_what_is_a_question
set_option Elab.async false
set_option linter.all false
set_option autoImplicit false
/-! Ev0: a small evaluator for the Python of the laws: values, objects, syntax, its run. -/
namespace Ev

/-! ### values and objects -/
abbrev Sg := List Nat
/-- lv: a list as data (never a running value) -/
inductive PV where
  | non | bl (b : Bool) | int (i : Int) | str (x : Sg) | tup (xs : List PV) | ref (n : Nat) | lv (xs : List PV)
  deriving Inhabited
inductive GO where
  | lst (xs : List PV)
  | fix (xs : List PV)
  | dct (t : Bool) (kvs : List (PV × PV))
  | ins (c : Nat) (fs : List (Sg × PV))
  deriving Inhabited
structure S where
  g : List GO
  lo : Nat
abbrev Env := List (Option PV)

/-! no reference at or above m -/
mutual
def PV.blw (m : Nat) : PV → Bool
  | .ref n => decide (n < m)
  | .tup xs => PV.blws m xs
  | .lv _ => false
  | _ => true
def PV.blws (m : Nat) : List PV → Bool
  | [] => true
  | x :: xs => PV.blw m x && PV.blws m xs
end
def blwKV (m : Nat) : List (PV × PV) → Bool
  | [] => true
  | p :: ps => p.1.blw m && (p.2.blw m && blwKV m ps)
def blwF (m : Nat) : List (Sg × PV) → Bool
  | [] => true
  | p :: ps => p.2.blw m && blwF m ps
def GO.blw (m : Nat) : GO → Bool
  | .lst xs => PV.blws m xs
  | .fix xs => PV.blws m xs
  | .dct _ kvs => blwKV m kvs
  | .ins _ fs => blwF m fs
abbrev PV.rf (p : PV) : Bool := p.blw 0
abbrev rfs (ps : List PV) : Bool := PV.blws 0 ps

/-! ### data: lists read off the objects -/
mutual
def deepW (look : Nat → Option PV) : PV → Option PV
  | .ref n => look n
  | .tup xs => (deepsW look xs).map .tup
  | .lv _ => none
  | .non => some .non
  | .bl b => some (.bl b)
  | .int i => some (.int i)
  | .str x => some (.str x)
def deepsW (look : Nat → Option PV) : List PV → Option (List PV)
  | [] => some []
  | x :: xs => match deepW look x with
    | none => none
    | some d => match deepsW look xs with
      | none => none
      | some ds => some (d :: ds)
end
def lookN (g : List GO) : Nat → Nat → Option PV
  | 0, _ => none
  | f + 1, n => match g[n]? with
    | some (.lst xs) => (deepsW (lookN g f) xs).map .lv
    | some (.fix xs) => (deepsW (lookN g f) xs).map .lv
    | _ => none
abbrev deep (g : List GO) (p : PV) : Option PV := deepW (lookN g 8) p
abbrev deeps (g : List GO) (ps : List PV) : Option (List PV) := deepsW (lookN g 8) ps

mutual
def PV.dep : PV → Nat
  | .tup xs => PV.deps xs + 1
  | .lv xs => PV.deps xs + 1
  | _ => 0
def PV.deps : List PV → Nat
  | [] => 0
  | x :: xs => max (PV.dep x) (PV.deps xs)
end

mutual
def eqv : PV → PV → Bool
  | .non, .non => true
  | .bl a, .bl b => a == b
  | .bl a, .int j => decide ((if a then 1 else 0) = j)
  | .int i, .bl b => decide (i = (if b then 1 else 0))
  | .int i, .int j => decide (i = j)
  | .str x, .str y => decide (x = y)
  | .tup xs, .tup ys => eqvs xs ys
  | .lv xs, .lv ys => eqvs xs ys
  | _, _ => false
def eqvs : List PV → List PV → Bool
  | [], [] => true
  | x :: xs, y :: ys => eqv x y && eqvs xs ys
  | _, _ => false
end
/-- x == y, of data -/
def eqD (g : List GO) (x y : PV) : Option Bool :=
  match deep g x, deep g y with
  | some d, some e => if min d.dep e.dep ≤ 60 then some (eqv d e) else none
  | _, _ => none
/-- is x one of ys? -/
def inD (g : List GO) (x : PV) (ys : List PV) : Option Bool :=
  match deep g x, deeps g ys with
  | some d, some es => if min d.dep (PV.deps es) ≤ 60 then some (es.any fun e => eqv e d) else none
  | _, _ => none

/-! of one kind: these may be compared by < -/
mutual
def alikeP : PV → PV → Bool
  | .int _, .int _ => true
  | .str _, .str _ => true
  | .bl _, .bl _ => true
  | .tup xs, .tup ys => alikePs xs ys
  | _, _ => false
def alikePs : List PV → List PV → Bool
  | [], _ => true
  | _, [] => true
  | x :: xs, y :: ys => alikeP x y && alikePs xs ys
end
mutual
def ltv : PV → PV → Bool
  | .int i, .int j => decide (i < j)
  | .str x, .str y => decide (x < y)
  | .bl a, .bl b => !a && b
  | .tup xs, .tup ys => ltvs xs ys
  | _, _ => false
def ltvs : List PV → List PV → Bool
  | [], [] => false
  | [], _ :: _ => true
  | _ :: _, [] => false
  | x :: xs, y :: ys => if eqv x y then ltvs xs ys else ltv x y
end
end Ev

set_option linter.all false
set_option autoImplicit false
/-! Ev1: the syntax of the evaluator and its run. -/
namespace Ev

/-! ### states -/
abbrev S.size (s : S) : Nat := s.g.length
def S.push (s : S) (o : GO) : S := ⟨s.g ++ [o], s.lo⟩
/-- the object at n becomes o; cl: no reference came in -/
def S.wr (s : S) (n : Nat) (o : GO) (cl : Bool) : S := ⟨s.g.set n o, if cl then s.lo else min s.lo n⟩
def alloc (o : GO) (s : S) : Option (PV × S) := some (.ref s.size, s.push o)
/-- what was made since n, and is not needed, goes -/
def tidy (n lo : Nat) (v : PV) (s : S) : PV × S :=
  if n ≤ s.lo then
    if v.blw n then (v, ⟨s.g.take n, lo⟩)
    else match v with
      | .ref m => match s.g[m]? with
        | some (.lst xs) => if PV.blws n xs then (.ref n, ⟨s.g.take n ++ [.lst xs], lo⟩) else (v, ⟨s.g, lo⟩)
        | some (.dct t kvs) => if blwKV n kvs then (.ref n, ⟨s.g.take n ++ [.dct t kvs], lo⟩) else (v, ⟨s.g, lo⟩)
        | _ => (v, ⟨s.g, lo⟩)
      | _ => (v, ⟨s.g, lo⟩)
  else (v, ⟨s.g, min lo s.lo⟩)
def scp (f : S → Option (PV × S)) (s : S) : Option (PV × S) :=
  match f ⟨s.g, s.size⟩ with
  | none => none
  | some r => some (tidy s.size s.lo r.1 r.2)
def envBlw (n : Nat) : Env → Bool
  | [] => true
  | none :: σ => envBlw n σ
  | some v :: σ => v.blw n && envBlw n σ
/-- behind a turn of a loop -/
def tidyE (n lo : Nat) (σ : Env) (s : S) : S :=
  if n ≤ s.lo then (if envBlw n σ then ⟨s.g.take n, lo⟩ else ⟨s.g, lo⟩) else ⟨s.g, min lo s.lo⟩

def lstAt (s : S) (n : Nat) : Option (List PV) :=
  match s.g[n]? with
  | some (.lst xs) => some xs
  | some (.fix xs) => some xs
  | _ => none
/-- the items of a list or a tuple -/
def seqOf (s : S) : PV → Option (List PV)
  | .tup xs => some xs
  | .ref n => lstAt s n
  | _ => none

/-! ### sorting -/
def ins1 (x : PV) : List PV → List PV
  | [] => [x]
  | y :: ys => if ltv x y then x :: y :: ys else y :: ins1 x ys
/-- stable: an item goes behind its equals -/
def isort : List PV → List PV := fun xs => xs.foldl (fun acc x => ins1 x acc) []
def insU (x : PV) : List PV → List PV
  | [] => [x]
  | y :: ys => if ltv x y then x :: y :: ys else if ltv y x then y :: insU x ys else y :: ys
/-- ascending, each once -/
def usort : List PV → List PV := fun xs => xs.foldl (fun acc x => insU x acc) []
/-- all of one kind: ints, texts -/
def allInt : List PV → Bool
  | [] => true
  | .int _ :: r => allInt r
  | _ => false
def allStr : List PV → Bool
  | [] => true
  | .str _ :: r => allStr r
  | _ => false
def alikeAll (x : PV) : List PV → Bool
  | [] => true
  | y :: ys => alikeP x y && alikeAll x ys
def alikeEach : List PV → Bool
  | [] => true
  | x :: xs => alikeP x x && alikeAll x xs && alikeEach xs
def minBy (x : PV) : List PV → PV
  | [] => x
  | y :: ys => if ltv y x then minBy y ys else minBy x ys
def maxBy (x : PV) : List PV → PV
  | [] => x
  | y :: ys => if ltv x y then maxBy y ys else maxBy x ys

/-! ### operators -/
inductive Bop | add | sub | mul | mod | fdiv | pow
inductive Cop | eq | ne | lt | le | gt | ge | isin | notin | is | isnot
def line : Nat := 16777216
def small64 (i : Int) : Bool := decide (i.natAbs < 2 ^ 64)
def rep {α : Type} (k : Nat) (xs : List α) : List α := (List.replicate k xs).flatten
def bop (op : Bop) (a b : PV) (s : S) : Option (PV × S) :=
  match op, a, b with
  | .add, .int i, .int j => some (.int (i + j), s)
  | .sub, .int i, .int j => some (.int (i - j), s)
  | .mul, .int i, .int j => if small64 i || small64 j then some (.int (i * j), s) else none
  | .mod, .int i, .int j => if 0 < j then some (.int (i % j), s) else none
  | .fdiv, .int i, .int j => if 0 < j && decide (j.natAbs.log2 < 9000) then some (.int (i / j), s) else none
  | .pow, .int i, .int j => if 0 ≤ j && (decide (j ≤ 1000000) && small64 i) then some (.int (i ^ j.toNat), s) else none
  | .add, .str x, .str y => if x.length + y.length ≤ line then some (.str (x ++ y), s) else none
  | .add, .tup xs, .tup ys => if xs.length + ys.length ≤ line then some (.tup (xs ++ ys), s) else none
  | .add, .ref n, .ref m => match s.g[n]?, s.g[m]? with
    | some (.lst xs), some (.lst ys) => if xs.length + ys.length ≤ line then alloc (.lst (xs ++ ys)) s else none
    | _, _ => none
  | .mul, .tup xs, .int k => if !xs.isEmpty ∧ 1 ≤ k ∧ k ≤ 1000 ∧ xs.length ≤ 1000 then some (.tup (rep k.toNat xs), s) else none
  | .mul, .ref n, .int k => match s.g[n]? with
    | some (.lst xs) => if -(2 ^ 63) ≤ k ∧ k < 2 ^ 63 ∧ xs.length * k.toNat ≤ line then alloc (.lst (rep k.toNat xs)) s else none
    | _ => none
  | _, _, _ => none

def isNon : PV → Bool
  | .non => true
  | _ => false
def cop (op : Cop) (a b : PV) (s : S) : Option Bool :=
  match op with
  | .eq => eqD s.g a b
  | .ne => (eqD s.g a b).map not
  | .isin => match a, b with
    | .str [c], .str y => some (y.contains c)
    | x, .tup ys => inD s.g x ys
    | x, .ref n => match s.g[n]? with
      | some (.lst ys) => inD s.g x ys
      | some (.fix ys) => inD s.g x ys
      | _ => none
    | _, _ => none
  | .notin => match a, b with
    | .str [c], .str y => some (!y.contains c)
    | x, .tup ys => (inD s.g x ys).map not
    | x, .ref n => match s.g[n]? with
      | some (.lst ys) => (inD s.g x ys).map not
      | some (.fix ys) => (inD s.g x ys).map not
      | _ => none
    | _, _ => none
  | .is => match a, b with
    | .bl x, .bl y => some (x == y)
    | x, .non => some (isNon x)
    | _, _ => none
  | .isnot => match a, b with
    | .bl x, .bl y => some (!(x == y))
    | x, .non => some (!isNon x)
    | _, _ => none
  | .lt => match a, b with
    | .int i, .int j => some (decide (i < j))
    | .str x, .str y => some (decide (x < y))
    | _, _ => none
  | .le => match a, b with
    | .int i, .int j => some (decide (i ≤ j))
    | .str x, .str y => some (!decide (y < x))
    | _, _ => none
  | .gt => match a, b with
    | .int i, .int j => some (decide (j < i))
    | .str x, .str y => some (decide (y < x))
    | _, _ => none
  | .ge => match a, b with
    | .int i, .int j => some (decide (j ≤ i))
    | .str x, .str y => some (!decide (x < y))
    | _, _ => none

/-! ### places -/
def ixE (n : Nat) (i : Int) : Option Nat := if 0 ≤ i then (if i < n then some i.toNat else none) else if -(n : Int) ≤ i then some (i + n).toNat else none
def at? {α : Type} (xs : List α) (i : Int) : Option α := (ixE xs.length i).bind fun j => xs[j]?
def cutIx (n d : Nat) : Option Int → Nat
  | none => d
  | some v => if v < 0 then (v + (n : Int)).toNat else min v.toNat n
def cut {α : Type} (xs : List α) (lo hi : Option Int) : List α := (xs.drop (cutIx xs.length 0 lo)).take (cutIx xs.length xs.length hi - cutIx xs.length 0 lo)
/-- what stands in a dict at a key -/
def dget (k : PV) : List (PV × PV) → Option PV
  | [] => none
  | p :: ps => if eqv p.1 k then some p.2 else dget k ps
def dput (k v : PV) (kvs : List (PV × PV)) : List (PV × PV) :=
  if (dget k kvs).isSome then kvs.map fun p => if eqv p.1 k then (p.1, v) else p else kvs ++ [(k, v)]
/-- keys: ints and texts, or tuples of them -/
def keyK : PV → Bool
  | .int _ => true
  | .str _ => true
  | _ => false
def keyOk (t : Bool) : PV → Bool
  | .tup xs => t && xs.all keyK
  | p => !t && keyK p
/-- the dict at n, where k may be its key -/
def dctAt (s : S) (o k : PV) : Option (Nat × Bool × List (PV × PV)) :=
  match o with
  | .ref n => match s.g[n]? with
    | some (.dct t kvs) => if keyOk t k then some (n, t, kvs) else none
    | _ => none
  | _ => none
def item (o i : PV) (s : S) : Option PV :=
  match o, i with
  | .tup xs, .int j => at? xs j
  | .str x, .int j => if x.length ≤ line then (at? x j).map fun c => .str [c] else none
  | .ref n, .int j => (lstAt s n).bind fun xs => at? xs j
  | _, _ => none
def slice (o : PV) (lo hi : Option Int) (s : S) : Option (PV × S) :=
  match o with
  | .tup xs => some (.tup (cut xs lo hi), s)
  | .str x => if x.length ≤ line then some (.str (cut x lo hi), s) else none
  | .ref n => (lstAt s n).bind fun xs => alloc (.lst (cut xs lo hi)) s
  | _ => none
def setItem (o i v : PV) (s : S) : Option S :=
  match o, i with
  | .ref n, .int j => match s.g[n]? with
    | some (.lst xs) => (ixE xs.length j).map fun k => s.wr n (.lst (xs.set k v)) v.rf
    | _ => none
  | _, _ => none

/-! ### built-in functions and methods -/
inductive Blt
  | len | list | tuple | sorted | sortedSet | lenSet | isTuple | isInt | isStr | isBool | isList | all | any | int | min | max | repr
  deriving DecidableEq
def boolsOf : List PV → Option (List Bool)
  | [] => some []
  | .bl b :: r => (boolsOf r).map (b :: ·)
  | _ => none
def intsOf : List PV → Option (List Int)
  | [] => some []
  | .int b :: r => (intsOf r).map (b :: ·)
  | _ => none
/-- the kind of a value: 0 None, 1 bool, 2 int, 3 text, 4 tuple, 5 list -/
def kind (s : S) : PV → Option Nat
  | .non => some 0
  | .bl _ => some 1
  | .int _ => some 2
  | .str _ => some 3
  | .tup _ => some 4
  | .ref n => match s.g[n]? with
    | some (.lst _) => some 5
    | some (.fix _) => some 5
    | _ => none
  | .lv _ => none
/-- sets: ints, or texts -/
def setable (xs : List PV) : Bool := (allInt xs || allStr xs) && decide (xs.length < 64)
def isTup1 : PV → Bool
  | .tup (_ :: _) => true
  | _ => false
def notTup : PV → Bool
  | .tup _ => false
  | .non => false
  | _ => true
/-- sorted: all of one kind -/
def sortable (xs : List PV) : Bool := alikeEach xs && (rfs xs && ((xs.all isTup1 || xs.all notTup) && (decide (xs.length ≤ line) && decide (PV.deps xs ≤ 60))))
def bLen : List PV → S → Option (PV × S)
  | [.str x], s => if x.length ≤ line then some (.int x.length, s) else none
  | [v], s => match seqOf s v with
    | some xs => some (.int xs.length, s)
    | none => none
  | _, _ => none
def bList : List PV → S → Option (PV × S)
  | [v], s => match seqOf s v with
    | some xs => alloc (.lst xs) s
    | none => none
  | _, _ => none
def bTuple : List PV → S → Option (PV × S)
  | [v], s => match seqOf s v with
    | some xs => some (.tup xs, s)
    | none => none
  | _, _ => none
def bSorted : List PV → S → Option (PV × S)
  | [.ref n], s => match lstAt s n with
    | some xs => if sortable xs then alloc (.lst (isort xs)) s else none
    | none => none
  | _, _ => none
def bSortedSet : List PV → S → Option (PV × S)
  | [v], s => match seqOf s v with
    | some xs => if setable xs then alloc (.lst (usort xs)) s else none
    | none => none
  | _, _ => none
def bLenSet : List PV → S → Option (PV × S)
  | [v], s => match seqOf s v with
    | some xs => if setable xs then some (.int (usort xs).length, s) else none
    | none => none
  | _, _ => none
def bIs (ks : List Nat) : List PV → S → Option (PV × S)
  | [v], s => match kind s v with
    | some k => some (.bl (ks.contains k), s)
    | none => none
  | _, _ => none
def bAll (any : Bool) : List PV → S → Option (PV × S)
  | [.ref n], s => match lstAt s n with
    | some xs => match boolsOf xs with
      | some bs => some (.bl (if any then bs.any id else bs.all id), s)
      | none => none
    | none => none
  | _, _ => none
def bInt : List PV → S → Option (PV × S)
  | [.int i], s => some (.int i, s)
  | [.bl b], s => some (.int (if b then 1 else 0), s)
  | _, _ => none
def bMm (big : Bool) : List PV → S → Option (PV × S)
  | [.ref n], s => match lstAt s n with
    | some xs => match intsOf xs with
      | some (i :: r) => some (.int (if big then r.foldl max i else r.foldl min i), s)
      | _ => none
    | none => none
  | _, _ => none
/-! ### repr -/
mutual
def toD : PV → PySem.PyData
  | .non => .none
  | .bl b => .bool b
  | .int i => .int i
  | .str x => .str ⟨⟨x⟩⟩
  | .tup xs => .tuple (toDs xs)
  | .lv xs => .list (toDs xs)
  | .ref _ => .none
def toDs : List PV → List PySem.PyData
  | [] => []
  | x :: xs => toD x :: toDs xs
end
/-! data that repr shows -/
mutual
def showP : PV → Bool
  | .int i => decide (i.natAbs.log2 < 1920)
  | .tup xs => showPs xs
  | .lv xs => showPs xs
  | .ref _ => false
  | _ => true
def showPs : List PV → Bool
  | [] => true
  | x :: xs => showP x && showPs xs
end
def reprP (d : PV) : Sg := (PySem.PyData.shown (toD d)).cps.toList
def bRepr : List PV → S → Option (PV × S)
  | [v], s => match deep s.g v with
    | some d => if showP d && (decide (d.dep ≤ 60) && decide ((reprP d).length ≤ line)) then some (.str (reprP d), s) else none
    | none => none
  | _, _ => none
def blt : Blt → List PV → S → Option (PV × S)
  | .len => bLen
  | .list => bList
  | .tuple => bTuple
  | .sorted => bSorted
  | .sortedSet => bSortedSet
  | .lenSet => bLenSet
  | .isTuple => bIs [4]
  | .isInt => bIs [1, 2]
  | .isStr => bIs [3]
  | .isBool => bIs [1]
  | .isList => bIs [5]
  | .all => bAll false
  | .any => bAll true
  | .int => bInt
  | .min => bMm false
  | .max => bMm true
  | .repr => bRepr

inductive Mth
  | append | extend | insert | pop | index | reverse | join
  deriving DecidableEq
/-- the receiver is of the method's type -/
def mthTy (m : Mth) (o : PV) (s : S) : Bool :=
  match m, o with
  | .join, .str _ => true
  | .join, _ => false
  | _, .ref n => match s.g[n]? with
    | some (.lst _) => true
    | _ => false
  | _, _ => false
def indexOf (x : PV) : List PV → Option Nat
  | [] => none
  | y :: ys => if eqv y x then some 0 else (indexOf x ys).map (· + 1)
def flatP : PV → Bool
  | .non => true
  | .bl _ => true
  | .int _ => true
  | .str _ => true
  | _ => false
def mAppend : PV → List PV → S → Option (PV × S)
  | .ref n, [v], s => match s.g[n]? with
    | some (.lst xs) => if xs.length < line then some (.non, s.wr n (.lst (xs ++ [v])) v.rf) else none
    | _ => none
  | _, _, _ => none
def mExtend : PV → List PV → S → Option (PV × S)
  | .ref n, [.ref m], s => match s.g[n]? with
    | some (.lst xs) => match s.g[m]? with
      | some (.lst ys) => if xs.length + ys.length ≤ line then some (.non, s.wr n (.lst (xs ++ ys)) (rfs ys)) else none
      | _ => none
    | _ => none
  | _, _, _ => none
def mInsert : PV → List PV → S → Option (PV × S)
  | .ref n, [.int i, v], s => match s.g[n]? with
    | some (.lst xs) => if xs.length < line ∧ 0 ≤ i ∧ i < 2 ^ 63 then some (.non, s.wr n (.lst (xs.take i.toNat ++ [v] ++ xs.drop i.toNat)) v.rf) else none
    | _ => none
  | _, _, _ => none
def mPop : PV → List PV → S → Option (PV × S)
  | .ref n, [], s => match s.g[n]? with
    | some (.lst xs) => match xs[xs.length - 1]? with
      | some y => some (y, s.wr n (.lst xs.dropLast) true)
      | none => none
    | _ => none
  | .ref n, [.int i], s => match s.g[n]? with
    | some (.lst xs) => if -(2 ^ 63) ≤ i ∧ i < 2 ^ 63 then (match ixE xs.length i with
        | none => none
        | some k => match xs[k]? with
          | some y => some (y, s.wr n (.lst (xs.eraseIdx k)) true)
          | none => none) else none
    | _ => none
  | _, _, _ => none
def mIndex : PV → List PV → S → Option (PV × S)
  | .ref n, [v], s => match s.g[n]? with
    | some (.lst xs) => if flatP v && xs.all flatP then (match indexOf v xs with
      | some k => some (.int k, s)
      | none => none) else none
    | _ => none
  | _, _, _ => none
def mReverse : PV → List PV → S → Option (PV × S)
  | .ref n, [], s => match s.g[n]? with
    | some (.lst xs) => some (.non, s.wr n (.lst xs.reverse) true)
    | _ => none
  | _, _, _ => none
def mth : Mth → PV → List PV → S → Option (PV × S)
  | .append => mAppend
  | .extend => mExtend
  | .insert => mInsert
  | .pop => mPop
  | .index => mIndex
  | .reverse => mReverse
  | .join => fun _ _ _ => none
end Ev

set_option linter.all false
set_option autoImplicit false
/-! Ev2: syntax, and its run. -/
namespace Ev
/-- a target: a slot, or a tuple of targets -/
inductive TgE | nm (i : Nat) | tp (l : List TgE)
mutual
inductive XE
  | c (v : PV) | v (i : Nat) | tup (es : XL) | lst (es : XL)
  | bin (op : Bop) (a b : XE) | neg (a : XE) | cmp (op : Cop) (a b : XE) | cmp2 (o1 o2 : Cop) (a b c : XE)
  | and (a b : XE) | or (a b : XE) | not (a : XE) | ite (t a b : XE)
  | call (f : Nat) (es : XL) | blt (f : Blt) (es : XL) | mth (m : Mth) (o : XE) (es : XL)
  | idx (o i : XE) | sl (o : XE) (lo hi : XO) | rev (o : XE)
  | lc (e : XE) (tg : TgE) (it : XI) (ifs : XO)
  | lc2 (e : XE) (tg : TgE) (it : XI) (tg2 : TgE) (it2 : XI)
  | dnew (t : Bool) | dget (o k : XE) | din (neg : Bool) (k o : XE) | dgetD (o k d : XE) | dsetd (o k d : XE)
inductive XL
  | nil | cons (e : XE) (r : XL)
inductive XO
  | none | some (e : XE)
inductive XI
  | seq (e : XE) | rng (a : XE) | rng2 (a b : XE) | enum (e : XE) | zip (a b : XE)
end
/-- a runtime iterator -/
inductive IT | vals (xs : List PV) | lref (n : Nat) | enum (i : IT) | zip (a b : IT)
def IT.get (s : S) : IT → Nat → Option (Option PV)
  | .vals xs, i => some xs[i]?
  | .lref n, i => (lstAt s n).map fun xs => xs[i]?
  | .enum it, i => match IT.get s it i with
    | some (some v) => some (some (.tup [.int i, v]))
    | some none => some none
    | none => none
  | .zip a b, i => match IT.get s a i with
    | none => none
    | some x => match IT.get s b i with
      | none => none
      | some y => match x, y with
        | some x, some y => some (some (.tup [x, y]))
        | _, _ => some none

mutual
def TgE.slots : TgE → List Nat
  | .nm i => [i]
  | .tp l => TgE.slotsL l
def TgE.slotsL : List TgE → List Nat
  | [] => []
  | t :: ts => TgE.slots t ++ TgE.slotsL ts
end
mutual
def asn : TgE → PV → Env → Option Env
  | .nm i, v, σ => some (σ.set i (some v))
  | .tp l, .tup xs, σ => asns l xs σ
  | _, _, _ => none
def asns : List TgE → List PV → Env → Option Env
  | [], [], σ => some σ
  | t :: ts, v :: vs, σ => match asn t v σ with
    | none => none
    | some σ' => asns ts vs σ'
  | _, _, _ => none
end
def wipeE (σ : Env) : List Nat → Env
  | [] => σ
  | i :: is => (wipeE σ is).set i none

/-- turns of a comprehension: its items, then what follows -/
def lcL (get : S → Nat → Option (Option PV)) (turn : PV → S → Option (List PV × S)) : Nat → Nat → List PV → S → Option (List PV × S)
  | 0, _, _, _ => none
  | f + 1, i, acc, s => match get s i with
    | none => none
    | some none => some (acc, s)
    | some (some v) => match turn v s with
      | none => none
      | some r => lcL get turn f (i + 1) (acc ++ r.1) r.2
def fuel : Nat := 1000000
def rangeV (a b : Int) : List PV := (List.range (b - a).toNat).map fun (k : Nat) => PV.int (a + (k : Int))
def intOk (i : Int) : Bool := decide (-(2 ^ 62) ≤ i ∧ i < 2 ^ 62)

/-- a turn of a comprehension: the target, the test, the item -/
def lcTurn (tg : TgE) (σw : Env) (runT : Env → S → Option (Bool × S)) (runE : Env → S → Option (PV × S)) (v : PV) (s : S) : Option (List PV × S) :=
  match asn tg v σw with
  | none => none
  | some σ2 => match runT σ2 s with
    | none => none
    | some q => if q.1 then (match scp (runE σ2) q.2 with
      | none => none
      | some p => some ([p.1], p.2)) else some ([], q.2)
def yes (_ : Env) (s : S) : Option (Bool × S) := some (true, s)
/-- a turn of the outer of two clauses -/
def lcTurn2 (tg tg2 : TgE) (σw : Env) (runI : Env → S → Option (IT × S)) (runE : Env → S → Option (PV × S)) (v : PV) (s : S) : Option (List PV × S) :=
  match asn tg v σw with
  | none => none
  | some σ2 => match runI σ2 s with
    | none => none
    | some q => lcL (fun s i => q.1.get s i) (lcTurn tg2 (wipeE σ2 tg2.slots) yes runE) fuel 0 [] q.2
section
variable (C : Nat → List PV → S → Option (PV × S))
mutual
def evE : XE → Env → S → Option (PV × S)
  | .c v, _, s => some (v, s)
  | .v i, σ, s => match σ[i]? with
    | some (some v) => some (v, s)
    | _ => none
  | .tup es, σ, s => match evL es σ s with
    | none => none
    | some r => if r.1.length ≤ line then some (.tup r.1, r.2) else none
  | .lst es, σ, s => match evL es σ s with
    | none => none
    | some r => if r.1.length ≤ line then alloc (.lst r.1) r.2 else none
  | .bin op a b, σ, s => match evE a σ s with
    | none => none
    | some r => match evE b σ r.2 with
      | none => none
      | some q => bop op r.1 q.1 q.2
  | .neg a, σ, s => match evE a σ s with
    | some (.int i, s') => some (.int (-i), s')
    | _ => none
  | .cmp op a b, σ, s => match evE a σ s with
    | none => none
    | some r => match evE b σ r.2 with
      | none => none
      | some q => (cop op r.1 q.1 q.2).map fun b => (.bl b, q.2)
  | .cmp2 o1 o2 a b c, σ, s => match evE a σ s with
    | none => none
    | some r => match evE b σ r.2 with
      | none => none
      | some q => match cop o1 r.1 q.1 q.2 with
        | none => none
        | some false => some (.bl false, q.2)
        | some true => match evE c σ q.2 with
          | none => none
          | some p => (cop o2 q.1 p.1 p.2).map fun b => (.bl b, p.2)
  | .and a b, σ, s => match evE a σ s with
    | some (.bl true, s') => evE b σ s'
    | some (.bl false, s') => some (.bl false, s')
    | _ => none
  | .or a b, σ, s => match evE a σ s with
    | some (.bl true, s') => some (.bl true, s')
    | some (.bl false, s') => evE b σ s'
    | _ => none
  | .not a, σ, s => match evE a σ s with
    | some (.bl b, s') => some (.bl (!b), s')
    | _ => none
  | .ite t a b, σ, s => match evE t σ s with
    | some (.bl true, s') => evE a σ s'
    | some (.bl false, s') => evE b σ s'
    | _ => none
  | .call f es, σ, s => match evL es σ s with
    | none => none
    | some r => C f r.1 r.2
  | .blt f es, σ, s => match evL es σ s with
    | none => none
    | some r => blt f r.1 r.2
  | .mth m o es, σ, s => match evE o σ s with
    | none => none
    | some r => if mthTy m r.1 r.2 then (match evL es σ r.2 with
      | none => none
      | some q => mth m r.1 q.1 q.2) else none
  | .idx o i, σ, s => match evE o σ s with
    | none => none
    | some r => match evE i σ r.2 with
      | none => none
      | some q => (item r.1 q.1 q.2).map fun v => (v, q.2)
  | .sl o lo hi, σ, s => match evE o σ s with
    | none => none
    | some r => match evO lo σ r.2 with
      | none => none
      | some q => match evO hi σ q.2 with
        | none => none
        | some p => slice r.1 q.1 p.1 p.2
  | .rev o, σ, s => match evE o σ s with
    | some (.tup xs, s') => some (.tup xs.reverse, s')
    | _ => none
  | .lc e tg it ifs, σ, s => match evI it σ s with
    | none => none
    | some r => match lcL (fun s i => r.1.get s i) (lcTurn tg (wipeE σ tg.slots) (fun σ s => evT ifs σ s) (fun σ s => evE e σ s)) fuel 0 [] r.2 with
      | none => none
      | some q => if q.1.length ≤ line then alloc (.lst q.1) q.2 else none
  | .lc2 e tg it tg2 it2, σ, s => match evI it σ s with
    | none => none
    | some r => match lcL (fun s i => r.1.get s i) (lcTurn2 tg tg2 (wipeE (wipeE σ tg2.slots) tg.slots) (fun σ s => evI it2 σ s) (fun σ s => evE e σ s)) fuel 0 [] r.2 with
      | none => none
      | some q => if q.1.length ≤ line then alloc (.lst q.1) q.2 else none
  | .dnew t, _, s => alloc (.dct t []) s
  | .dget o k, σ, s => match evE o σ s with
    | none => none
    | some r => match evE k σ r.2 with
      | none => none
      | some q => match dctAt q.2 r.1 q.1 with
        | none => none
        | some d => match dget q.1 d.2.2 with
          | none => none
          | some v => some (v, q.2)
  | .din neg k o, σ, s => match evE k σ s with
    | none => none
    | some r => match evE o σ r.2 with
      | none => none
      | some q => match dctAt q.2 q.1 r.1 with
        | none => none
        | some d => some (.bl (neg != (dget r.1 d.2.2).isSome), q.2)
  | .dgetD o k d, σ, s => match evE o σ s with
    | none => none
    | some r => match evE k σ r.2 with
      | none => none
      | some q => match evE d σ q.2 with
        | none => none
        | some p => match dctAt r.2 r.1 q.1, dctAt p.2 r.1 q.1 with
          | some _, some d => some ((dget q.1 d.2.2).getD p.1, p.2)
          | _, _ => none
  | .dsetd o k d, σ, s => match evE o σ s with
    | none => none
    | some r => match evE k σ r.2 with
      | none => none
      | some q => match evE d σ q.2 with
        | none => none
        | some p => match dctAt r.2 r.1 q.1, dctAt p.2 r.1 q.1 with
          | some _, some (n, false, kvs) => if kvs.length < line then (match dget q.1 kvs with
            | some v => some (v, p.2)
            | none => some (p.1, p.2.wr n (.dct false (dput q.1 p.1 kvs)) p.1.rf)) else none
          | _, _ => none
def evL : XL → Env → S → Option (List PV × S)
  | .nil, _, s => some ([], s)
  | .cons e es, σ, s => match evE e σ s with
    | none => none
    | some r => match evL es σ r.2 with
      | none => none
      | some q => some (r.1 :: q.1, q.2)
def evO : XO → Env → S → Option (Option Int × S)
  | .none, _, s => some (none, s)
  | .some e, σ, s => match evE e σ s with
    | some (.int i, s') => some (some i, s')
    | _ => none
def evT : XO → Env → S → Option (Bool × S)
  | .none, _, s => some (true, s)
  | .some e, σ, s => match scp (evE e σ) s with
    | some (.bl b, s') => some (b, s')
    | _ => none
def evI : XI → Env → S → Option (IT × S)
  | .seq e, σ, s => match evE e σ s with
    | some (.tup xs, s') => some (.vals xs, s')
    | some (.str x, s') => some (.vals (x.map fun c => .str [c]), s')
    | some (.ref n, s') => (lstAt s' n).map fun _ => (.lref n, s')
    | _ => none
  | .rng a, σ, s => match evE a σ s with
    | some (.int j, s') => if intOk j then some (.vals (rangeV 0 j), s') else none
    | _ => none
  | .rng2 a b, σ, s => match evE a σ s with
    | some (.int i, s') => match evE b σ s' with
      | some (.int j, s2) => if intOk i && intOk j then some (.vals (rangeV i j), s2) else none
      | _ => none
    | _ => none
  | .enum e, σ, s => match evE e σ s with
    | some (.ref n, s') => (lstAt s' n).map fun _ => (.enum (.lref n), s')
    | _ => none
  | .zip a b, σ, s => match evE a σ s with
    | none => none
    | some r => match evE b σ r.2 with
      | none => none
      | some q => match r.1, q.1 with
        | .ref n, .ref m => match lstAt q.2 n, lstAt q.2 m with
          | some _, some _ => some (.zip (.lref n) (.lref m), q.2)
          | _, _ => none
        | .tup xs, .tup ys => some (.zip (.vals xs) (.vals ys), q.2)
        | _, _ => none
end

/-! ### statements -/
mutual
inductive XS
  | asg (tg : TgE) (e : XE) | setIx (o i e : XE) | dput (o k e : XE) | aug (i : Nat) (op : Bop) (e : XE) | ex (e : XE)
  | iff (t : XE) (a b : XB) | for (tg : TgE) (it : XI) (body : XB) (kills : List Nat) | wh (t : XE) (body : XB) (kills : List Nat)
  | ret (e : XE) | retN | brk | cnt | pass | never
inductive XB
  | nil | cons (s : XS) (r : XB)
end
inductive Out | nx (σ : Env) | rt (v : PV) | bk (σ : Env) | ct (σ : Env)
def forL (get : S → Nat → Option (Option PV)) (turn : PV → Env → S → Option (Out × S)) : Nat → Nat → Env → S → Option (Out × S)
  | 0, _, _, _ => none
  | f + 1, i, σ, s => match get s i with
    | none => none
    | some none => some (.nx σ, s)
    | some (some v) => match turn v σ s with
      | some (.nx σ', s') => forL get turn f (i + 1) σ' s'
      | some (.ct σ', s') => forL get turn f (i + 1) σ' s'
      | some (.bk σ', s') => some (.nx σ', s')
      | some (.rt v, s') => some (.rt v, s')
      | none => none
def whL (test : Env → S → Option (PV × S)) (turn : Env → S → Option (Out × S)) : Nat → Env → S → Option (Out × S)
  | 0, _, _ => none
  | f + 1, σ, s => match test σ s with
    | some (.bl false, s') => some (.nx σ, s')
    | some (.bl true, s') => match turn σ s' with
      | some (.nx σ', s') => whL test turn f σ' s'
      | some (.ct σ', s') => whL test turn f σ' s'
      | some (.bk σ', s') => some (.nx σ', s')
      | some (.rt v, s') => some (.rt v, s')
      | none => none
    | _ => none
/-- behind a turn: what is dead is forgotten -/
def done (kills : List Nat) (s0 : S) : Option (Out × S) → Option (Out × S)
  | some (.nx σ, s) => some (.nx (wipeE σ kills), tidyE s0.size s0.lo (wipeE σ kills) s)
  | some (.ct σ, s) => some (.ct (wipeE σ kills), tidyE s0.size s0.lo (wipeE σ kills) s)
  | some (.bk σ, s) => some (.bk σ, ⟨s.g, min s0.lo s.lo⟩)
  | some (.rt v, s) => some (.rt v, ⟨s.g, min s0.lo s.lo⟩)
  | none => none
/-- a turn of for, of while -/
def forTurn (tg : TgE) (kills : List Nat) (run : Env → S → Option (Out × S)) (v : PV) (σ : Env) (s : S) : Option (Out × S) :=
  match asn tg v σ with
  | none => none
  | some σ2 => done kills s (run σ2 ⟨s.g, s.size⟩)
def whTurn (kills : List Nat) (run : Env → S → Option (Out × S)) (σ : Env) (s : S) : Option (Out × S) := done kills s (run σ ⟨s.g, s.size⟩)
mutual
def evS : XS → Env → S → Option (Out × S)
  | .asg tg e, σ, s => match scp (evE C e σ) s with
    | none => none
    | some r => (asn tg r.1 σ).map fun σ' => (.nx σ', r.2)
  | .setIx o i e, σ, s => match scp (evE C e σ) s with
    | none => none
    | some r => match evE C o σ r.2 with
      | none => none
      | some q => match evE C i σ q.2 with
        | none => none
        | some p => (setItem q.1 p.1 r.1 p.2).map fun s' => (.nx σ, s')
  | .dput o i e, σ, s => match scp (evE C e σ) s with
    | none => none
    | some r => match evE C o σ r.2 with
      | none => none
      | some q => match evE C i σ q.2 with
        | none => none
        | some p => match dctAt p.2 q.1 p.1 with
          | none => none
          | some (n, t, kvs) => if kvs.length < line then some (.nx σ, p.2.wr n (.dct t (Ev.dput p.1 r.1 kvs)) r.1.rf) else none
  | .aug i op e, σ, s => match σ[i]? with
    | some (some v) => match evE C e σ s with
      | none => none
      | some r => match v, r.1 with
        | .int _, .int _ => (bop op v r.1 r.2).map fun q => (.nx (σ.set i (some q.1)), q.2)
        | _, _ => none
    | _ => none
  | .ex e, σ, s => match scp (evE C e σ) s with
    | none => none
    | some r => some (.nx σ, r.2)
  | .iff t a b, σ, s => match scp (evE C t σ) s with
    | some (.bl true, s') => evB a σ s'
    | some (.bl false, s') => evB b σ s'
    | _ => none
  | .for tg it body kills, σ, s => match evI C it σ ⟨s.g, s.size⟩ with
    | none => none
    | some r => match forL (fun s i => r.1.get s i) (forTurn tg kills (fun σ s => evB body σ s)) fuel 0 σ r.2 with
      | none => none
      | some q => match q.1 with
        | .nx σ' => some (.nx σ', tidyE s.size s.lo σ' q.2)
        | o => some (o, ⟨q.2.g, min s.lo q.2.lo⟩)
  | .wh t body kills, σ, s => whL (fun σ s => scp (evE C t σ) s) (whTurn kills (fun σ s => evB body σ s)) fuel σ s
  | .ret e, σ, s => match evE C e σ s with
    | none => none
    | some r => some (.rt r.1, r.2)
  | .retN, _, s => some (.rt .non, s)
  | .brk, σ, s => some (.bk σ, s)
  | .cnt, σ, s => some (.ct σ, s)
  | .pass, σ, s => some (.nx σ, s)
  | .never, _, _ => none
def evB : XB → Env → S → Option (Out × S)
  | .nil, σ, s => some (.nx σ, s)
  | .cons st r, σ, s => match evS st σ s with
    | some (.nx σ', s') => evB r σ' s'
    | some (.rt v, s') => some (.rt v, s')
    | some (.bk σ', s') => some (.bk σ', s')
    | some (.ct σ', s') => some (.ct σ', s')
    | none => none
end
end

/-! ### a program: its defs -/
structure Dfn where
  np : Nat
  nl : Nat
  body : XB
def runD (D : List (Nat × Dfn)) : Nat → Nat → List PV → S → Option (PV × S)
  | 0, _, _, _ => none
  | k + 1, f, vs, s => match D.lookup f with
    | none => none
    | some d => if vs.length = d.np then scp (fun s' => match evB (runD D k) d.body (vs.map some ++ List.replicate (d.nl - d.np) none) s' with
        | some (.nx _, s2) => some (.non, s2)
        | some (.rt v, s2) => some (v, s2)
        | _ => none) s
      else none
end Ev

set_option linter.all false
set_option autoImplicit false
set_option maxRecDepth 100000
/-! Ev3: what a value, an object, a state of the evaluator says of the machine. -/
namespace Ev
open PySem PySem.Spec PyProof.Rows L2

/-! ### lists -/
theorem get_take {α : Type} {l : List α} {n i : Nat} {x : α} (h : (l.take n)[i]? = some x) : l[i]? = some x ∧ i < n := by
  rw [List.getElem?_take] at h
  by_cases e : i < n
  · rw [if_pos e] at h
    exact ⟨h, e⟩
  · rw [if_neg e] at h
    cases h
theorem take_get {α : Type} {l : List α} {n i : Nat} {x : α} (h : l[i]? = some x) (e : i < n) : (l.take n)[i]? = some x := by
  rw [List.getElem?_take, if_pos e]
  exact h
theorem lt_of_get {α : Type} {l : List α} {i : Nat} {x : α} (h : l[i]? = some x) : i < l.length := by
  cases Nat.lt_or_ge i l.length with
  | inl h1 => exact h1
  | inr h1 => rw [List.getElem?_eq_none h1] at h; cases h
theorem get_app {α : Type} {l r : List α} {i : Nat} {x : α} (h : l[i]? = some x) : (l ++ r)[i]? = some x := by
  rw [List.getElem?_append_left (lt_of_get h)]
  exact h
theorem get_end {α : Type} {l : List α} {x : α} : (l ++ [x])[l.length]? = some x := by
  rw [List.getElem?_append_right (Nat.le_refl _), Nat.sub_self]
  rfl

section
variable (K : PySem.W.Frag)
mutual
def RV (K : PySem.W.Frag) (ρ : List Addr) (H : Hp) : PV → V → Prop
  | .non, v => v = .non
  | .bl b, v => v = .bl b
  | .int i, v => v = .int i
  | .str x, v => v = .str ⟨⟨x⟩⟩
  | .tup xs, v => ∃ a vs, v = .ref a ∧ H a = some (.tup vs) ∧ RVs K ρ H xs vs
  | .ref n, v => ∃ a, v = .ref a ∧ ρ[n]? = some a
  | .lv _, _ => False
def RVs (K : PySem.W.Frag) (ρ : List Addr) (H : Hp) : List PV → List V → Prop
  | [], vs => vs = []
  | x :: xs, vs => ∃ w ws, vs = w :: ws ∧ RV K ρ H x w ∧ RVs K ρ H xs ws
end
/-- a dict's key, as it is read -/
def kP : Key → PV
  | .inl i => .int i
  | .inr x => .str x.cps.toList
def kPs (ks : List Key) : PV := .tup (ks.map kP)
/-- a dict's rows -/
def KR {κ : Type} (e : κ → PV) (K : PySem.W.Frag) (ρ : List Addr) (H : Hp) : List (PV × PV) → List (κ × V) → Prop
  | [], l => l = []
  | p :: ps, l => ∃ k v r, l = (k, v) :: r ∧ p.1 = e k ∧ RV K ρ H p.2 v ∧ KR e K ρ H ps r
/-- what was known stays known -/
structure Gr (K : PySem.W.Frag) (ρ : List Addr) (H : Hp) (ρ' : List Addr) (H' : Hp) : Prop where
  pre : ∀ (n : Nat) (a : Addr), ρ[n]? = some a → ρ'[n]? = some a
  tup : ∀ a vs, H a = some (.tup vs) → H' a = some (.tup vs)
/-- .. and what is not ours stays as it is -/
structure Grow (ρ : List Addr) (H : Hp) (ρ' : List Addr) (H' : Hp) : Prop extends Gr K ρ H ρ' H' where
  fresh : ∀ b ∈ ρ', b ∈ ρ ∨ H b = none
  keep : ∀ b o, b ∉ ρ → H b = some o → H' b = some o
end
section
variable {K : PySem.W.Frag} {ρ ρ' ρ2 : List Addr} {H H' H2 : Hp}
theorem Gr.refl : Gr K ρ H ρ H := ⟨fun _ _ h => h, fun _ _ h => h⟩
theorem Grow.refl : Grow K ρ H ρ H := ⟨Gr.refl, fun _ h => .inl h, fun _ _ _ h => h⟩
theorem Grow.trans (a : Grow K ρ H ρ' H') (b : Grow K ρ' H' ρ2 H2) : Grow K ρ H ρ2 H2 := by
  have out : ∀ x o, x ∉ ρ → H x = some o → x ∉ ρ' := fun x o h1 h2 z => by
    rcases a.fresh x z with q | q
    · exact h1 q
    · rw [h2] at q; cases q
  refine ⟨⟨fun n x h => b.pre n x (a.pre n x h), fun x vs h => b.tup x vs (a.tup x vs h)⟩, fun x hx => ?_, fun x o h1 h2 => b.keep x o (out x o h1 h2) (a.keep x o h1 h2)⟩
  rcases b.fresh x hx with q | q
  · exact a.fresh x q
  · by_cases z : x ∈ ρ
    · exact .inl z
    · cases e : H x with
      | none => exact .inr rfl
      | some o => rw [a.keep x o z e] at q; cases q
mutual
theorem RV.mo (k : Gr K ρ H ρ' H') : ∀ (p : PV) (v : V), RV K ρ H p v → RV K ρ' H' p v
  | .non, _, h => by unfold RV at h ⊢; exact h
  | .bl _, _, h => by unfold RV at h ⊢; exact h
  | .int _, _, h => by unfold RV at h ⊢; exact h
  | .str _, _, h => by unfold RV at h ⊢; exact h
  | .lv _, _, h => by unfold RV at h; exact h.elim
  | .ref n, v, h => by
    unfold RV at h ⊢
    obtain ⟨a, e, q⟩ := h
    exact ⟨a, e, k.pre _ _ q⟩
  | .tup xs, v, h => by
    unfold RV at h ⊢
    obtain ⟨a, vs, e, q, r⟩ := h
    exact ⟨a, vs, e, k.tup _ _ q, RVs.mo k xs vs r⟩
theorem RVs.mo (k : Gr K ρ H ρ' H') : ∀ (ps : List PV) (vs : List V), RVs K ρ H ps vs → RVs K ρ' H' ps vs
  | [], _, h => by unfold RVs at h ⊢; exact h
  | x :: xs, vs, h => by
    unfold RVs at h ⊢
    obtain ⟨w, ws, e, q, r⟩ := h
    exact ⟨w, ws, e, RV.mo k x w q, RVs.mo k xs ws r⟩
end
theorem KR.mo {κ : Type} {e : κ → PV} (k : Gr K ρ H ρ' H') : ∀ {ps : List (PV × PV)} {l : List (κ × V)}, KR e K ρ H ps l → KR e K ρ' H' ps l
  | [], _, h => h
  | p :: ps, _, h => by
    obtain ⟨a, v, r, e1, e2, e3, e4⟩ := h
    exact ⟨a, v, r, e1, e2, RV.mo k _ _ e3, KR.mo k e4⟩
theorem RV.mono (k : Grow K ρ H ρ' H') (p : PV) (v : V) (h : RV K ρ H p v) : RV K ρ' H' p v := RV.mo k.toGr p v h
theorem RVs.mono (k : Grow K ρ H ρ' H') (p : List PV) (v : List V) (h : RVs K ρ H p v) : RVs K ρ' H' p v := RVs.mo k.toGr p v h
mutual
theorem RV.cut (m : Nat) : ∀ (p : PV) (v : V), p.blw m = true → RV K ρ H p v → RV K (ρ.take m) H p v
  | .non, _, _, h => by unfold RV at h ⊢; exact h
  | .bl _, _, _, h => by unfold RV at h ⊢; exact h
  | .int _, _, _, h => by unfold RV at h ⊢; exact h
  | .str _, _, _, h => by unfold RV at h ⊢; exact h
  | .lv _, _, _, h => by unfold RV at h; exact h.elim
  | .ref n, v, b, h => by
    unfold RV at h ⊢
    obtain ⟨a, e, q⟩ := h
    have b : n < m := of_decide_eq_true (by unfold PV.blw at b; exact b)
    exact ⟨a, e, take_get q b⟩
  | .tup xs, v, b, h => by
    unfold RV at h ⊢
    obtain ⟨a, vs, e, q, r⟩ := h
    exact ⟨a, vs, e, q, RVs.cut m xs vs (by unfold PV.blw at b; exact b) r⟩
theorem RVs.cut (m : Nat) : ∀ (ps : List PV) (vs : List V), PV.blws m ps = true → RVs K ρ H ps vs → RVs K (ρ.take m) H ps vs
  | [], _, _, h => by unfold RVs at h ⊢; exact h
  | x :: xs, vs, b, h => by
    unfold RVs at h ⊢
    obtain ⟨w, ws, e, q, r⟩ := h
    unfold PV.blws at b
    obtain ⟨b1, b2⟩ := Bool.and_eq_true_iff.mp b
    exact ⟨w, ws, e, RV.cut m x w b1 q, RVs.cut m xs ws b2 r⟩
end
mutual
theorem RV.blw : ∀ (p : PV) (v : V), RV K ρ H p v → p.blw ρ.length = true
  | .non, _, _ => by unfold PV.blw; rfl
  | .bl _, _, _ => by unfold PV.blw; rfl
  | .int _, _, _ => by unfold PV.blw; rfl
  | .str _, _, _ => by unfold PV.blw; rfl
  | .lv _, _, h => by unfold RV at h; exact h.elim
  | .ref n, v, h => by
    unfold RV at h
    obtain ⟨a, e, q⟩ := h
    unfold PV.blw
    exact decide_eq_true (lt_of_get q)
  | .tup xs, v, h => by
    unfold RV at h
    obtain ⟨a, vs, e, q, r⟩ := h
    unfold PV.blw
    exact RVs.blw xs vs r
theorem RVs.blw : ∀ (ps : List PV) (vs : List V), RVs K ρ H ps vs → PV.blws ρ.length ps = true
  | [], _, _ => by unfold PV.blws; rfl
  | x :: xs, vs, h => by
    unfold RVs at h
    obtain ⟨w, ws, e, q, r⟩ := h
    unfold PV.blws
    rw [RV.blw x w q, RVs.blw xs ws r]
    rfl
end
mutual
theorem PV.blw_mono {m n : Nat} (h : m ≤ n) : ∀ p : PV, p.blw m = true → p.blw n = true
  | .non, _ => by unfold PV.blw; rfl
  | .bl _, _ => by unfold PV.blw; rfl
  | .int _, _ => by unfold PV.blw; rfl
  | .str _, _ => by unfold PV.blw; rfl
  | .lv _, b => by unfold PV.blw at b; cases b
  | .ref k, b => by
    unfold PV.blw at b ⊢
    have := of_decide_eq_true b
    exact decide_eq_true (by omega)
  | .tup xs, b => by
    unfold PV.blw at b ⊢
    exact PV.blws_mono h xs b
theorem PV.blws_mono {m n : Nat} (h : m ≤ n) : ∀ ps : List PV, PV.blws m ps = true → PV.blws n ps = true
  | [], _ => by unfold PV.blws; rfl
  | x :: xs, b => by
    unfold PV.blws at b ⊢
    obtain ⟨b1, b2⟩ := Bool.and_eq_true_iff.mp b
    rw [PV.blw_mono h x b1, PV.blws_mono h xs b2]
    rfl
end

/-! ### lists of values -/
theorem RVs.nil : RVs K ρ H [] [] := by unfold RVs; rfl
theorem RVs.cons {p : PV} {ps : List PV} {v : V} {vs : List V} (h : RV K ρ H p v) (r : RVs K ρ H ps vs) : RVs K ρ H (p :: ps) (v :: vs) := by
  unfold RVs; exact ⟨v, vs, rfl, h, r⟩
theorem RVs.inv {p : PV} {ps : List PV} {vs : List V} (h : RVs K ρ H (p :: ps) vs) : ∃ w ws, vs = w :: ws ∧ RV K ρ H p w ∧ RVs K ρ H ps ws := by
  unfold RVs at h; exact h
theorem RVs.inv0 {vs : List V} (h : RVs K ρ H [] vs) : vs = [] := by unfold RVs at h; exact h
theorem RVs.length : ∀ {ps : List PV} {vs : List V}, RVs K ρ H ps vs → ps.length = vs.length
  | [], _, h => by rw [h.inv0]; rfl
  | _ :: _, _, h => by
    obtain ⟨w, ws, e, _, r⟩ := h.inv
    rw [e, List.length_cons, List.length_cons, RVs.length r]
theorem RVs.get : ∀ {ps : List PV} {vs : List V} {i : Nat} {p : PV}, RVs K ρ H ps vs → ps[i]? = some p → ∃ v, vs[i]? = some v ∧ RV K ρ H p v
  | [], _, _, _, _, e => by simp at e
  | x :: xs, _, 0, p, h, e => by
    obtain ⟨w, ws, rfl, q, _⟩ := h.inv
    simp at e
    subst e
    exact ⟨w, rfl, q⟩
  | x :: xs, _, i + 1, p, h, e => by
    obtain ⟨w, ws, rfl, _, r⟩ := h.inv
    obtain ⟨v, a, b⟩ := RVs.get (i := i) r (by simpa using e)
    exact ⟨v, by simpa using a, b⟩
theorem RVs.append : ∀ {ps qs : List PV} {vs ws : List V}, RVs K ρ H ps vs → RVs K ρ H qs ws → RVs K ρ H (ps ++ qs) (vs ++ ws)
  | [], _, _, _, h, r => by rw [h.inv0]; exact r
  | x :: xs, _, _, _, h, r => by
    obtain ⟨w, ws', rfl, q, r'⟩ := h.inv
    exact .cons q (RVs.append r' r)
theorem RVs.set {p : PV} {v : V} (hp : RV K ρ H p v) : ∀ {ps : List PV} {vs : List V} (i : Nat), RVs K ρ H ps vs → RVs K ρ H (ps.set i p) (vs.set i v)
  | [], _, _, h => by rw [h.inv0]; exact .nil
  | x :: xs, _, 0, h => by
    obtain ⟨w, ws', rfl, q, r'⟩ := h.inv
    exact .cons hp r'
  | x :: xs, _, i + 1, h => by
    obtain ⟨w, ws', rfl, q, r'⟩ := h.inv
    exact .cons q (RVs.set hp i r')
theorem RVs.take : ∀ {ps : List PV} {vs : List V} (i : Nat), RVs K ρ H ps vs → RVs K ρ H (ps.take i) (vs.take i)
  | _, _, 0, _ => by simpa using RVs.nil
  | [], _, _ + 1, h => by rw [h.inv0]; exact .nil
  | x :: xs, _, i + 1, h => by
    obtain ⟨w, ws', rfl, q, r'⟩ := h.inv
    exact .cons q (RVs.take i r')
theorem RVs.drop : ∀ {ps : List PV} {vs : List V} (i : Nat), RVs K ρ H ps vs → RVs K ρ H (ps.drop i) (vs.drop i)
  | _, _, 0, h => h
  | [], _, _ + 1, h => by rw [h.inv0]; exact .nil
  | x :: xs, _, i + 1, h => by
    obtain ⟨w, ws', rfl, q, r'⟩ := h.inv
    exact RVs.drop i r'
theorem RVs.reverse : ∀ {ps : List PV} {vs : List V}, RVs K ρ H ps vs → RVs K ρ H ps.reverse vs.reverse
  | [], _, h => by rw [h.inv0]; exact .nil
  | x :: xs, _, h => by
    obtain ⟨w, ws', rfl, q, r'⟩ := h.inv
    rw [List.reverse_cons, List.reverse_cons]
    exact .append (RVs.reverse r') (.cons q .nil)
theorem RVs.erase : ∀ {ps : List PV} {vs : List V} (i : Nat), RVs K ρ H ps vs → RVs K ρ H (ps.eraseIdx i) (vs.eraseIdx i)
  | [], _, _, h => by rw [h.inv0]; exact .nil
  | x :: xs, _, 0, h => by
    obtain ⟨w, ws', rfl, q, r'⟩ := h.inv
    exact r'
  | x :: xs, _, i + 1, h => by
    obtain ⟨w, ws', rfl, q, r'⟩ := h.inv
    exact .cons q (RVs.erase i r')
theorem RVs.dropLast {ps : List PV} {vs : List V} (h : RVs K ρ H ps vs) : RVs K ρ H ps.dropLast vs.dropLast := by
  rw [List.dropLast_eq_take, List.dropLast_eq_take, h.length]
  exact h.take _
theorem RVs.rep {ps : List PV} {vs : List V} (h : RVs K ρ H ps vs) : ∀ k : Nat, RVs K ρ H (List.replicate k ps).flatten (List.replicate k vs).flatten
  | 0 => .nil
  | k + 1 => by
    rw [List.replicate_succ, List.replicate_succ, List.flatten_cons, List.flatten_cons]
    exact .append h (RVs.rep h k)
theorem RVs.ints (f : Nat → Int) : ∀ l : List Nat, RVs K ρ H (l.map fun k => PV.int (f k)) (l.map fun k => V.int (f k))
  | [] => .nil
  | _ :: r => .cons (by unfold RV; rfl) (RVs.ints f r)
end
end Ev

set_option linter.all false
set_option autoImplicit false
set_option maxRecDepth 100000
/-! Ev4: objects and states. -/
namespace Ev
open PySem PySem.Spec PyProof.Rows L2

section
variable (K : PySem.W.Frag)
def RO (ρ : List Addr) (H : Hp) : GO → Addr → Prop
  | .lst xs, a => ∃ vs, H a = some (.lst vs) ∧ RVs K ρ H xs vs
  | .fix xs, a => ∃ vs, Rd H a (.lst vs) ∧ RVs K ρ H xs vs
  | .dct false kvs, a => ∃ l, H a = some (.dK l) ∧ KR kP K ρ H kvs l
  | .dct true kvs, a => ∃ l, H a = some (.dT l) ∧ KR kPs K ρ H kvs l
  | .ins _ _, _ => False
structure Rel (B : Nat → Option Nat) (ρ : List Addr) (s : S) (H : Hp) : Prop where
  len : ρ.length = s.g.length
  nd : ρ.Nodup
  lo : s.lo ≤ s.g.length
  ob : ∀ (n : Nat) (o : GO) (a : Addr), s.g[n]? = some o → ρ[n]? = some a → RO K ρ H o a
  cl : ∀ (n : Nat) (o : GO) (b : Nat), n < s.lo → s.g[n]? = some o → B n = some b → o.blw b = true
/-- the slots -/
structure RS (ρ : List Addr) (H : Hp) (e : Env) (σ : L2.St) : Prop where
  len : e.length = σ.length
  val : ∀ (i : Nat) (p : PV), e[i]? = some (some p) → ∃ v, σ[i]? = some (some v) ∧ RV K ρ H p v
end

section
variable {K : PySem.W.Frag} {B : Nat → Option Nat} {ρ ρ' : List Addr} {H H' : Hp} {s s' : S} {e : Env} {σ : L2.St}

theorem Rd.same {a : Addr} {u : HO} (h : Rd H a u) (e : H' a = H a) : Rd H' a u := by
  rcases h with h | ⟨o, h⟩
  · exact .inl (e.trans h)
  · exact .inr ⟨o, e.trans h⟩
theorem SqL.same {a : Addr} {vs : List V} (h : SqL K H a vs) (e : H' a = H a) : SqL K H' a vs := by
  rcases h with h | h
  · refine .inl ?_
    rcases h with h | ⟨o, h⟩
    · exact .inl (e.trans h)
    · exact .inr ⟨o, e.trans h⟩
  · exact .inr h
theorem SqT.same {a : Addr} {vs : List V} (h : SqT K H a vs) (e : H' a = H a) : SqT K H' a vs := by
  rcases h with h | h
  · refine .inl ?_
    rcases h with h | ⟨o, h⟩
    · exact .inl (e.trans h)
    · exact .inr ⟨o, e.trans h⟩
  · exact .inr h
/-- no tuple stands here (as a tracked thing) -/
def NoTup (o : Option HO) : Prop := (∀ vs, o ≠ some (.tup vs)) ∧ ∀ u vs, o ≠ some (.frz u (.tup vs))
theorem NoTup.none : NoTup none := ⟨fun _ h => (by cases h), fun _ _ h => (by cases h)⟩
theorem NoTup.lst {vs : List V} : NoTup (some (.lst vs)) := ⟨fun _ h => (by cases h), fun _ _ h => (by cases h)⟩
/-- one place changes -/
theorem Gr.at {a : Addr} (h : ∀ b, b ≠ a → H' b = H b) (nt : NoTup (H a)) : Gr K ρ H ρ H' := by
  refine ⟨fun _ _ h => h, fun b vs q => ?_⟩
  by_cases e : b = a
  · subst e
    exact absurd q (nt.1 _)
  · exact (h b e).trans q
theorem Gr.more {a : Addr} (g : Gr K ρ H ρ H') : Gr K ρ H (ρ ++ [a]) H' := ⟨fun n x h => get_app h, g.tup⟩
theorem Grow.at {a : Addr} (h : ∀ b, b ≠ a → H' b = H b) (nt : NoTup (H a)) (ha : a ∈ ρ ∨ H a = none) : Grow K ρ H ρ H' :=
  ⟨Gr.at h nt, fun _ z => .inl z, fun b o h1 h2 => by
    have ne : b ≠ a := fun z => by
      rcases ha with q | q
      · exact h1 (z ▸ q)
      · rw [z, q] at h2; cases h2
    rw [h b ne]
    exact h2⟩
theorem Grow.more {a : Addr} (g : Grow K ρ H ρ H') (ha : a ∈ ρ ∨ H a = none) : Grow K ρ H (ρ ++ [a]) H' := ⟨g.toGr.more, fun b hb => by
    rcases List.mem_append.mp hb with z | z
    · exact .inl z
    · rw [List.mem_singleton.mp z]; exact ha, g.keep⟩
theorem Grow.drop (g : Grow K ρ H ρ' H') (hn : ρ.length ≤ ρ'.length) : Grow K ρ H (ρ'.take ρ.length) H' :=
  ⟨⟨fun n x h => take_get (g.pre n x h) (lt_of_get h), g.tup⟩, fun b hb => g.fresh b (List.mem_of_mem_take hb), g.keep⟩

theorem kP_rf (k : Key) : (kP k).rf = true := by cases k <;> (unfold kP PV.rf PV.blw; rfl)
theorem kPs_rf (ks : List Key) : (kPs ks).rf = true := by
  show PV.blw 0 (.tup (ks.map kP)) = true
  unfold PV.blw
  induction ks with
  | nil => unfold PV.blws; rfl
  | cons k ks ih =>
    rw [List.map_cons]
    unfold PV.blws
    rw [ih, show PV.blw 0 (kP k) = true from kP_rf k]
    rfl
theorem KR.blw {κ : Type} {f : κ → PV} (hf : ∀ k, (f k).rf = true) : ∀ {ps : List (PV × PV)} {l : List (κ × V)}, KR f K ρ H ps l → blwKV ρ.length ps = true
  | [], _, _ => rfl
  | p :: ps, _, h => by
    obtain ⟨a, v, r, _, e2, e3, e4⟩ := h
    unfold blwKV
    rw [e2, PV.blw_mono (Nat.zero_le _) _ (hf a), e3.blw _ _, KR.blw hf e4]
    rfl
theorem KR.cut {κ : Type} {f : κ → PV} (m : Nat) : ∀ {ps : List (PV × PV)} {l : List (κ × V)}, KR f K ρ H ps l → blwKV m ps = true → KR f K (ρ.take m) H ps l
  | [], _, h, _ => h
  | p :: ps, _, h, b => by
    obtain ⟨a, v, r, e1, e2, e3, e4⟩ := h
    unfold blwKV at b
    obtain ⟨_, b2⟩ := Bool.and_eq_true_iff.mp b
    obtain ⟨b3, b4⟩ := Bool.and_eq_true_iff.mp b2
    exact ⟨a, v, r, e1, e2, e3.cut m _ _ b3, KR.cut m e4 b4⟩
theorem RO.mo (k : Gr K ρ H ρ' H') {o : GO} {a : Addr} (h : RO K ρ H o a) (e : H' a = H a) : RO K ρ' H' o a := by
  cases o with
  | lst xs =>
    obtain ⟨vs, q, r⟩ := h
    exact ⟨vs, e.trans q, r.mo k _ _⟩
  | fix xs =>
    obtain ⟨vs, q, r⟩ := h
    exact ⟨vs, Rd.same q e, r.mo k _ _⟩
  | dct t kvs =>
    cases t with
    | false =>
      obtain ⟨l, q, r⟩ := h
      exact ⟨l, e.trans q, r.mo k⟩
    | true =>
      obtain ⟨l, q, r⟩ := h
      exact ⟨l, e.trans q, r.mo k⟩
  | ins _ _ => exact h.elim
theorem RO.mono (k : Grow K ρ H ρ' H') {o : GO} {a : Addr} (h : RO K ρ H o a) (e : H' a = H a) : RO K ρ' H' o a := h.mo k.toGr e
theorem RO.blw {o : GO} {a : Addr} (h : RO K ρ H o a) : o.blw ρ.length = true := by
  cases o with
  | lst xs =>
    obtain ⟨vs, q, r⟩ := h
    exact r.blw _ _
  | fix xs =>
    obtain ⟨vs, q, r⟩ := h
    exact r.blw _ _
  | dct t kvs =>
    cases t with
    | false =>
      obtain ⟨l, q, r⟩ := h
      exact r.blw kP_rf
    | true =>
      obtain ⟨l, q, r⟩ := h
      exact r.blw kPs_rf
  | ins _ _ => exact h.elim
theorem RO.cut {o : GO} {a : Addr} (m : Nat) (h : RO K ρ H o a) (b : o.blw m = true) : RO K (ρ.take m) H o a := by
  cases o with
  | lst xs =>
    obtain ⟨vs, q, r⟩ := h
    exact ⟨vs, q, r.cut m _ _ b⟩
  | fix xs =>
    obtain ⟨vs, q, r⟩ := h
    exact ⟨vs, q, r.cut m _ _ b⟩
  | dct t kvs =>
    cases t with
    | false =>
      obtain ⟨l, q, r⟩ := h
      exact ⟨l, q, r.cut m b⟩
    | true =>
      obtain ⟨l, q, r⟩ := h
      exact ⟨l, q, r.cut m b⟩
  | ins _ _ => exact h.elim
theorem blwKV_mono {m n : Nat} (h : m ≤ n) : ∀ l : List (PV × PV), blwKV m l = true → blwKV n l = true
  | [], _ => rfl
  | p :: ps, b => by
    unfold blwKV at b ⊢
    obtain ⟨b1, b2⟩ := Bool.and_eq_true_iff.mp b
    obtain ⟨b3, b4⟩ := Bool.and_eq_true_iff.mp b2
    rw [PV.blw_mono h _ b1, PV.blw_mono h _ b3, blwKV_mono h ps b4]
    rfl
theorem blwF_mono {m n : Nat} (h : m ≤ n) : ∀ l : List (Sg × PV), blwF m l = true → blwF n l = true
  | [], _ => rfl
  | p :: ps, b => by
    unfold blwF at b ⊢
    obtain ⟨b1, b2⟩ := Bool.and_eq_true_iff.mp b
    rw [PV.blw_mono h _ b1, blwF_mono h ps b2]
    rfl
theorem GO.blw_mono {m n : Nat} (h : m ≤ n) {o : GO} (b : o.blw m = true) : o.blw n = true := by
  cases o with
  | lst xs => exact PV.blws_mono h xs b
  | fix xs => exact PV.blws_mono h xs b
  | dct _ l => exact blwKV_mono h l b
  | ins _ l => exact blwF_mono h l b

theorem Rel.adr (R : Rel K B ρ s H) {n : Nat} {o : GO} (h : s.g[n]? = some o) : ∃ a, ρ[n]? = some a ∧ RO K ρ H o a := by
  have l := lt_of_get h
  rw [← R.len] at l
  exact ⟨ρ[n], List.getElem?_eq_getElem l, R.ob n o _ h (List.getElem?_eq_getElem l)⟩
theorem Rel.sep (R : Rel K B ρ s H) {n m : Nat} {a : Addr} (h : ρ[n]? = some a) (h' : ρ[m]? = some a) : n = m := by
  have l1 := lt_of_get h
  have l2 := lt_of_get h'
  rw [List.getElem?_eq_getElem l1] at h
  rw [List.getElem?_eq_getElem l2] at h'
  have e := (Option.some.inj h).trans (Option.some.inj h').symm
  have w := List.pairwise_iff_getElem.mp R.nd
  rcases Nat.lt_trichotomy n m with z | z | z
  · exact absurd e (w n m l1 l2 z)
  · exact z
  · exact absurd e.symm (w m n l2 l1 z)
theorem Rel.live (R : Rel K B ρ s H) {n : Nat} {a : Addr} (h : ρ[n]? = some a) : ∃ o, s.g[n]? = some o ∧ RO K ρ H o a := by
  have l := lt_of_get h
  rw [R.len] at l
  exact ⟨s.g[n], List.getElem?_eq_getElem l, R.ob n _ a (List.getElem?_eq_getElem l) h⟩

/-- nothing but places outside changed -/
theorem Rel.keep (R : Rel K B ρ s H) (h : ∀ (n : Nat) (a : Addr), ρ[n]? = some a → H' a = H a) (g : Grow K ρ H ρ H') : Rel K B ρ s H' :=
  ⟨R.len, R.nd, R.lo, fun n o a h1 h2 => (R.ob n o a h1 h2).mono g (h n a h2), R.cl⟩
/-- a new object -/
theorem Rel.push (R : Rel K B ρ s H) {p : Addr} {ho : HO} {o : GO} (hp : p ∉ ρ) (hn : NoTup (H p)) (new : RO K (ρ ++ [p]) (upd H p ho) o p) : Rel K B (ρ ++ [p]) (s.push o) (upd H p ho) where
  len := by show (ρ ++ [p]).length = (s.g ++ [o]).length; rw [List.length_append, List.length_append, R.len]; rfl
  nd := by
    rw [List.nodup_append]
    refine ⟨R.nd, by simp, fun a ha b hb => ?_⟩
    rw [List.mem_singleton.mp hb]
    intro z
    exact hp (z ▸ ha)
  lo := Nat.le_trans R.lo (by show s.g.length ≤ (s.g ++ [o]).length; rw [List.length_append]; exact Nat.le_add_right _ _)
  ob := fun n o' a h1 h2 => by
    have h1 : (s.g ++ [o])[n]? = some o' := h1
    by_cases e : n < s.g.length
    · rw [List.getElem?_append_left e] at h1
      rw [List.getElem?_append_left (by rw [R.len]; exact e)] at h2
      have ne : a ≠ p := fun z => hp (z ▸ List.mem_of_getElem? h2)
      exact (R.ob n o' a h1 h2).mo (Gr.more (Gr.at (a := p) (fun b hb => upd_ne hb) hn)) (upd_ne ne)
    · have l := lt_of_get h1
      rw [List.length_append] at l
      have e2 : n = s.g.length := by simp at l; omega
      subst e2
      rw [get_end] at h1
      rw [← R.len, get_end] at h2
      cases h1
      cases h2
      exact new
  cl := fun n o' b h1 h2 h3 => by
    have h2 : (s.g ++ [o])[n]? = some o' := h2
    have h1 : n < s.lo := h1
    rw [List.getElem?_append_left (Nat.lt_of_lt_of_le h1 R.lo)] at h2
    exact R.cl n o' b h1 h2 h3
/-- an object changes -/
theorem Rel.wr (R : Rel K B ρ s H) {n : Nat} {a : Addr} {o o' : GO} {cl : Bool} (h : s.g[n]? = some o) (ha : ρ[n]? = some a) (hk : ∀ b, b ≠ a → H' b = H b) (nt : NoTup (H a))
    (new : RO K ρ H' o' a) (hc : cl = true → ∀ b, o.blw b = true → o'.blw b = true) : Rel K B ρ (s.wr n o' cl) H' where
  len := by show ρ.length = (s.g.set n o').length; rw [List.length_set]; exact R.len
  nd := R.nd
  lo := by
    show (if cl = true then s.lo else min s.lo n) ≤ (s.g.set n o').length
    rw [List.length_set]
    split
    · exact R.lo
    · exact Nat.le_trans (Nat.min_le_left _ _) R.lo
  ob := fun m u b h1 h2 => by
    have h1 : (s.g.set n o')[m]? = some u := h1
    rw [List.getElem?_set] at h1
    by_cases e : n = m
    · subst e
      rw [if_pos rfl, if_pos (lt_of_get h)] at h1
      cases h1
      rw [ha] at h2
      cases h2
      exact new
    · rw [if_neg e] at h1
      have ne : b ≠ a := fun z => e (R.sep ha (z ▸ h2))
      exact (R.ob m u b h1 h2).mo (Gr.at hk nt) (hk b ne)
  cl := fun m u b h1 h2 h3 => by
    have h2 : (s.g.set n o')[m]? = some u := h2
    have h1 : m < (if cl = true then s.lo else min s.lo n) := h1
    rw [List.getElem?_set] at h2
    by_cases e : n = m
    · subst e
      rw [if_pos rfl, if_pos (lt_of_get h)] at h2
      cases h2
      cases cl with
      | true => exact hc rfl b (R.cl n o b h1 h h3)
      | false =>
        have : n < min s.lo n := h1
        omega
    · rw [if_neg e] at h2
      refine R.cl m u b ?_ h2 h3
      cases cl with
      | true => exact h1
      | false =>
        have : m < min s.lo n := h1
        omega

/-! ### within: what was there at the entry -/
def inB (B : Nat → Option Nat) (s : S) : Nat → Option Nat := fun i =>
  if i < s.lo then (match B i with
    | some b => some (min b s.size)
    | none => some s.size) else some s.size
theorem Rel.enter (R : Rel K B ρ s H) : Rel K (inB B s) ρ ⟨s.g, s.size⟩ H where
  len := R.len
  nd := R.nd
  lo := Nat.le_refl _
  ob := R.ob
  cl := fun n o b h1 h2 h3 => by
    obtain ⟨a, _, ro⟩ := R.adr h2
    have bl : o.blw s.size = true := by
      have := ro.blw
      rw [R.len] at this
      exact this
    unfold inB at h3
    by_cases e : n < s.lo
    · rw [if_pos e] at h3
      cases q : B n with
      | none => rw [q] at h3; cases h3; exact bl
      | some c =>
        rw [q] at h3
        cases h3
        rcases Nat.le_total c s.size with hl | hl
        · rw [Nat.min_eq_left hl]; exact R.cl n o c e h2 q
        · rw [Nat.min_eq_right hl]; exact bl
    · rw [if_neg e] at h3
      cases h3
      exact bl
theorem inB_le {B : Nat → Option Nat} {s : S} (n : Nat) : ∃ c, inB B s n = some c ∧ c ≤ s.size ∧ ∀ b, n < s.lo → B n = some b → c ≤ b := by
  unfold inB
  by_cases e : n < s.lo
  · rw [if_pos e]
    cases q : B n with
    | none => exact ⟨s.size, rfl, Nat.le_refl _, fun b _ h => by cases h⟩
    | some c => exact ⟨min c s.size, rfl, Nat.min_le_right _ _, fun b _ h => by cases h; exact Nat.min_le_left _ _⟩
  · rw [if_neg e]
    exact ⟨s.size, rfl, Nat.le_refl _, fun b h _ => absurd h e⟩
/-- out again, with all that was made -/
theorem Rel.leave {s0 : S} (R : Rel K (inB B s0) ρ s H) : Rel K B ρ ⟨s.g, min s0.lo s.lo⟩ H where
  len := R.len
  nd := R.nd
  lo := Nat.le_trans (Nat.min_le_right _ _) R.lo
  ob := R.ob
  cl := fun n o b h1 h2 h3 => by
    have h1 : n < min s0.lo s.lo := h1
    obtain ⟨c, e, _, l⟩ := inB_le (B := B) (s := s0) n
    exact GO.blw_mono (l b (by omega) h3) (R.cl n o c (by omega) h2 e)
theorem Rel.leaveLo {s0 : S} (R : Rel K (inB B s0) ρ s H) (h : s0.lo ≤ s.lo) : Rel K B ρ ⟨s.g, s0.lo⟩ H := by
  have q := R.leave (s0 := s0)
  rw [Nat.min_eq_left h] at q
  exact q
/-- out again, without what was made -/
theorem Rel.cut {s0 : S} (R : Rel K (inB B s0) ρ s H) (hl : s0.lo ≤ s0.size) (hs : s0.size ≤ s.lo) : Rel K B (ρ.take s0.size) ⟨s.g.take s0.size, s0.lo⟩ H where
  len := by show (ρ.take s0.size).length = (s.g.take s0.size).length; rw [List.length_take, List.length_take, R.len]
  nd := R.nd.sublist (List.take_sublist _ _)
  lo := by
    show s0.lo ≤ (s.g.take s0.size).length
    have := R.lo
    rw [List.length_take]
    omega
  ob := fun n o a h1 h2 => by
    obtain ⟨h1', l⟩ := get_take h1
    obtain ⟨h2', _⟩ := get_take h2
    obtain ⟨c, e, hc, _⟩ := inB_le (B := B) (s := s0) n
    exact (R.ob n o a h1' h2').cut _ (GO.blw_mono hc (R.cl n o c (Nat.lt_of_lt_of_le l hs) h1' e))
  cl := fun n o b h1 h2 h3 => by
    obtain ⟨h2', l⟩ := get_take h2
    obtain ⟨c, e, _, hb⟩ := inB_le (B := B) (s := s0) n
    exact GO.blw_mono (hb b h1 h3) (R.cl n o c (Nat.lt_of_lt_of_le l hs) h2' e)
/-- out again, with one object alone -/
theorem Rel.cutOne {s0 : S} (R : Rel K (inB B s0) ρ s H) (hl : s0.lo ≤ s0.size) (hs : s0.size ≤ s.lo) {m : Nat} {a : Addr} {o : GO} (hm : s0.size ≤ m) (h1 : s.g[m]? = some o) (h2 : ρ[m]? = some a) (hb : o.blw s0.size = true) :
    Rel K B (ρ.take s0.size ++ [a]) ⟨s.g.take s0.size ++ [o], s0.lo⟩ H := by
  have Q := R.cut hl hs
  have na : a ∉ ρ.take s0.size := fun z => by
    obtain ⟨i, hi⟩ := List.mem_iff_getElem?.mp z
    obtain ⟨hi', l⟩ := get_take hi
    have := R.sep hi' h2
    omega
  refine ⟨?_, ?_, ?_, ?_, ?_⟩
  · show (ρ.take s0.size ++ [a]).length = (s.g.take s0.size ++ [o]).length
    rw [List.length_append, List.length_append]
    have := Q.len
    simp only [] at this
    rw [this]
    rfl
  · rw [List.nodup_append]
    refine ⟨Q.nd, by simp, fun x hx y hy => ?_⟩
    rw [List.mem_singleton.mp hy]
    intro z
    exact na (z ▸ hx)
  · exact Nat.le_trans Q.lo (by show (s.g.take s0.size).length ≤ (s.g.take s0.size ++ [o]).length; rw [List.length_append]; exact Nat.le_add_right _ _)
  · intro n u b g1 g2
    have g1 : (s.g.take s0.size ++ [o])[n]? = some u := g1
    have lq : (ρ.take s0.size).length = (s.g.take s0.size).length := Q.len
    by_cases e : n < (s.g.take s0.size).length
    · rw [List.getElem?_append_left e] at g1
      rw [List.getElem?_append_left (by rw [lq]; exact e)] at g2
      exact (Q.ob n u b g1 g2).mo (Gr.more Gr.refl) rfl
    · have l := lt_of_get g1
      rw [List.length_append] at l
      have e2 : n = (s.g.take s0.size).length := by simp at l ⊢; simp at e; omega
      subst e2
      rw [get_end] at g1
      rw [← lq, get_end] at g2
      cases g1
      cases g2
      exact ((R.ob m _ _ h1 h2).cut _ hb).mo (Gr.more Gr.refl) rfl
  · intro n u b g0 g1 g2
    have g1 : (s.g.take s0.size ++ [o])[n]? = some u := g1
    have g0 : n < s0.lo := g0
    rw [List.getElem?_append_left (Nat.lt_of_lt_of_le g0 Q.lo)] at g1
    exact Q.cl n u b g0 g1 g2

/-! ### slots -/
theorem RS.mono (r : RS K ρ H e σ) (g : Grow K ρ H ρ' H') : RS K ρ' H' e σ :=
  ⟨r.len, fun i p h => by
    obtain ⟨v, a, b⟩ := r.val i p h
    exact ⟨v, a, b.mono g _ _⟩⟩
theorem RS.set (r : RS K ρ H e σ) (i : Nat) {p : PV} {v : V} (h : RV K ρ H p v) : RS K ρ H (e.set i (some p)) (σ.set i (some v)) :=
  ⟨by rw [List.length_set, List.length_set]; exact r.len, fun j q hq => by
    rw [List.getElem?_set] at hq ⊢
    by_cases z : i = j
    · subst z
      rw [if_pos rfl] at hq ⊢
      by_cases l : i < e.length
      · rw [if_pos l] at hq
        rw [if_pos (by rw [← r.len]; exact l)]
        cases hq
        exact ⟨v, rfl, h⟩
      · rw [if_neg l] at hq
        cases hq
    · rw [if_neg z] at hq ⊢
      exact r.val j q hq⟩
theorem wipeE_length (e : Env) : ∀ is : List Nat, (wipeE e is).length = e.length
  | [] => rfl
  | i :: is => by unfold wipeE; rw [List.length_set]; exact wipeE_length e is
theorem wipeE_get {e : Env} : ∀ {is : List Nat} {j : Nat} {p : PV}, (wipeE e is)[j]? = some (some p) → e[j]? = some (some p) ∧ j ∉ is
  | [], _, _, h => ⟨h, fun z => nomatch z⟩
  | i :: is, j, p, h => by
    unfold wipeE at h
    rw [List.getElem?_set] at h
    by_cases z : i = j
    · subst z
      rw [if_pos rfl] at h
      split at h <;> cases h
    · rw [if_neg z] at h
      obtain ⟨a, b⟩ := wipeE_get h
      exact ⟨a, fun q => by
        rcases List.mem_cons.mp q with q | q
        · exact z q.symm
        · exact b q⟩
theorem RS.wipe (r : RS K ρ H e σ) (is : List Nat) : RS K ρ H (wipeE e is) σ :=
  ⟨by rw [wipeE_length]; exact r.len, fun j p h => r.val j p (wipeE_get h).1⟩
theorem envBlw_get {n : Nat} : ∀ {e : Env} {i : Nat} {p : PV}, envBlw n e = true → e[i]? = some (some p) → p.blw n = true
  | [], _, _, _, h => by simp at h
  | none :: e, 0, _, _, h => by simp at h
  | none :: e, i + 1, p, b, h => envBlw_get (e := e) (i := i) (by unfold envBlw at b; exact b) (by simpa using h)
  | some v :: e, 0, p, b, h => by
    simp at h
    subst h
    unfold envBlw at b
    exact (Bool.and_eq_true_iff.mp b).1
  | some v :: e, i + 1, p, b, h => envBlw_get (e := e) (i := i) (by unfold envBlw at b; exact (Bool.and_eq_true_iff.mp b).2) (by simpa using h)
theorem RS.cut (r : RS K ρ H e σ) {n : Nat} (b : envBlw n e = true) : RS K (ρ.take n) H e σ :=
  ⟨r.len, fun i p h => by
    obtain ⟨v, a, q⟩ := r.val i p h
    exact ⟨v, a, q.cut n _ _ (envBlw_get b h)⟩⟩
end
end Ev

set_option linter.all false
set_option autoImplicit false
set_option maxRecDepth 100000
/-! Ev5: readings by the evaluator. -/
namespace Ev
open PySem PySem.Spec PyProof.Rows L2

section
variable (K : PySem.W.Frag)
def tE (f : Env → S → Option (PV × S)) : TE := fun σ H Q => ∃ B ρ e s, Rel K B ρ s H ∧ RS K ρ H e σ ∧ ∃ v s', f e s = some (v, s') ∧
  ∀ ρ' H' u, Rel K B ρ' s' H' → Grow K ρ H ρ' H' → RV K ρ' H' v u → Q u H'
def tT (f : Env → S → Option (PV × S)) : TT := fun σ H Q => ∃ B ρ e s, Rel K B ρ s H ∧ RS K ρ H e σ ∧ ∃ b s', f e s = some (.bl b, s') ∧
  ∀ ρ' H', Rel K B ρ' s' H' → Grow K ρ H ρ' H' → Q b H'
def tA (f : Env → S → Option (List PV × S)) : TA := fun σ H Q => ∃ B ρ e s, Rel K B ρ s H ∧ RS K ρ H e σ ∧ ∃ vs s', f e s = some (vs, s') ∧
  ∀ ρ' H' us, Rel K B ρ' s' H' → Grow K ρ H ρ' H' → RVs K ρ' H' vs us → Q us H'
/-- by values -/
def r2 (op : PV → PV → S → Option (PV × S)) : R2 := fun x y H Q => ∃ B ρ s p q v s', Rel K B ρ s H ∧ RV K ρ H p x ∧ RV K ρ H q y ∧ op p q s = some (v, s') ∧
  ∀ ρ' H' u, Rel K B ρ' s' H' → Grow K ρ H ρ' H' → RV K ρ' H' v u → Q u H'
def rN (op : List PV → S → Option (PV × S)) : List V → Hp → VK → Prop := fun xs H Q => ∃ B ρ s ps v s', Rel K B ρ s H ∧ RVs K ρ H ps xs ∧ op ps s = some (v, s') ∧
  ∀ ρ' H' u, Rel K B ρ' s' H' → Grow K ρ H ρ' H' → RV K ρ' H' v u → Q u H'
end

section
variable {K : PySem.W.Frag} {B : Nat → Option Nat} {ρ ρ' : List Addr} {H H' : Hp} {s s' : S} {e : Env} {σ : L2.St} {p : Addr}

theorem PE.imp {X : Cx} {e : Expr} {t t' : TE} (h : PE X e t) (w : ∀ σ H Q, t' σ H Q → t σ H Q) : PE X e t' := ⟨fun pins s σ H Q I q => h.run pins s σ H Q I (w σ H Q q)⟩
theorem PT.imp {X : Cx} {e : Expr} {t t' : TT} (h : PT X e t) (w : ∀ σ H Q, t' σ H Q → t σ H Q) : PT X e t' := ⟨fun pins s σ H Q I q => h.run pins s σ H Q I (w σ H Q q)⟩
theorem PA.imp {X : Cx} {e : List Expr} {t t' : TA} (h : PA X e t) (w : ∀ σ H Q, t' σ H Q → t σ H Q) : PA X e t' := ⟨fun pos pins s σ H Q I q => h.run pos pins s σ H Q I (w σ H Q q)⟩
theorem PS.imp {X : Cx} {e : Stmt} {t t' : TS} (h : PS X e t) (w : ∀ D σ H, t' D σ H → t D σ H) : PS X e t' := ⟨fun pins s σ H D I q => h.run pins s σ H D I (w D σ H q)⟩
theorem PSs.imp {X : Cx} {e : List Stmt} {t t' : TS} (h : PSs X e t) (w : ∀ D σ H, t' D σ H → t D σ H) : PSs X e t' := ⟨fun pins s σ H D I q => h.run pins s σ H D I (w D σ H q)⟩

theorem RO.some {o : GO} {a : Addr} (h : RO K ρ H o a) : ∃ x, H a = some x := by
  cases o with
  | lst xs =>
    obtain ⟨vs, q, r⟩ := h
    exact ⟨_, q⟩
  | fix xs =>
    obtain ⟨vs, q, r⟩ := h
    rcases q with q | ⟨o, q⟩
    · exact ⟨_, q⟩
    · exact ⟨_, q⟩
  | dct t kvs =>
    cases t with
    | false =>
      obtain ⟨l, q, r⟩ := h
      exact ⟨_, q⟩
    | true =>
      obtain ⟨l, q, r⟩ := h
      exact ⟨_, q⟩
  | ins _ _ => exact h.elim
theorem Rel.fresh (R : Rel K B ρ s H) (h : H p = none) : p ∉ ρ := fun z => by
  obtain ⟨i, hi⟩ := List.mem_iff_getElem?.mp z
  obtain ⟨o, _, ro⟩ := R.live hi
  obtain ⟨x, e⟩ := ro.some
  rw [h] at e
  cases e
theorem noTup (h : H p = none) : NoTup (H p) := by rw [h]; exact NoTup.none
/-- a new list -/
theorem Rel.newL (R : Rel K B ρ s H) (h : H p = none) {xs : List PV} {vs : List V} (r : RVs K ρ H xs vs) : Rel K B (ρ ++ [p]) (s.push (.lst xs)) (upd H p (.lst vs)) :=
  R.push (R.fresh h) (noTup h) ⟨vs, upd_same, r.mo (Gr.more (Gr.at (a := p) (fun b hb => upd_ne hb) (noTup h))) _ _⟩
theorem Grow.new {ho : HO} (h : H p = none) : Grow K ρ H (ρ ++ [p]) (upd H p ho) := Grow.more (Grow.at (a := p) (fun b hb => upd_ne hb) (noTup h) (.inr h)) (.inr h)
theorem Grow.new0 {ho : HO} (h : H p = none) : Grow K ρ H ρ (upd H p ho) := Grow.at (a := p) (fun b hb => upd_ne hb) (noTup h) (.inr h)
theorem Rel.end (R : Rel K B ρ s H) : RV K (ρ ++ [p]) H' (.ref s.size) (.ref p) := by
  unfold RV
  refine ⟨p, rfl, ?_⟩
  show (ρ ++ [p])[s.g.length]? = some p
  rw [← R.len]
  exact get_end
/-- a new tuple -/
theorem Rel.newT (R : Rel K B ρ s H) (h : H p = none) {vs : List V} : Rel K B ρ s (upd H p (.tup vs)) :=
  R.keep (fun n a ha => upd_ne fun z => R.fresh h (z ▸ List.mem_of_getElem? ha)) (Grow.new0 h)
theorem RV.newT (h : H p = none) {xs : List PV} {vs : List V} (r : RVs K ρ H xs vs) : RV K ρ (upd H p (.tup vs)) (.tup xs) (.ref p) := by
  unfold RV
  exact ⟨p, vs, rfl, upd_same, r.mono (Grow.new0 h) _ _⟩

theorem rv_int {i : Int} {v : V} (h : RV K ρ H (.int i) v) : v = .int i := by unfold RV at h; exact h
theorem rv_bl {i : Bool} {v : V} (h : RV K ρ H (.bl i) v) : v = .bl i := by unfold RV at h; exact h
theorem rv_str {i : Sg} {v : V} (h : RV K ρ H (.str i) v) : v = .str ⟨⟨i⟩⟩ := by unfold RV at h; exact h
theorem rv_non {v : V} (h : RV K ρ H .non v) : v = .non := by unfold RV at h; exact h
theorem rv_tupH {xs : List PV} {v : V} (h : RV K ρ H (.tup xs) v) : ∃ a vs, v = .ref a ∧ H a = some (.tup vs) ∧ RVs K ρ H xs vs := by unfold RV at h; exact h
theorem rv_tup {xs : List PV} {v : V} (h : RV K ρ H (.tup xs) v) : ∃ a vs, v = .ref a ∧ SqT K H a vs ∧ RVs K ρ H xs vs := by
  obtain ⟨a, vs, e, q, r⟩ := rv_tupH h
  exact ⟨a, vs, e, SqT.of q, r⟩
theorem rv_ref {n : Nat} {v : V} (h : RV K ρ H (.ref n) v) : ∃ a, v = .ref a ∧ ρ[n]? = some a := by unfold RV at h; exact h
theorem rv_int' (i : Int) : RV K ρ H (.int i) (.int i) := by unfold RV; rfl
theorem rv_bl' (i : Bool) : RV K ρ H (.bl i) (.bl i) := by unfold RV; rfl
theorem rv_str' (i : Sg) : RV K ρ H (.str i) (.str ⟨⟨i⟩⟩) := by unfold RV; rfl
theorem rv_non' : RV K ρ H .non .non := by unfold RV; rfl
/-- a list, read -/
theorem Rel.list (R : Rel K B ρ s H) {n : Nat} {xs : List PV} {v : V} (h : lstAt s n = some xs) (r : RV K ρ H (.ref n) v) : ∃ a vs, v = .ref a ∧ ρ[n]? = some a ∧ SqL K H a vs ∧ RVs K ρ H xs vs := by
  obtain ⟨a, e, ha⟩ := rv_ref r
  unfold lstAt at h
  cases q : s.g[n]? with
  | none => rw [q] at h; cases h
  | some o =>
    rw [q] at h
    have ro := R.ob n o a q ha
    cases o with
    | lst ys =>
      cases h
      obtain ⟨vs, h1, h2⟩ := ro
      exact ⟨a, vs, e, ha, SqL.of h1, h2⟩
    | fix ys =>
      cases h
      obtain ⟨vs, h1, h2⟩ := ro
      exact ⟨a, vs, e, ha, .inl h1, h2⟩
    | dct _ _ => cases h
    | ins _ _ => cases h
theorem Rel.lst (R : Rel K B ρ s H) {n : Nat} {xs : List PV} {v : V} (h : s.g[n]? = some (.lst xs)) (r : RV K ρ H (.ref n) v) : ∃ a vs, v = .ref a ∧ ρ[n]? = some a ∧ H a = some (.lst vs) ∧ RVs K ρ H xs vs := by
  obtain ⟨a, e, ha⟩ := rv_ref r
  obtain ⟨vs, h1, h2⟩ := R.ob n _ a h ha
  exact ⟨a, vs, e, ha, h1, h2⟩
theorem Rel.seq (R : Rel K B ρ s H) {p : PV} {xs : List PV} {v : V} (h : seqOf s p = some xs) (r : RV K ρ H p v) : ∃ a vs, v = .ref a ∧ (SqL K H a vs ∨ SqT K H a vs) ∧ RVs K ρ H xs vs := by
  cases p with
  | tup ys =>
    cases h
    obtain ⟨a, vs, e, q, w⟩ := rv_tup r
    exact ⟨a, vs, e, .inr q, w⟩
  | ref n =>
    obtain ⟨a, vs, e, _, q, w⟩ := R.list h r
    exact ⟨a, vs, e, .inl q, w⟩
  | _ => cases h

theorem Rel.seqH (R : Rel K B ρ s H) {p : PV} {xs : List PV} {v : V} (h : seqOf s p = some xs) (r : RV K ρ H p v) : ∃ a vs, v = .ref a ∧ (SqL K H a vs ∨ H a = some (.tup vs)) ∧ RVs K ρ H xs vs := by
  cases p with
  | tup ys =>
    cases h
    obtain ⟨a, vs, e, q, w⟩ := rv_tupH r
    exact ⟨a, vs, e, .inr q, w⟩
  | ref n =>
    obtain ⟨a, vs, e, _, q, w⟩ := R.list h r
    exact ⟨a, vs, e, .inl q, w⟩
  | _ => cases h

/-! ### two in a row -/
theorem tE_op {fa fb : Env → S → Option (PV × S)} {op : PV → PV → S → Option (PV × S)} {Q : VK}
    (h : tE K (fun e s => match fa e s with
      | none => none
      | some r => match fb e r.2 with
        | none => none
        | some q => op r.1 q.1 q.2) σ H Q) : tOp (r2 K op) (tE K fa) (tE K fb) σ H Q := by
  obtain ⟨B, ρ, e, s, R, rs, v, s', h, k⟩ := h
  cases q1 : fa e s with
  | none => simp only [q1] at h; cases h
  | some r1 =>
    simp only [q1] at h
    cases q2 : fb e r1.2 with
    | none => simp only [q2] at h; cases h
    | some r2 =>
      simp only [q2] at h
      refine ⟨B, ρ, e, s, R, rs, r1.1, r1.2, q1, fun ρ1 H1 u1 R1 G1 v1 => ⟨B, ρ1, e, r1.2, R1, rs.mono G1, r2.1, r2.2, q2, fun ρ2 H2 u2 R2 G2 v2 => ?_⟩⟩
      exact ⟨B, ρ2, r2.2, r1.1, r2.1, v, s', R2, v1.mono G2 _ _, v2, h, fun ρ3 H3 u R3 G3 v3 => k ρ3 H3 u R3 ((G1.trans G2).trans G3) v3⟩
theorem Grow.one (g : Grow K ρ H ρ' H') {a : Addr} (ha : a ∈ ρ ∨ H a = none) : Grow K ρ H (ρ' ++ [a]) H' := ⟨⟨fun n x h => get_app (g.pre n x h), g.tup⟩, fun b hb => by
    rcases List.mem_append.mp hb with z | z
    · exact g.fresh b z
    · rw [List.mem_singleton.mp z]; exact ha, g.keep⟩
/-- what was made goes: the value and the state behind -/
theorem tidy_ok {s0 : S} (R0 : Rel K B ρ s0 H) {ρ1 : List Addr} {H1 : Hp} {s1 : S} {v : PV} {u : V} (R1 : Rel K (inB B s0) ρ1 s1 H1) (G : Grow K ρ H ρ1 H1) (r : RV K ρ1 H1 v u) :
    ∃ ρ2, Rel K B ρ2 (tidy s0.size s0.lo v s1).2 H1 ∧ Grow K ρ H ρ2 H1 ∧ RV K ρ2 H1 (tidy s0.size s0.lo v s1).1 u := by
  have hl : s0.lo ≤ s0.size := R0.lo
  have el : ρ.length = s0.size := R0.len
  have le : ρ.length ≤ ρ1.length := by
    rcases Nat.lt_or_ge ρ1.length ρ.length with z | z
    · have hz : ρ1.length < ρ.length := z
      have g := G.pre ρ1.length _ (List.getElem?_eq_getElem hz)
      have := lt_of_get g
      omega
    · exact z
  have Gt : Grow K ρ H (ρ1.take s0.size) H1 := by
    have := G.drop le
    rw [el] at this
    exact this
  unfold tidy
  by_cases c : s0.size ≤ s1.lo
  · rw [if_pos c]
    by_cases d : v.blw s0.size = true
    · rw [if_pos d]
      exact ⟨_, R1.cut hl c, Gt, r.cut _ _ _ d⟩
    · rw [if_neg d]
      have fallback : ∃ ρ2, Rel K B ρ2 (v, (⟨s1.g, s0.lo⟩ : S)).2 H1 ∧ Grow K ρ H ρ2 H1 ∧ RV K ρ2 H1 (v, (⟨s1.g, s0.lo⟩ : S)).1 u := ⟨ρ1, R1.leaveLo (Nat.le_trans hl c), G, r⟩
      cases v with
      | ref m =>
        obtain ⟨a, eu, ha⟩ := rv_ref r
        have hm : s0.size ≤ m := by
          rcases Nat.lt_or_ge m s0.size with z | z
          · exact absurd (by unfold PV.blw; exact decide_eq_true z) d
          · exact z
        cases q : s1.g[m]? with
        | none => simp only [q]; exact fallback
        | some o =>
          cases o with
          | lst xs =>
            simp only [q]
            by_cases b : PV.blws s0.size xs = true
            · rw [if_pos b]
              have Q := R1.cutOne hl c hm q ha b
              refine ⟨_, Q, Gt.one (G.fresh a (List.mem_of_getElem? ha)), ?_⟩
              unfold RV
              refine ⟨a, eu, ?_⟩
              have l1 : (ρ1.take s0.size).length = s0.size := by rw [List.length_take]; omega
              show (ρ1.take s0.size ++ [a])[s0.size]? = some a
              have := get_end (l := ρ1.take s0.size) (x := a)
              rw [l1] at this
              exact this
            · rw [if_neg b]; exact fallback
          | dct t kvs =>
            simp only [q]
            by_cases b : blwKV s0.size kvs = true
            · rw [if_pos b]
              have Q := R1.cutOne hl c hm q ha b
              refine ⟨_, Q, Gt.one (G.fresh a (List.mem_of_getElem? ha)), ?_⟩
              unfold RV
              refine ⟨a, eu, ?_⟩
              have l1 : (ρ1.take s0.size).length = s0.size := by rw [List.length_take]; omega
              have := get_end (l := ρ1.take s0.size) (x := a)
              rw [l1] at this
              exact this
            · rw [if_neg b]; exact fallback
          | fix xs => simp only [q]; exact fallback
          | ins _ _ => simp only [q]; exact fallback
      | _ => exact fallback
  · rw [if_neg c]
    exact ⟨ρ1, R1.leave, G, r⟩
theorem tE_scp {f : Env → S → Option (PV × S)} {Q : VK} (h : tE K (fun e s => scp (f e) s) σ H Q) : tE K f σ H Q := by
  obtain ⟨B, ρ, e, s, R, rs, v, s', h, k⟩ := h
  unfold scp at h
  cases q : f e ⟨s.g, s.size⟩ with
  | none => simp only [q] at h; cases h
  | some r =>
    simp only [q] at h
    refine ⟨inB B s, ρ, e, ⟨s.g, s.size⟩, R.enter, rs, r.1, r.2, q, fun ρ' H' u R' G r' => ?_⟩
    obtain ⟨ρ2, R2, G2, r2⟩ := tidy_ok R R' G r'
    have eq := Option.some.inj h
    rw [eq] at R2 r2
    exact k ρ2 H' u R2 G2 r2
end
end Ev

set_option linter.all false
set_option autoImplicit false
set_option maxRecDepth 100000
/-! Ev6: operators. -/
namespace Ev
open PySem PySem.Spec PyProof.Rows L2

theorem line_eq : line = sizeLine := by rw [sizeLine_eq]; rfl
theorem str_len (x : Sg) : (⟨⟨x⟩⟩ : Str).length = x.length := rfl
theorem str_app (x y : Sg) : (⟨⟨x⟩⟩ : Str) ++ (⟨⟨y⟩⟩ : Str) = ⟨⟨x ++ y⟩⟩ := by
  show Str.mk ((⟨x⟩ : Array Nat) ++ (⟨y⟩ : Array Nat)) = _
  rw [List.append_toArray]
section
variable {X : Cx} {H : Hp}
theorem ite_some {α : Type} {c : Prop} [Decidable c] {x y : α} (h : (if c then some x else none) = some y) : c ∧ x = y := by
  by_cases e : c
  · rw [if_pos e] at h
    exact ⟨e, Option.some.inj h⟩
  · rw [if_neg e] at h
    cases h

theorem or_add : OpR X (binaryOp .Add) (r2 X.K (bop .add)) := by
  intro pins s σ H x y v u Q I rx ry h
  obtain ⟨B, ρ, t, p, q, w, t', R, hp, hq, h, k⟩ := h
  cases p with
  | int i =>
    cases q with
    | int j =>
      obtain rfl := rv_int hp
      obtain rfl := rv_int hq
      cases h
      exact op_add pins s σ H _ _ v u Q I rx ry ⟨i, j, rfl, rfl, k ρ H _ R Grow.refl (rv_int' _)⟩
    | _ => cases h
  | str a =>
    cases q with
    | str b =>
      obtain rfl := rv_str hp
      obtain rfl := rv_str hq
      obtain ⟨c, e⟩ := ite_some h
      cases e
      refine op_add_str pins s σ H _ _ v u Q I rx ry ⟨_, _, rfl, rfl, by rw [str_len, str_len, ← line_eq]; exact c, ?_⟩
      rw [str_app]
      exact k ρ H _ R Grow.refl (rv_str' _)
    | _ => cases h
  | tup a =>
    cases q with
    | tup b =>
      obtain ⟨pa, va, rfl, ta, ra⟩ := rv_tup hp
      obtain ⟨pb, vb, rfl, tb, rb⟩ := rv_tup hq
      obtain ⟨c, e⟩ := ite_some h
      cases e
      have la := ra.length
      have lb := rb.length
      refine op_catA pins s σ H _ _ v u Q I rx ry ⟨pa, pb, va, vb, rfl, rfl, ta, tb, by rw [← la, ← lb, ← line_eq]; exact c, fun e => ?_, fun e1 e2 => ?_, fun e1 e2 p hn => ?_⟩
      · subst e
        have : a = [] := List.eq_nil_of_length_eq_zero la
        subst this
        exact k ρ H _ R Grow.refl hq
      · subst e2
        have : b = [] := List.eq_nil_of_length_eq_zero lb
        subst this
        rw [List.append_nil] at k
        exact k ρ H _ R Grow.refl hp
      · exact k ρ _ _ (R.newT hn) (Grow.new0 hn) (RV.newT hn (ra.append rb))
    | _ => cases h
  | ref n =>
    cases q with
    | ref m =>
      unfold bop at h
      simp only [] at h
      cases q1 : t.g[n]? with
      | none => simp only [q1] at h; cases h
      | some o1 =>
        cases o1 with
        | lst xs =>
          cases q2 : t.g[m]? with
          | none => simp only [q1, q2] at h; cases h
          | some o2 =>
            cases o2 with
            | lst ys =>
              simp only [q1, q2] at h
              obtain ⟨a, va, rfl, ha, ea, ra⟩ := R.lst q1 hp
              obtain ⟨b, vb, rfl, hb, eb, rb⟩ := R.lst q2 hq
              by_cases c : xs.length + ys.length ≤ line
              · rw [if_pos c] at h
                cases h
                refine op_cat pins s σ H _ _ v u Q I rx ry ⟨a, b, va, vb, rfl, rfl, ea, eb, by rw [← ra.length, ← rb.length, ← line_eq]; exact c, fun p hn => ?_⟩
                exact k _ _ _ (R.newL hn (ra.append rb)) (Grow.new hn) R.end
              · rw [if_neg c] at h
                cases h
            | _ => simp only [q1, q2] at h; cases h
        | _ => simp only [q1] at h; cases h
    | _ => cases h
  | _ => cases h
theorem or_sub : OpR X (binaryOp .Sub) (r2 X.K (bop .sub)) := by
  intro pins s σ H x y v u Q I rx ry h
  obtain ⟨B, ρ, t, p, q, w, t', R, hp, hq, h, k⟩ := h
  cases p with
  | int i =>
    cases q with
    | int j =>
      obtain rfl := rv_int hp
      obtain rfl := rv_int hq
      cases h
      exact op_sub pins s σ H _ _ v u Q I rx ry ⟨i, j, rfl, rfl, k ρ H _ R Grow.refl (rv_int' _)⟩
    | _ => cases h
  | _ => cases h
theorem or_mod : OpR X (binaryOp .Mod) (r2 X.K (bop .mod)) := by
  intro pins s σ H x y v u Q I rx ry h
  obtain ⟨B, ρ, t, p, q, w, t', R, hp, hq, h, k⟩ := h
  cases p with
  | int i =>
    cases q with
    | int j =>
      obtain rfl := rv_int hp
      obtain rfl := rv_int hq
      obtain ⟨c, e⟩ := ite_some h
      cases e
      exact op_mod pins s σ H _ _ v u Q I rx ry ⟨i, j, rfl, rfl, c, k ρ H _ R Grow.refl (rv_int' _)⟩
    | _ => cases h
  | _ => cases h
theorem or_fdiv : OpR X (binaryOp .FloorDiv) (r2 X.K (bop .fdiv)) := by
  intro pins s σ H x y v u Q I rx ry h
  obtain ⟨B, ρ, t, p, q, w, t', R, hp, hq, h, k⟩ := h
  cases p with
  | int i =>
    cases q with
    | int j =>
      obtain rfl := rv_int hp
      obtain rfl := rv_int hq
      obtain ⟨c, e⟩ := ite_some h
      cases e
      obtain ⟨c1, c2⟩ := Bool.and_eq_true_iff.mp c
      exact op_fdivW pins s σ H _ _ v u Q I rx ry ⟨i, j, rfl, rfl, ⟨of_decide_eq_true c1, of_decide_eq_true c2⟩, k ρ H _ R Grow.refl (rv_int' _)⟩
    | _ => cases h
  | _ => cases h
theorem or_pow : OpR X (binaryOp .Pow) (r2 X.K (bop .pow)) := by
  intro pins s σ H x y v u Q I rx ry h
  obtain ⟨B, ρ, t, p, q, w, t', R, hp, hq, h, k⟩ := h
  cases p with
  | int i =>
    cases q with
    | int j =>
      obtain rfl := rv_int hp
      obtain rfl := rv_int hq
      obtain ⟨c, e⟩ := ite_some h
      cases e
      obtain ⟨c1, c2⟩ := Bool.and_eq_true_iff.mp c
      obtain ⟨c2, c3⟩ := Bool.and_eq_true_iff.mp c2
      exact op_pow pins s σ H _ _ v u Q I rx ry ⟨i, j, rfl, rfl, ⟨of_decide_eq_true c1, of_decide_eq_true c2, of_decide_eq_true c3⟩, k ρ H _ R Grow.refl (rv_int' _)⟩
    | _ => cases h
  | _ => cases h
theorem small64_ok {i : Int} (h : small64 i = true) : -(2 ^ 64) < i ∧ i < 2 ^ 64 := by
  have := of_decide_eq_true h
  omega
theorem tuple_mul1 (l : Addr) (items : Array Value) (n : Nat) (dd : Option Addr) (sl : Array (Option Value)) (u : Tok) :
    Meets (Builtin.«tuple.__mul__» ⟨[.ref l, .int 1 u], []⟩) (fun _ R s => s.heap.get? l = some { cls := .type "tuple", dict := dd, data := .seq items n, slots := sl } ∧ R (.ok (.ret (Value.ref l))) s) :=
  .of_wp fun prog w A R s h => by
    obtain ⟨hp, g, d, tk, os⟩ := s
    obtain ⟨hl, h⟩ := h
    have f1 := AutoSeq1.idx_int
    have c1 : (items.isEmpty || (1 : Int) == 1) = true := by rw [show ((1 : Int) == 1) = true from rfl, Bool.or_true]
    wp_walk using wpAny_loadPart' hl
    repeat (first
      | (refine wpAny_ite_false (by decide) ?_; wp_walk using wpAny_loadPart' hl)
      | (refine wpAny_ite_true (decide_eq_true (by rw [c1])) ?_; wp_walk using wpAny_loadPart' hl)
      | (refine wpAny_ite_true c1 ?_; wp_walk using wpAny_loadPart' hl))
    exact ⟨_, rfl, h⟩
def rRep1 (K : PySem.W.Frag) : R2 := fun x y H Q => ∃ l xs, x = .ref l ∧ y = .int 1 ∧ SqT K H l xs ∧ Q (.ref l) H
theorem op_rep1 : OpR X (binaryOp .Mult) (rRep1 X.K) := by
  intro pins s σ H x y v u Q I rx ry h
  obtain ⟨l, xs, rfl, rfl, hT, q⟩ := h
  cases rx
  obtain ⟨t, rfl⟩ := ry
  obtain ⟨its, r, ⟨⟨cls, dd, data, sl⟩, ho, hc, n, hd⟩, hs⟩ := I.tuple hT
  simp only at hc hd
  subst hc hd
  refine wpAny_binaryOp_repeat_ref (T := "tuple") (U := "int") (by decide) ⟨_, ho, rfl⟩ (fun s' => typeIs_int s' 1 t) noFill_tuple_mul F.fills_int_mul F.slot_int_rmul repeat_tuple F.slot_int_index.lookup
    (call_meets F.slot_int_rmul (typeIs_int s 1 t) F.entry_int_rmul (F.args_int_rmul_2 _ _) (int_rmul_tuple 1 t l its.toArray n dd sl)
      ⟨ho, rfl, ⟨_, ho, rfl⟩, call_meets F.slot_tuple_mul ⟨_, ho, rfl⟩ F.entry_tuple_mul (F.args_tuple_mul_2 _ _) (tuple_mul1 l its.toArray n dd sl t) ⟨ho, ?_⟩⟩)
  exact ⟨.ref l, H, I, rfl, q⟩
theorem or_mul : OpR X (binaryOp .Mult) (r2 X.K (bop .mul)) := by
  intro pins s σ H x y v u Q I rx ry h
  obtain ⟨B, ρ, t, p, q, w, t', R, hp, hq, h, k⟩ := h
  cases p with
  | int i =>
    cases q with
    | int j =>
      obtain rfl := rv_int hp
      obtain rfl := rv_int hq
      obtain ⟨c, e⟩ := ite_some h
      cases e
      have cm : L2.CMul i j := by
        rcases Bool.or_eq_true_iff.mp c with c | c
        · exact .inl (small64_ok c)
        · exact .inr (small64_ok c)
      exact op_mul pins s σ H _ _ v u Q I rx ry ⟨i, j, rfl, rfl, cm, k ρ H _ R Grow.refl (rv_int' _)⟩
    | _ => cases h
  | tup a =>
    cases q with
    | int j =>
      obtain ⟨pa, va, rfl, ta, ra⟩ := rv_tup hp
      obtain rfl := rv_int hq
      obtain ⟨c, e⟩ := ite_some h
      cases e
      obtain ⟨c1, c2, c3, c4⟩ := c
      have la := ra.length
      have ne : va ≠ [] := fun z => by
        rw [z] at la
        have : a = [] := List.eq_nil_of_length_eq_zero la
        rw [this] at c1
        cases c1
      by_cases k1 : j = 1
      · subst k1
        have e1 : rep (1 : Int).toNat a = a := by
          show (List.replicate 1 a).flatten = a
          simp
        rw [e1] at k
        exact op_rep1 pins s σ H _ _ v u Q I rx ry ⟨pa, va, rfl, rfl, ta, k ρ H _ R Grow.refl hp⟩
      have c2 : 2 ≤ j := by omega
      refine op_repT pins s σ H _ _ v u Q I rx ry ⟨pa, j, va, rfl, rfl, ta, ne, c2, c3, by rw [← la]; exact c4, fun p hn => ?_⟩
      exact k ρ _ _ (R.newT hn) (Grow.new0 hn) (RV.newT hn (ra.rep _))
    | _ => cases h
  | ref n =>
    cases q with
    | int j =>
      unfold bop at h
      simp only [] at h
      cases q1 : t.g[n]? with
      | none => simp only [q1] at h; cases h
      | some o1 =>
        cases o1 with
        | lst xs =>
          simp only [q1] at h
          obtain ⟨a, va, rfl, ha, ea, ra⟩ := R.lst q1 hp
          obtain rfl := rv_int hq
          by_cases c : -(2 ^ 63) ≤ j ∧ j < 2 ^ 63 ∧ xs.length * j.toNat ≤ line
          · rw [if_pos c] at h
            cases h
            refine op_rep pins s σ H _ _ v u Q I rx ry ⟨a, j, va, rfl, rfl, ea, c.1, c.2.1, by rw [← ra.length, ← line_eq]; exact c.2.2, fun p hn => ?_⟩
            exact k _ _ _ (R.newL hn (ra.rep _)) (Grow.new hn) R.end
          · rw [if_neg c] at h
            cases h
        | _ => simp only [q1] at h; cases h
    | _ => cases h
  | _ => cases h
def opOf : Bop → Operator
  | .add => .Add | .sub => .Sub | .mul => .Mult | .mod => .Mod | .fdiv => .FloorDiv | .pow => .Pow
theorem or_bop (op : Bop) : OpR X (binaryOp (opOf op)) (r2 X.K (bop op)) := by
  cases op
  · exact or_add
  · exact or_sub
  · exact or_mul
  · exact or_mod
  · exact or_fdiv
  · exact or_pow
end
end Ev

set_option linter.all false
set_option autoImplicit false
set_option maxRecDepth 100000
/-! Ev7: data, comparisons. -/
namespace Ev
open PySem PySem.Spec PyProof.Rows L2

mutual
def Dt : PV → PyData → Prop
  | .non, D => D = .none
  | .bl b, D => D = .bool b
  | .int i, D => D = .int i
  | .str x, D => D = .str ⟨⟨x⟩⟩
  | .tup xs, D => ∃ ds, D = .tuple ds ∧ Dts xs ds
  | .lv xs, D => ∃ ds, D = .list ds ∧ Dts xs ds
  | .ref _, _ => False
def Dts : List PV → List PyData → Prop
  | [], ds => ds = []
  | x :: xs, ds => ∃ D r, ds = D :: r ∧ Dt x D ∧ Dts xs r
end
mutual
theorem Dt.plain : ∀ (p : PV) (D : PyData), Dt p D → D.plain = true
  | .non, _, h => by unfold Dt at h; subst h; unfold PyData.plain; rfl
  | .bl _, _, h => by unfold Dt at h; subst h; unfold PyData.plain; rfl
  | .int _, _, h => by unfold Dt at h; subst h; unfold PyData.plain; rfl
  | .str _, _, h => by unfold Dt at h; subst h; unfold PyData.plain; rfl
  | .tup xs, _, h => by
    unfold Dt at h
    obtain ⟨ds, rfl, r⟩ := h
    unfold PyData.plain
    exact Dts.plain xs ds r
  | .lv xs, _, h => by
    unfold Dt at h
    obtain ⟨ds, rfl, r⟩ := h
    unfold PyData.plain
    exact Dts.plain xs ds r
  | .ref _, _, h => by unfold Dt at h; exact h.elim
theorem Dts.plain : ∀ (ps : List PV) (ds : List PyData), Dts ps ds → PyData.plainAll ds = true
  | [], _, h => by unfold Dts at h; subst h; unfold PyData.plainAll; rfl
  | x :: xs, _, h => by
    unfold Dts at h
    obtain ⟨D, r, rfl, a, b⟩ := h
    unfold PyData.plainAll
    rw [Dt.plain x D a, Dts.plain xs r b]
    rfl
end
mutual
theorem Dt.dep : ∀ (p : PV) (D : PyData), Dt p D → D.depth = p.dep
  | .non, _, h => by unfold Dt at h; subst h; unfold PyData.depth PV.dep; rfl
  | .bl _, _, h => by unfold Dt at h; subst h; unfold PyData.depth PV.dep; rfl
  | .int _, _, h => by unfold Dt at h; subst h; unfold PyData.depth PV.dep; rfl
  | .str _, _, h => by unfold Dt at h; subst h; unfold PyData.depth PV.dep; rfl
  | .tup xs, _, h => by
    unfold Dt at h
    obtain ⟨ds, rfl, r⟩ := h
    unfold PyData.depth PV.dep
    rw [Dts.dep xs ds r]
  | .lv xs, _, h => by
    unfold Dt at h
    obtain ⟨ds, rfl, r⟩ := h
    unfold PyData.depth PV.dep
    rw [Dts.dep xs ds r]
  | .ref _, _, h => by unfold Dt at h; exact h.elim
theorem Dts.dep : ∀ (ps : List PV) (ds : List PyData), Dts ps ds → PyData.depthAll ds = PV.deps ps
  | [], _, h => by unfold Dts at h; subst h; unfold PyData.depthAll PV.deps; rfl
  | x :: xs, _, h => by
    unfold Dts at h
    obtain ⟨D, r, rfl, a, b⟩ := h
    unfold PyData.depthAll PV.deps
    rw [Dt.dep x D a, Dts.dep xs r b]
end
theorem str_beq (x y : Sg) : ((⟨⟨x⟩⟩ : Str) == (⟨⟨y⟩⟩ : Str)) = decide (x = y) := by
  by_cases e : x = y
  · subst e
    simp
  · rw [decide_eq_false e]
    refine beq_eq_false_iff_ne.mpr fun z => e ?_
    have := congrArg (fun q : Str => q.cps.toList) z
    exact this
theorem int_beq (x y : Int) : (x == y) = decide (x = y) := by
  by_cases e : x = y
  · subst e
    simp
  · rw [decide_eq_false e]
    exact beq_eq_false_iff_ne.mpr e
mutual
theorem Dt.eqv : ∀ (p : PV) (D : PyData) (q : PV) (E : PyData), Dt p D → Dt q E → PyData.eqv D E = eqv p q
  | .non, _, q, _, h, g => by
    unfold Dt at h; subst h
    cases q <;> unfold Dt at g <;> first | exact g.elim | (subst g; unfold PyData.eqv Ev.eqv; rfl) | (obtain ⟨_, rfl, _⟩ := g; unfold PyData.eqv Ev.eqv; rfl)
  | .bl _, _, q, _, h, g => by
    unfold Dt at h; subst h
    cases q <;> unfold Dt at g <;> first | exact g.elim | (subst g; unfold PyData.eqv Ev.eqv; first | rfl | exact int_beq _ _) | (obtain ⟨_, rfl, _⟩ := g; unfold PyData.eqv Ev.eqv; rfl)
  | .int _, _, q, _, h, g => by
    unfold Dt at h; subst h
    cases q <;> unfold Dt at g <;> first | exact g.elim | (subst g; unfold PyData.eqv Ev.eqv; first | rfl | exact int_beq _ _) | (obtain ⟨_, rfl, _⟩ := g; unfold PyData.eqv Ev.eqv; rfl)
  | .str _, _, q, _, h, g => by
    unfold Dt at h; subst h
    cases q <;> unfold Dt at g <;> first | exact g.elim | (subst g; unfold PyData.eqv Ev.eqv; first | rfl | exact str_beq _ _) | (obtain ⟨_, rfl, _⟩ := g; unfold PyData.eqv Ev.eqv; rfl)
  | .tup xs, _, q, _, h, g => by
    unfold Dt at h
    obtain ⟨ds, rfl, r⟩ := h
    cases q with
    | tup ys =>
      unfold Dt at g
      obtain ⟨es, rfl, r'⟩ := g
      unfold PyData.eqv Ev.eqv
      exact Dts.eqv xs ds ys es r r'
    | lv ys =>
      unfold Dt at g
      obtain ⟨es, rfl, r'⟩ := g
      unfold PyData.eqv Ev.eqv
      rfl
    | ref _ => unfold Dt at g; exact g.elim
    | _ => unfold Dt at g; subst g; unfold PyData.eqv Ev.eqv; rfl
  | .lv xs, _, q, _, h, g => by
    unfold Dt at h
    obtain ⟨ds, rfl, r⟩ := h
    cases q with
    | lv ys =>
      unfold Dt at g
      obtain ⟨es, rfl, r'⟩ := g
      unfold PyData.eqv Ev.eqv
      exact Dts.eqv xs ds ys es r r'
    | tup ys =>
      unfold Dt at g
      obtain ⟨es, rfl, r'⟩ := g
      unfold PyData.eqv Ev.eqv
      rfl
    | ref _ => unfold Dt at g; exact g.elim
    | _ => unfold Dt at g; subst g; unfold PyData.eqv Ev.eqv; rfl
  | .ref _, _, _, _, h, _ => by unfold Dt at h; exact h.elim
theorem Dts.eqv : ∀ (ps : List PV) (ds : List PyData) (qs : List PV) (es : List PyData), Dts ps ds → Dts qs es → PyData.eqvAll ds es = eqvs ps qs
  | [], _, [], _, h, g => by
    unfold Dts at h g; subst h g; unfold PyData.eqvAll eqvs; rfl
  | [], _, y :: ys, _, h, g => by
    unfold Dts at h g; subst h
    obtain ⟨D, r, rfl, a, b⟩ := g
    unfold PyData.eqvAll eqvs; rfl
  | x :: xs, _, [], _, h, g => by
    unfold Dts at h g; subst g
    obtain ⟨D, r, rfl, a, b⟩ := h
    unfold PyData.eqvAll eqvs; rfl
  | x :: xs, _, y :: ys, _, h, g => by
    unfold Dts at h g
    obtain ⟨D, r, rfl, a, b⟩ := h
    obtain ⟨D', r', rfl, a', b'⟩ := g
    unfold PyData.eqvAll eqvs
    rw [Dt.eqv x D y D' a a', Dts.eqv xs r ys r' b b']
end
theorem Dts.any (q : PV) (E : PyData) (g : Dt q E) : ∀ (ps : List PV) (ds : List PyData), Dts ps ds → (ds.any fun y => PyData.eqv y E) = ps.any fun e => Ev.eqv e q
  | [], _, h => by unfold Dts at h; subst h; rfl
  | x :: xs, _, h => by
    unfold Dts at h
    obtain ⟨D, r, rfl, a, b⟩ := h
    rw [List.any_cons, List.any_cons, Dt.eqv x D q E a g, Dts.any q E g xs r b]

section
variable {K : PySem.W.Frag} {B : Nat → Option Nat} {ρ ρ' : List Addr} {H H' : Hp} {s s' : S}
mutual
theorem deepW_ok {look : Nat → Option PV} (hl : ∀ n d v, look n = some d → RV K ρ H (.ref n) v → ∃ D, Dt d D ∧ Dp K H v D) : ∀ (p d : PV) (v : V), deepW look p = some d → RV K ρ H p v → ∃ D, Dt d D ∧ Dp K H v D
  | .non, _, _, h, r => by
    unfold deepW at h; cases h
    rw [rv_non r]
    exact ⟨_, by unfold Dt; rfl, .non⟩
  | .bl b, _, _, h, r => by
    unfold deepW at h; cases h
    rw [rv_bl r]
    exact ⟨_, by unfold Dt; rfl, .bl b⟩
  | .int b, _, _, h, r => by
    unfold deepW at h; cases h
    rw [rv_int r]
    exact ⟨_, by unfold Dt; rfl, .int b⟩
  | .str b, _, _, h, r => by
    unfold deepW at h; cases h
    rw [rv_str r]
    exact ⟨_, by unfold Dt; rfl, .str _⟩
  | .lv _, _, _, h, r => by unfold deepW at h; cases h
  | .ref n, d, v, h, r => by unfold deepW at h; exact hl n d v h r
  | .tup xs, d, v, h, r => by
    unfold deepW at h
    obtain ⟨a, vs, rfl, q, rr⟩ := rv_tup r
    cases e : deepsW look xs with
    | none => rw [e] at h; cases h
    | some ds =>
      rw [e] at h
      cases h
      obtain ⟨Ds, h1, h2⟩ := deepsW_ok hl xs ds vs e rr
      exact ⟨.tuple Ds, by unfold Dt; exact ⟨Ds, rfl, h1⟩, .tup q h2⟩
theorem deepsW_ok {look : Nat → Option PV} (hl : ∀ n d v, look n = some d → RV K ρ H (.ref n) v → ∃ D, Dt d D ∧ Dp K H v D) : ∀ (ps ds : List PV) (vs : List V), deepsW look ps = some ds → RVs K ρ H ps vs → ∃ Ds, Dts ds Ds ∧ DpAll K H vs Ds
  | [], _, _, h, r => by
    unfold deepsW at h; cases h
    rw [r.inv0]
    exact ⟨[], by unfold Dts; rfl, .nil⟩
  | x :: xs, _, _, h, r => by
    unfold deepsW at h
    obtain ⟨w, ws, rfl, q, rr⟩ := r.inv
    cases e : deepW look x with
    | none => simp only [e] at h; cases h
    | some d =>
      cases e2 : deepsW look xs with
      | none => simp only [e, e2] at h; cases h
      | some ds =>
        simp only [e, e2] at h
        cases h
        obtain ⟨D, h1, h2⟩ := deepW_ok hl x d w e q
        obtain ⟨Ds, h3, h4⟩ := deepsW_ok hl xs ds ws e2 rr
        exact ⟨D :: Ds, by unfold Dts; exact ⟨D, Ds, rfl, h1, h3⟩, .cons h2 h4⟩
end
theorem lookN_ok (R : Rel K B ρ s H) : ∀ (f n : Nat) (d : PV) (v : V), lookN s.g f n = some d → RV K ρ H (.ref n) v → ∃ D, Dt d D ∧ Dp K H v D
  | 0, _, _, _, h, _ => by unfold lookN at h; cases h
  | f + 1, n, d, v, h, r => by
    unfold lookN at h
    obtain ⟨a, rfl, ha⟩ := rv_ref r
    cases q : s.g[n]? with
    | none => simp only [q] at h; cases h
    | some o =>
      have ro := R.ob n o a q ha
      cases o with
      | lst xs =>
        simp only [q] at h
        obtain ⟨vs, h1, h2⟩ := ro
        cases e : deepsW (lookN s.g f) xs with
        | none => rw [e] at h; cases h
        | some ds =>
          rw [e] at h
          cases h
          obtain ⟨Ds, g1, g2⟩ := deepsW_ok (lookN_ok R f) xs ds vs e h2
          exact ⟨.list Ds, by unfold Dt; exact ⟨Ds, rfl, g1⟩, .lst (SqL.of h1) g2⟩
      | fix xs =>
        simp only [q] at h
        obtain ⟨vs, h1, h2⟩ := ro
        cases e : deepsW (lookN s.g f) xs with
        | none => rw [e] at h; cases h
        | some ds =>
          rw [e] at h
          cases h
          obtain ⟨Ds, g1, g2⟩ := deepsW_ok (lookN_ok R f) xs ds vs e h2
          exact ⟨.list Ds, by unfold Dt; exact ⟨Ds, rfl, g1⟩, .lst (.inl h1) g2⟩
      | dct _ _ => simp only [q] at h; cases h
      | ins _ _ => simp only [q] at h; cases h
theorem deep_ok (R : Rel K B ρ s H) {p d : PV} {v : V} (h : deep s.g p = some d) (r : RV K ρ H p v) : ∃ D, Dt d D ∧ Dp K H v D := deepW_ok (lookN_ok R 8) p d v h r
theorem deeps_ok (R : Rel K B ρ s H) {p d : List PV} {v : List V} (h : deeps s.g p = some d) (r : RVs K ρ H p v) : ∃ D, Dts d D ∧ DpAll K H v D := deepsW_ok (lookN_ok R 8) p d v h r
end

section
variable {X : Cx} {H : Hp}
theorem eqD_ok {B : Nat → Option Nat} {ρ : List Addr} {t : S} {p q : PV} {x y : V} {b : Bool} (R : Rel X.K B ρ t H) (h : eqD t.g p q = some b) (hp : RV X.K ρ H p x) (hq : RV X.K ρ H q y) :
    ∃ D E, Dp X.K H x D ∧ Dp X.K H y E ∧ D.plain = true ∧ E.plain = true ∧ min D.depth E.depth ≤ 60 ∧ PyData.eqv D E = b := by
  unfold eqD at h
  cases e1 : deep t.g p with
  | none => simp only [e1] at h; cases h
  | some d =>
    cases e2 : deep t.g q with
    | none => simp only [e1, e2] at h; cases h
    | some e =>
      simp only [e1, e2] at h
      obtain ⟨c, eb⟩ := ite_some h
      obtain ⟨D, d1, d2⟩ := deep_ok R e1 hp
      obtain ⟨E, g1, g2⟩ := deep_ok R e2 hq
      exact ⟨D, E, d2, g2, d1.plain, g1.plain, by rw [d1.dep, g1.dep]; exact c, by rw [Dt.eqv _ _ _ _ d1 g1]; exact eb⟩
theorem inD_ok {B : Nat → Option Nat} {ρ : List Addr} {t : S} {p : PV} {qs : List PV} {x : V} {ys : List V} {b : Bool} (R : Rel X.K B ρ t H) (h : inD t.g p qs = some b) (hp : RV X.K ρ H p x) (hq : RVs X.K ρ H qs ys) :
    ∃ D Es, Dp X.K H x D ∧ DpAll X.K H ys Es ∧ D.plain = true ∧ PyData.plainAll Es = true ∧ min D.depth (PyData.depthAll Es) ≤ 60 ∧ (Es.any fun y => PyData.eqv y D) = b := by
  unfold inD at h
  cases e1 : deep t.g p with
  | none => simp only [e1] at h; cases h
  | some d =>
    cases e2 : deeps t.g qs with
    | none => simp only [e1, e2] at h; cases h
    | some e =>
      simp only [e1, e2] at h
      obtain ⟨c, eb⟩ := ite_some h
      obtain ⟨D, d1, d2⟩ := deep_ok R e1 hp
      obtain ⟨E, g1, g2⟩ := deeps_ok R e2 hq
      exact ⟨D, E, d2, g2, d1.plain, g1.plain, by rw [d1.dep, g1.dep]; exact c, by rw [Dts.any _ _ d1 _ _ g1]; exact eb⟩
/-- a comparison by values -/
def rc (K : PySem.W.Frag) (op : Cop) : R2 := fun x y H Q => ∃ B ρ s p q b, Rel K B ρ s H ∧ RV K ρ H p x ∧ RV K ρ H q y ∧ cop op p q s = some b ∧ Q (.bl b) H
theorem oc_eq (hu : X.A.units + 64 < cLine) : OpR X (compareOp .Eq) (rc X.K .eq) := by
  intro pins s σ H x y v u Q I rx ry h
  obtain ⟨B, ρ, t, p, q, b, R, hp, hq, h, k⟩ := h
  obtain ⟨D, E, h1, h2, h3, h4, h5, h6⟩ := eqD_ok R h hp hq
  obtain ⟨as, ra⟩ := Dp.reads I D x v h1 rx
  obtain ⟨bs, rb⟩ := Dp.reads I E y u h2 ry
  refine SeqAt.eq_plain ra rb h3 h4 (by omega) ?_
  exact ⟨.bl (PyData.eqv D E), H, I, rfl, by rw [h6]; exact k⟩
theorem oc_ne (hu : X.A.units + 64 < cLine) : OpR X (compareOp .NotEq) (rc X.K .ne) := by
  intro pins s σ H x y v u Q I rx ry h
  obtain ⟨B, ρ, t, p, q, b, R, hp, hq, h, k⟩ := h
  unfold cop at h
  simp only [] at h
  cases e : eqD t.g p q with
  | none => rw [e] at h; cases h
  | some c =>
    rw [e] at h
    cases h
    obtain ⟨D, E, h1, h2, h3, h4, h5, h6⟩ := eqD_ok R e hp hq
    obtain ⟨as, ra⟩ := Dp.reads I D x v h1 rx
    obtain ⟨bs, rb⟩ := Dp.reads I E y u h2 ry
    refine SeqAt.ne_plain ra rb h3 h4 (by omega) ?_
    exact ⟨.bl (!PyData.eqv D E), H, I, rfl, by rw [h6]; exact k⟩
end

section
variable {X : Cx} {H : Hp}
theorem contains_eq (c : Nat) (y : Sg) : y.contains c = decide (c ∈ y) := by
  by_cases e : c ∈ y
  · rw [decide_eq_true e]; exact List.contains_iff_mem.mpr e
  · rw [decide_eq_false e]
    cases q : y.contains c with
    | false => rfl
    | true => exact absurd (List.contains_iff_mem.mp q) e
/-- what a container holds -/
def inV (s : S) (p q : PV) : Option Bool :=
  match q with
  | .tup ys => inD s.g p ys
  | .ref n => (lstAt s n).bind fun ys => inD s.g p ys
  | _ => none
theorem inV_ok {B : Nat → Option Nat} {ρ : List Addr} {t : S} {p q : PV} {x y : V} {b : Bool} (R : Rel X.K B ρ t H) (h : inV t p q = some b) (hp : RV X.K ρ H p x) (hq : RV X.K ρ H q y) :
    ∃ D Es, Dp X.K H x D ∧ (Dp X.K H y (.list Es) ∨ Dp X.K H y (.tuple Es)) ∧ D.plain = true ∧ PyData.plainAll Es = true ∧ min (PyData.depthAll Es) D.depth ≤ 60 ∧ (Es.any fun y => PyData.eqv y D) = b := by
  cases q with
  | tup ys =>
    obtain ⟨a, vs, rfl, q, rr⟩ := rv_tup hq
    obtain ⟨D, Es, h1, h2, h3, h4, h5, h6⟩ := inD_ok R (show inD t.g p ys = some b from h) hp rr
    exact ⟨D, Es, h1, .inr (.tup q h2), h3, h4, by omega, h6⟩
  | ref n =>
    unfold inV at h
    simp only [] at h
    cases e : lstAt t n with
    | none => rw [e] at h; cases h
    | some ys =>
      rw [e] at h
      obtain ⟨a, vs, rfl, _, q, rr⟩ := R.list e hq
      obtain ⟨D, Es, h1, h2, h3, h4, h5, h6⟩ := inD_ok R (show inD t.g p ys = some b from h) hp rr
      exact ⟨D, Es, h1, .inl (.lst q h2), h3, h4, by omega, h6⟩
  | _ => cases h
theorem cop_in {s : S} {p q : PV} {b : Bool} (h : cop .isin p q s = some b) : (∃ c y, p = .str [c] ∧ q = .str y ∧ b = y.contains c) ∨ inV s p q = some b := by
  unfold cop at h
  simp only [] at h
  split at h
  · cases h
    exact .inl ⟨_, _, rfl, rfl, rfl⟩
  · exact .inr h
  · refine .inr ?_
    unfold inV lstAt
    simp only []
    split at h
    · exact h
    · exact h
    · cases h
  · cases h
theorem cop_notin {s : S} {p q : PV} {b : Bool} (h : cop .notin p q s = some b) : (∃ c y, p = .str [c] ∧ q = .str y ∧ b = !y.contains c) ∨ ∃ c, inV s p q = some c ∧ b = !c := by
  unfold cop at h
  simp only [] at h
  split at h
  · cases h
    exact .inl ⟨_, _, rfl, rfl, rfl⟩
  · refine .inr ?_
    unfold inV
    simp only []
    obtain ⟨c, e, e2⟩ := Option.map_eq_some_iff.mp h
    exact ⟨c, e, e2.symm⟩
  · refine .inr ?_
    unfold inV lstAt
    simp only []
    split at h
    · obtain ⟨c, e, e2⟩ := Option.map_eq_some_iff.mp h
      exact ⟨c, e, e2.symm⟩
    · obtain ⟨c, e, e2⟩ := Option.map_eq_some_iff.mp h
      exact ⟨c, e, e2.symm⟩
    · cases h
  · cases h
theorem oc_in (hu : X.A.units + 64 < cLine) : OpR X (compareOp .In) (rc X.K .isin) := by
  intro pins s σ H x y v u Q I rx ry h
  obtain ⟨B, ρ, t, p, q, b, R, hp, hq, h, k⟩ := h
  rcases cop_in h with ⟨c, z, rfl, rfl, rfl⟩ | h
  · obtain rfl := rv_str hp
    obtain rfl := rv_str hq
    refine op_in_sign pins s σ H _ _ v u Q I rx ry ⟨c, _, rfl, rfl, ?_⟩
    rw [contains_eq] at k
    exact k
  · obtain ⟨D, Es, h1, h2, h3, h4, h5, h6⟩ := inV_ok R h hp hq
    obtain ⟨as, ra⟩ := Dp.reads I D x v h1 rx
    rcases h2 with h2 | h2
    · obtain ⟨bs, rb⟩ := Dp.reads I _ y u h2 ry
      refine SeqAt.in_list_data rb ra h4 h3 (by omega) ?_
      exact ⟨.bl _, H, I, rfl, by rw [h6]; exact k⟩
    · obtain ⟨bs, rb⟩ := Dp.reads I _ y u h2 ry
      refine SeqAt.in_tuple_data rb ra h4 h3 (by omega) ?_
      exact ⟨.bl _, H, I, rfl, by rw [h6]; exact k⟩
theorem oc_notin (hu : X.A.units + 64 < cLine) : OpR X (compareOp .NotIn) (rc X.K .notin) := by
  intro pins s σ H x y v u Q I rx ry h
  obtain ⟨B, ρ, t, p, q, b, R, hp, hq, h, k⟩ := h
  rcases cop_notin h with ⟨c, z, rfl, rfl, rfl⟩ | ⟨c, hc, rfl⟩
  · obtain rfl := rv_str hp
    obtain rfl := rv_str hq
    refine op_notIn_sign pins s σ H _ _ v u Q I rx ry ⟨c, _, rfl, rfl, ?_⟩
    rw [contains_eq] at k
    exact k
  · obtain ⟨D, Es, h1, h2, h3, h4, h5, h6⟩ := inV_ok R hc hp hq
    obtain ⟨as, ra⟩ := Dp.reads I D x v h1 rx
    rcases h2 with h2 | h2
    · obtain ⟨bs, rb⟩ := Dp.reads I _ y u h2 ry
      refine SeqAt.notIn_list_data rb ra h4 h3 (by omega) ?_
      exact ⟨.bl _, H, I, rfl, by rw [h6]; exact k⟩
    · obtain ⟨bs, rb⟩ := Dp.reads I _ y u h2 ry
      refine SeqAt.notIn_tuple_data rb ra h4 h3 (by omega) ?_
      exact ⟨.bl _, H, I, rfl, by rw [h6]; exact k⟩
theorem isNon_ok {K : PySem.W.Frag} {ρ : List Addr} {p : PV} {x : V} (h : RV K ρ H p x) : decide (x = .non) = isNon p := by
  cases p with
  | non => rw [rv_non h]; rfl
  | bl b => rw [rv_bl h]; rfl
  | int b => rw [rv_int h]; rfl
  | str b => rw [rv_str h]; rfl
  | tup xs =>
    obtain ⟨a, vs, rfl, _⟩ := rv_tup h
    rfl
  | ref n =>
    obtain ⟨a, rfl, _⟩ := rv_ref h
    rfl
  | lv xs => unfold RV at h; exact h.elim
theorem bool_dec (a b : Bool) : decide (a = b) = (a == b) := by cases a <;> cases b <;> rfl
theorem oc_is : OpR X (compareOp .Is) (rc X.K .is) := by
  intro pins s σ H x y v u Q I rx ry h
  obtain ⟨B, ρ, t, p, q, b, R, hp, hq, h, k⟩ := h
  unfold cop at h
  simp only [] at h
  split at h
  · cases h
    obtain rfl := rv_bl hp
    obtain rfl := rv_bl hq
    refine op_is_bl pins s σ H _ _ v u Q I rx ry ⟨_, _, rfl, rfl, ?_⟩
    rw [bool_dec]
    exact k
  · cases h
    obtain rfl := rv_non hq
    refine op_isN pins s σ H _ _ v u Q I rx ry ⟨rfl, ?_⟩
    rw [isNon_ok hp]
    exact k
  · cases h
theorem oc_isnot : OpR X (compareOp .IsNot) (rc X.K .isnot) := by
  intro pins s σ H x y v u Q I rx ry h
  obtain ⟨B, ρ, t, p, q, b, R, hp, hq, h, k⟩ := h
  unfold cop at h
  simp only [] at h
  split at h
  · cases h
    obtain rfl := rv_bl hp
    obtain rfl := rv_bl hq
    refine op_isnot_bl pins s σ H _ _ v u Q I rx ry ⟨_, _, rfl, rfl, ?_⟩
    rw [bool_dec]
    exact k
  · cases h
    obtain rfl := rv_non hq
    refine op_notN pins s σ H _ _ v u Q I rx ry ⟨rfl, ?_⟩
    rw [isNon_ok hp]
    exact k
  · cases h
theorem oc_lt : OpR X (compareOp .Lt) (rc X.K .lt) := by
  intro pins s σ H x y v u Q I rx ry h
  obtain ⟨B, ρ, t, p, q, b, R, hp, hq, h, k⟩ := h
  unfold cop at h
  simp only [] at h
  split at h
  · cases h
    obtain rfl := rv_int hp
    obtain rfl := rv_int hq
    exact op_lt pins s σ H _ _ v u Q I rx ry ⟨_, _, rfl, rfl, k⟩
  · cases h
    obtain rfl := rv_str hp
    obtain rfl := rv_str hq
    exact op_lt_str pins s σ H _ _ v u Q I rx ry ⟨_, _, rfl, rfl, k⟩
  · cases h
theorem oc_le : OpR X (compareOp .LtE) (rc X.K .le) := by
  intro pins s σ H x y v u Q I rx ry h
  obtain ⟨B, ρ, t, p, q, b, R, hp, hq, h, k⟩ := h
  unfold cop at h
  simp only [] at h
  split at h
  · cases h
    obtain rfl := rv_int hp
    obtain rfl := rv_int hq
    exact op_le pins s σ H _ _ v u Q I rx ry ⟨_, _, rfl, rfl, k⟩
  · cases h
    obtain rfl := rv_str hp
    obtain rfl := rv_str hq
    exact op_le_str pins s σ H _ _ v u Q I rx ry ⟨_, _, rfl, rfl, k⟩
  · cases h
theorem oc_gt : OpR X (compareOp .Gt) (rc X.K .gt) := by
  intro pins s σ H x y v u Q I rx ry h
  obtain ⟨B, ρ, t, p, q, b, R, hp, hq, h, k⟩ := h
  unfold cop at h
  simp only [] at h
  split at h
  · cases h
    obtain rfl := rv_int hp
    obtain rfl := rv_int hq
    exact op_gt pins s σ H _ _ v u Q I rx ry ⟨_, _, rfl, rfl, k⟩
  · cases h
    obtain rfl := rv_str hp
    obtain rfl := rv_str hq
    exact op_gt_str pins s σ H _ _ v u Q I rx ry ⟨_, _, rfl, rfl, k⟩
  · cases h
theorem oc_ge : OpR X (compareOp .GtE) (rc X.K .ge) := by
  intro pins s σ H x y v u Q I rx ry h
  obtain ⟨B, ρ, t, p, q, b, R, hp, hq, h, k⟩ := h
  unfold cop at h
  simp only [] at h
  split at h
  · cases h
    obtain rfl := rv_int hp
    obtain rfl := rv_int hq
    exact op_ge pins s σ H _ _ v u Q I rx ry ⟨_, _, rfl, rfl, k⟩
  · cases h
    obtain rfl := rv_str hp
    obtain rfl := rv_str hq
    exact op_ge_str pins s σ H _ _ v u Q I rx ry ⟨_, _, rfl, rfl, k⟩
  · cases h
def copOf : Cop → CmpOp
  | .eq => .Eq | .ne => .NotEq | .lt => .Lt | .le => .LtE | .gt => .Gt | .ge => .GtE | .isin => .In | .notin => .NotIn | .is => .Is | .isnot => .IsNot
theorem oc_cop (hu : X.A.units + 64 < cLine) (op : Cop) : OpR X (compareOp (copOf op)) (rc X.K op) := by
  cases op
  · exact oc_eq hu
  · exact oc_ne hu
  · exact oc_lt
  · exact oc_le
  · exact oc_gt
  · exact oc_ge
  · exact oc_in hu
  · exact oc_notin hu
  · exact oc_is
  · exact oc_isnot
end
end Ev

set_option linter.all false
set_option autoImplicit false
set_option maxRecDepth 100000
/-! Ev8: places, built-in functions, methods. -/
namespace Ev
open PySem PySem.Spec PyProof.Rows L2

section
variable {X : Cx} {H : Hp}
theorem ixE_eq (n : Nat) (i : Int) : ixE n i = L2.ixN n i := rfl
theorem at_eq {α : Type} (xs : List α) (i : Int) : at? xs i = L2.atI xs i := rfl
theorem RVs.at {K : PySem.W.Frag} {ρ : List Addr} {xs : List PV} {vs : List V} {i : Int} {p : PV} (r : RVs K ρ H xs vs) (h : at? xs i = some p) : ∃ v, L2.atI vs i = some v ∧ RV K ρ H p v := by
  unfold at? at h
  cases e : ixE xs.length i with
  | none => rw [e] at h; cases h
  | some j =>
    rw [e] at h
    obtain ⟨v, a, b⟩ := r.get (show xs[j]? = some p from h)
    refine ⟨v, ?_, b⟩
    unfold L2.atI
    rw [← r.length, ← ixE_eq, e]
    exact a
/-- an item, by values -/
def rIt (K : PySem.W.Frag) : R2 := fun x y H Q => ∃ B ρ s p q w, Rel K B ρ s H ∧ RV K ρ H p x ∧ RV K ρ H q y ∧ item p q s = some w ∧ ∀ u, RV K ρ H w u → Q u H
theorem ix_item : IxR X (rIt X.K) := by
  intro value sl pins s σ H x y v u Q I rx ry h hs
  obtain ⟨B, ρ, t, p, q, w, R, hp, hq, h, k⟩ := h
  refine ix_seq value sl pins s σ H x y v u Q I rx ry ?_ hs
  unfold item at h
  split at h
  · obtain ⟨a, vs, rfl, ta, ra⟩ := rv_tup hp
    obtain rfl := rv_int hq
    obtain ⟨z, e, rz⟩ := ra.at h
    exact .inr (.inl ⟨a, vs, _, z, rfl, rfl, ta, e, k z rz⟩)
  · obtain rfl := rv_str hp
    obtain rfl := rv_int hq
    rename_i l j
    by_cases c : l.length ≤ line
    · rw [if_pos c] at h
      cases e : at? l j with
      | none => rw [e] at h; cases h
      | some d =>
        rw [e] at h
        cases h
        exact .inr (.inr ⟨_, j, d, rfl, rfl, by rw [str_len, ← line_eq]; exact c, e, k _ (rv_str' _)⟩)
    · rw [if_neg c] at h
      cases h
  · obtain rfl := rv_int hq
    rename_i n j
    cases e : lstAt t n with
    | none => rw [e] at h; cases h
    | some xs =>
      rw [e] at h
      obtain ⟨a, vs, rfl, _, ta, ra⟩ := R.list e hp
      obtain ⟨z, e, rz⟩ := ra.at h
      exact .inl ⟨a, vs, _, z, rfl, rfl, ta, e, k z rz⟩
  · cases h
theorem cutIx_eq (n d : Nat) (o : Option Int) : cutIx n d o = HT.sIx n d o := by cases o <;> rfl
theorem RVs.cutV {K : PySem.W.Frag} {ρ : List Addr} {xs : List PV} {vs : List V} (r : RVs K ρ H xs vs) (lo hi : Option Int) : RVs K ρ H (Ev.cut xs lo hi) (L2.cutV vs lo hi) := by
  unfold Ev.cut L2.cutV
  rw [r.length, cutIx_eq, cutIx_eq]
  exact (r.drop _).take _
theorem cut_whole {α : Type} {xs : List α} {lo hi : Option Int} (h : HT.sIx xs.length 0 lo = 0 ∧ HT.sIx xs.length xs.length hi = xs.length) : cut xs lo hi = xs := by
  unfold cut
  rw [cutIx_eq, cutIx_eq, h.1, h.2]
  simp
/-- a slice, by values -/
def rSl (K : PySem.W.Frag) : V → Option Int → Option Int → Hp → VK → Prop := fun x lo hi H Q => ∃ B ρ s p w s', Rel K B ρ s H ∧ RV K ρ H p x ∧ slice p lo hi s = some (w, s') ∧
  ∀ ρ' H' u, Rel K B ρ' s' H' → Grow K ρ H ρ' H' → RV K ρ' H' w u → Q u H'
theorem sl_tup' : SlR X (fun x lo hi H Q => ∃ B ρ s xs, Rel X.K B ρ s H ∧ RV X.K ρ H (.tup xs) x ∧ ∀ ρ' H' u, Rel X.K B ρ' s H' → Grow X.K ρ H ρ' H' → RV X.K ρ' H' (.tup (cut xs lo hi)) u → Q u H') := by
  intro pins s σ H x v vl vu lo hi sl Q I rx hs pl pu h
  obtain ⟨B, ρ, t, xs, R, hp, k⟩ := h
  obtain ⟨a, vs, rfl, ta, ra⟩ := rv_tup hp
  refine sl_tupA pins s σ H _ v vl vu lo hi sl Q I rx hs pl pu ⟨a, vs, rfl, ta, fun e => ?_, fun _ p hn => ?_⟩
  · rw [← ra.length] at e
    have := cut_whole e
    rw [this] at k
    exact k ρ H _ R Grow.refl hp
  · exact k ρ _ _ (R.newT hn) (Grow.new0 hn) (RV.newT hn (ra.cutV lo hi))
theorem sl_slice : SlR X (rSl X.K) := by
  intro pins s σ H x v vl vu lo hi sl Q I rx hs pl pu h
  obtain ⟨B, ρ, t, p, w, t', R, hp, h, k⟩ := h
  unfold slice at h
  split at h
  · cases h
    exact sl_tup' pins s σ H x v vl vu lo hi sl Q I rx hs pl pu ⟨B, ρ, _, _, R, hp, k⟩
  · obtain ⟨c, e⟩ := ite_some h
    cases e
    obtain rfl := rv_str hp
    refine sl_str pins s σ H _ v vl vu lo hi sl Q I rx hs pl pu ⟨_, rfl, by rw [str_len, ← line_eq]; exact c, ?_⟩
    exact k ρ H _ R Grow.refl (rv_str' _)
  · rename_i n
    cases e : lstAt t n with
    | none => rw [e] at h; cases h
    | some xs =>
      rw [e] at h
      cases h
      obtain ⟨a, vs, rfl, _, ta, ra⟩ := R.list e hp
      refine sl_list pins s σ H _ v vl vu lo hi sl Q I rx hs pl pu ⟨a, vs, rfl, ta, fun p hn => ?_⟩
      exact k _ _ _ (R.newL hn (ra.cutV lo hi)) (Grow.new hn) R.end
  · cases h
end

section
variable {X : Cx} {H : Hp}
/-! ### lists change -/
theorem blws_app {m : Nat} : ∀ {xs ys : List PV}, PV.blws m xs = true → PV.blws m ys = true → PV.blws m (xs ++ ys) = true
  | [], _, _, h => h
  | x :: xs, ys, h, g => by
    unfold PV.blws at h
    obtain ⟨h1, h2⟩ := Bool.and_eq_true_iff.mp h
    show PV.blws m (x :: (xs ++ ys)) = true
    unfold PV.blws
    rw [h1, blws_app h2 g]
    rfl
theorem blws_mem {m : Nat} : ∀ {xs : List PV}, PV.blws m xs = true ↔ ∀ x ∈ xs, x.blw m = true
  | [] => ⟨fun _ _ h => absurd h (by simp), fun _ => by unfold PV.blws; rfl⟩
  | x :: xs => by
    unfold PV.blws
    rw [Bool.and_eq_true_iff, blws_mem (xs := xs)]
    exact ⟨fun h y hy => by
      rcases List.mem_cons.mp hy with e | e
      · rw [e]; exact h.1
      · exact h.2 y e, fun h => ⟨h x List.mem_cons_self, fun y hy => h y (List.mem_cons_of_mem _ hy)⟩⟩
theorem blws_sub {m : Nat} {xs ys : List PV} (h : PV.blws m xs = true) (s : ∀ y ∈ ys, y ∈ xs) : PV.blws m ys = true :=
  blws_mem.mpr fun y hy => blws_mem.mp h y (s y hy)
theorem blws_more {m : Nat} {xs ys : List PV} {v : PV} (h : PV.blws m xs = true) (hv : v.rf = true) (s : ∀ y ∈ ys, y ∈ xs ∨ y = v) : PV.blws m ys = true :=
  blws_mem.mpr fun y hy => (s y hy).elim (fun z => blws_mem.mp h y z) fun z => by rw [z]; exact PV.blw_mono (Nat.zero_le _) v hv
theorem Rel.wrL {K : PySem.W.Frag} {B : Nat → Option Nat} {ρ : List Addr} {s : S} {n : Nat} {a : Addr} {xs xs' : List PV} {vs vs' : List V} {cl : Bool} (R : Rel K B ρ s H) (h : s.g[n]? = some (.lst xs)) (ha : ρ[n]? = some a)
    (e : H a = some (.lst vs)) (r : RVs K ρ H xs' vs') (hc : cl = true → ∀ b, PV.blws b xs = true → PV.blws b xs' = true) :
    Rel K B ρ (s.wr n (.lst xs') cl) (upd H a (.lst vs')) ∧ Grow K ρ H ρ (upd H a (.lst vs')) := by
  have nt : NoTup (H a) := by rw [e]; exact NoTup.lst
  have g : Grow K ρ H ρ (upd H a (.lst vs')) := Grow.at (a := a) (fun b hb => upd_ne hb) nt (.inl (List.mem_of_getElem? ha))
  exact ⟨R.wr h ha (fun b hb => upd_ne hb) nt ⟨vs', upd_same, r.mono g _ _⟩ hc, g⟩
theorem mem_set_or {α : Type} : ∀ {xs : List α} {k : Nat} {v y : α}, y ∈ xs.set k v → y ∈ xs ∨ y = v := fun {xs k v y} h => by
  rcases List.mem_or_eq_of_mem_set h with z | z
  · exact .inl z
  · exact .inr z
def rSet (K : PySem.W.Frag) : TSet := fun x y z H Q => ∃ B ρ s p q w s', Rel K B ρ s H ∧ RV K ρ H p x ∧ RV K ρ H q y ∧ RV K ρ H w z ∧ setItem p q w s = some s' ∧
  ∀ ρ' H', Rel K B ρ' s' H' → Grow K ρ H ρ' H' → Q H'
theorem set_ok : PSet X (rSet X.K) := by
  intro pins s σ H o i v ov iv u Q I ro ri rv h
  obtain ⟨B, ρ, t, p, q, w, t', R, hp, hq, hw, h, k⟩ := h
  unfold setItem at h
  split at h
  · rename_i n j
    split at h
    · rename_i xs e
      obtain ⟨c, e1, e2⟩ := Option.map_eq_some_iff.mp h
      subst e2
      obtain ⟨a, vs, rfl, ha, ea, ra⟩ := R.lst e hp
      obtain rfl := rv_int hq
      obtain ⟨R', G⟩ := R.wrL (cl := w.rf) e ha ea (ra.set hw c) (fun hc b hb => blws_more hb hc fun y hy => mem_set_or hy)
      exact set_list pins s σ H _ _ v ov iv u Q I ro ri rv ⟨a, vs, j, c, rfl, rfl, ea, by rw [← ra.length, ← ixE_eq]; exact e1, k _ _ R' G⟩
    · cases h
  · cases h

/-! ### methods of lists -/
def rM (K : PySem.W.Frag) (m : Mth) : V → List V → Hp → VK → Prop := fun x xs H Q => ∃ B ρ s p ps w s', Rel K B ρ s H ∧ RV K ρ H p x ∧ RVs K ρ H ps xs ∧ mth m p ps s = some (w, s') ∧
  ∀ ρ' H' u, Rel K B ρ' s' H' → Grow K ρ H ρ' H' → RV K ρ' H' w u → Q u H'
theorem RVs.one {K : PySem.W.Frag} {ρ : List Addr} {p : PV} {vs : List V} (h : RVs K ρ H [p] vs) : ∃ v, vs = [v] ∧ RV K ρ H p v := by
  obtain ⟨w, ws, rfl, a, b⟩ := h.inv
  rw [b.inv0]
  exact ⟨w, rfl, a⟩
theorem RVs.two {K : PySem.W.Frag} {ρ : List Addr} {p q : PV} {vs : List V} (h : RVs K ρ H [p, q] vs) : ∃ v w, vs = [v, w] ∧ RV K ρ H p v ∧ RV K ρ H q w := by
  obtain ⟨w, ws, rfl, a, b⟩ := h.inv
  obtain ⟨v, rfl, c⟩ := b.one
  exact ⟨w, v, rfl, a, c⟩
theorem mm_append : MtR X "list.append" (rM X.K .append) := by
  intro pins s σ H x xs v us Q I rx rv h
  obtain ⟨B, ρ, t, p, ps, w, t', R, hp, hs, h, k⟩ := h
  replace h : mAppend p ps t = some (w, t') := h
  unfold mAppend at h
  split at h
  · rename_i n y
    split at h
    · rename_i ys e
      obtain ⟨c, e2⟩ := ite_some h
      cases e2
      obtain ⟨a, vs, rfl, ha, ea, ra⟩ := R.lst e hp
      obtain ⟨z, rfl, rz⟩ := hs.one
      obtain ⟨R', G⟩ := R.wrL (cl := y.rf) e ha ea (ra.append (.cons rz .nil)) (fun hc b hb => blws_more hb hc fun q hq => by simpa using hq)
      exact mt_append pins s σ H _ _ v us Q I rx rv ⟨a, vs, z, rfl, rfl, ea, by rw [← ra.length, ← line_eq]; exact c, k _ _ _ R' G rv_non'⟩
    · cases h
  · cases h
theorem mm_extend : MtR X "list.extend" (rM X.K .extend) := by
  intro pins s σ H x xs v us Q I rx rv h
  obtain ⟨B, ρ, t, p, ps, w, t', R, hp, hs, h, k⟩ := h
  replace h : mExtend p ps t = some (w, t') := h
  unfold mExtend at h
  split at h
  · rename_i n m
    split at h
    · rename_i ys e
      split at h
      · rename_i zs e'
        obtain ⟨c, e2⟩ := ite_some h
        cases e2
        obtain ⟨a, vs, rfl, ha, ea, ra⟩ := R.lst e hp
        obtain ⟨z, rfl, rz⟩ := hs.one
        obtain ⟨b, ws, rfl, hb, eb, rb⟩ := R.lst e' rz
        obtain ⟨R', G⟩ := R.wrL (cl := rfs zs) e ha ea (ra.append rb) (fun hc b hb => blws_app hb (PV.blws_mono (Nat.zero_le _) _ hc))
        exact mt_extend pins s σ H _ _ v us Q I rx rv ⟨a, b, vs, ws, rfl, rfl, ea, eb, by rw [← ra.length, ← rb.length, ← line_eq]; exact c, k _ _ _ R' G rv_non'⟩
      · cases h
    · cases h
  · cases h
theorem mm_insert : MtR X "list.insert" (rM X.K .insert) := by
  intro pins s σ H x xs v us Q I rx rv h
  obtain ⟨B, ρ, t, p, ps, w, t', R, hp, hs, h, k⟩ := h
  replace h : mInsert p ps t = some (w, t') := h
  unfold mInsert at h
  split at h
  · rename_i n i y
    split at h
    · rename_i ys e
      obtain ⟨c, e2⟩ := ite_some h
      cases e2
      obtain ⟨a, vs, rfl, ha, ea, ra⟩ := R.lst e hp
      obtain ⟨z, z2, rfl, rz, rz2⟩ := hs.two
      obtain rfl := rv_int rz
      obtain ⟨R', G⟩ := R.wrL (cl := y.rf) e ha ea (((ra.take i.toNat).append (.cons rz2 .nil)).append (ra.drop i.toNat)) (fun hc b hb => blws_more hb hc fun q hq => by
        simp only [List.mem_append, List.mem_singleton] at hq
        rcases hq with (hq | hq) | hq
        · exact .inl (List.mem_of_mem_take hq)
        · exact .inr hq
        · exact .inl (List.mem_of_mem_drop hq))
      exact mt_insert pins s σ H _ _ v us Q I rx rv ⟨a, vs, i, z2, rfl, rfl, ea, by rw [← ra.length, ← line_eq]; exact c.1, c.2.1, c.2.2, k _ _ _ R' G rv_non'⟩
    · cases h
  · cases h
theorem mm_reverse : MtR X "list.reverse" (rM X.K .reverse) := by
  intro pins s σ H x xs v us Q I rx rv h
  obtain ⟨B, ρ, t, p, ps, w, t', R, hp, hs, h, k⟩ := h
  replace h : mReverse p ps t = some (w, t') := h
  unfold mReverse at h
  split at h
  · rename_i n
    split at h
    · rename_i ys e
      cases h
      obtain ⟨a, vs, rfl, ha, ea, ra⟩ := R.lst e hp
      have hs0 := hs.inv0
      subst hs0
      obtain ⟨R', G⟩ := R.wrL (cl := true) e ha ea ra.reverse (fun hc b hb => blws_sub hb fun q hq => by simpa using hq)
      exact mt_reverse pins s σ H _ _ v us Q I rx rv ⟨a, vs, rfl, rfl, ea, k _ _ _ R' G rv_non'⟩
    · cases h
  · cases h
theorem mm_pop : MtR X "list.pop" (rM X.K .pop) := by
  intro pins s σ H x xs v us Q I rx rv h
  obtain ⟨B, ρ, t, p, ps, w, t', R, hp, hs, h, k⟩ := h
  replace h : mPop p ps t = some (w, t') := h
  unfold mPop at h
  split at h
  · rename_i n
    split at h
    · rename_i ys e
      split at h
      · rename_i y ey
        cases h
        obtain ⟨a, vs, rfl, ha, ea, ra⟩ := R.lst e hp
        have hs0 := hs.inv0
        subst hs0
        obtain ⟨z, ez, rz⟩ := ra.get ey
        obtain ⟨R', G⟩ := R.wrL (cl := true) e ha ea ra.dropLast (fun hc b hb => blws_sub hb fun q hq => List.dropLast_subset _ hq)
        exact mt_pop pins s σ H _ _ v us Q I rx rv ⟨a, vs, z, rfl, rfl, ea, by rw [← ra.length]; exact ez, k _ _ _ R' G (rz.mono G _ _)⟩
      · cases h
    · cases h
  · rename_i n i
    split at h
    · rename_i ys e
      split at h
      · rename_i c
        split at h
        · cases h
        · rename_i j ej
          split at h
          · rename_i y ey
            cases h
            obtain ⟨a, vs, rfl, ha, ea, ra⟩ := R.lst e hp
            obtain ⟨z1, rfl, rz1⟩ := hs.one
            obtain rfl := rv_int rz1
            obtain ⟨z, ez, rz⟩ := ra.get ey
            obtain ⟨R', G⟩ := R.wrL (cl := true) e ha ea (ra.erase j) (fun hc b hb => blws_sub hb fun q hq => List.mem_of_mem_eraseIdx hq)
            have sq := L2.ixN_seq (by rw [← ixE_eq]; exact ej)
            exact mt_popAt pins s σ H _ _ v us Q I rx rv ⟨a, vs, i, j, z, rfl, rfl, ea, c.1, c.2, by rw [← ra.length]; exact sq.1, ez, k _ _ _ R' G (rz.mono G _ _)⟩
          · cases h
      · cases h
    · cases h
  · cases h
theorem flat_ok {K : PySem.W.Frag} {ρ : List Addr} {p : PV} {v : V} (h : RV K ρ H p v) (f : flatP p = true) : L2.flatV v = true ∧ ∀ (q : PV) (w : V), RV K ρ H q w → flatP q = true → L2.eqV v w = eqv p q := by
  have bs : ∀ x y : Sg, ((⟨⟨x⟩⟩ : Str) == (⟨⟨y⟩⟩ : Str)) = decide (x = y) := str_beq
  cases p <;> first | cases f | skip
  all_goals unfold RV at h
  all_goals subst h
  all_goals refine ⟨rfl, fun q w hq fq => ?_⟩
  all_goals cases q <;> first | cases fq | skip
  all_goals unfold RV at hq
  all_goals subst hq
  all_goals unfold eqv
  all_goals first | rfl | exact int_beq _ _ | exact bs _ _
theorem all_flat {K : PySem.W.Frag} {ρ : List Addr} : ∀ {ps : List PV} {vs : List V}, RVs K ρ H ps vs → ps.all flatP = true → vs.all L2.flatV = true
  | [], _, h, _ => by rw [h.inv0]; rfl
  | p :: ps, _, h, f => by
    obtain ⟨w, ws, rfl, a, b⟩ := h.inv
    rw [List.all_cons, Bool.and_eq_true_iff] at f
    rw [List.all_cons, (flat_ok a f.1).1, all_flat b f.2]
    rfl
theorem indexOf_ok {K : PySem.W.Frag} {ρ : List Addr} {p : PV} {v : V} (hp : RV K ρ H p v) (fp : flatP p = true) : ∀ {ps : List PV} {vs : List V} {j : Nat}, RVs K ρ H ps vs → ps.all flatP = true → indexOf p ps = some j →
    ∃ z, vs[j]? = some z ∧ L2.eqV z v = true ∧ ∀ m, m < j → ∀ y, vs[m]? = some y → L2.eqV y v = false
  | [], _, _, _, _, e => by cases e
  | q :: ps, _, j, h, f, e => by
    obtain ⟨w, ws, rfl, a, b⟩ := h.inv
    rw [List.all_cons, Bool.and_eq_true_iff] at f
    have ev := (flat_ok a f.1).2 p v hp fp
    unfold indexOf at e
    cases c : eqv q p with
    | true =>
      rw [c, if_pos rfl] at e
      cases e
      exact ⟨w, rfl, by rw [ev]; exact c, fun m hm => absurd hm (Nat.not_lt_zero _)⟩
    | false =>
      rw [c, if_neg (by simp)] at e
      obtain ⟨i, e1, e2⟩ := Option.map_eq_some_iff.mp e
      subst e2
      obtain ⟨z, h1, h2, h3⟩ := indexOf_ok hp fp b f.2 e1
      refine ⟨z, by simpa using h1, h2, fun m hm y hy => ?_⟩
      cases m with
      | zero =>
        simp at hy
        subst hy
        rw [ev]
        exact c
      | succ m => exact h3 m (by omega) y (by simpa using hy)
theorem mm_index : MtR X "list.index" (rM X.K .index) := by
  intro pins s σ H x xs v us Q I rx rv h
  obtain ⟨B, ρ, t, p, ps, w, t', R, hp, hs, h, k⟩ := h
  replace h : mIndex p ps t = some (w, t') := h
  unfold mIndex at h
  split at h
  · rename_i n y
    split at h
    · rename_i ys e
      split at h
      · rename_i c
        split at h
        · rename_i j ej
          cases h
          obtain ⟨a, vs, rfl, ha, ea, ra⟩ := R.lst e hp
          obtain ⟨z, rfl, rz⟩ := hs.one
          obtain ⟨c1, c2⟩ := Bool.and_eq_true_iff.mp c
          obtain ⟨q, h1, h2, h3⟩ := indexOf_ok rz c1 ra c2 ej
          exact mt_index pins s σ H _ _ v us Q I rx rv ⟨a, vs, z, j, q, rfl, rfl, SqL.of ea, (flat_ok rz c1).1, all_flat ra c2, h1, h2, fun m z hm hz => h3 m hm z hz, k ρ H _ R Grow.refl (rv_int' _)⟩
        · cases h
      · cases h
    · cases h
  · cases h
end
end Ev

set_option linter.all false
set_option autoImplicit false
set_option maxRecDepth 100000
/-! Ev9: order and sorting of data. -/
namespace Ev
open PySem PySem.Spec PyProof.Rows L2

theorem toDs_map : ∀ xs : List PV, toDs xs = xs.map toD
  | [] => by unfold toDs; rfl
  | x :: xs => by unfold toDs; rw [toDs_map xs]; rfl
mutual
theorem Dt.toD : ∀ p : PV, p.rf = true → Dt p (Ev.toD p)
  | .non, _ => by unfold Dt Ev.toD; rfl
  | .bl _, _ => by unfold Dt Ev.toD; rfl
  | .int _, _ => by unfold Dt Ev.toD; rfl
  | .str _, _ => by unfold Dt Ev.toD; rfl
  | .tup xs, h => by
    unfold PV.rf PV.blw at h
    unfold Dt Ev.toD
    exact ⟨_, rfl, Dts.toD xs h⟩
  | .lv xs, h => by unfold PV.rf PV.blw at h; cases h
  | .ref n, h => by
    unfold PV.rf PV.blw at h
    exact absurd (of_decide_eq_true h) (Nat.not_lt_zero _)
theorem Dts.toD : ∀ ps : List PV, rfs ps = true → Dts ps (toDs ps)
  | [], _ => by unfold Dts toDs; rfl
  | x :: xs, h => by
    unfold rfs PV.blws at h
    obtain ⟨h1, h2⟩ := Bool.and_eq_true_iff.mp h
    unfold Dts toDs
    exact ⟨_, _, rfl, Dt.toD x h1, Dts.toD xs h2⟩
end
mutual
theorem deep_rf (look : Nat → Option PV) : ∀ p : PV, p.rf = true → deepW look p = some p
  | .non, _ => by unfold deepW; rfl
  | .bl _, _ => by unfold deepW; rfl
  | .int _, _ => by unfold deepW; rfl
  | .str _, _ => by unfold deepW; rfl
  | .tup xs, h => by
    unfold PV.rf PV.blw at h
    unfold deepW
    rw [deeps_rf look xs h]
    rfl
  | .lv xs, h => by unfold PV.rf PV.blw at h; cases h
  | .ref n, h => by
    unfold PV.rf PV.blw at h
    exact absurd (of_decide_eq_true h) (Nat.not_lt_zero _)
theorem deeps_rf (look : Nat → Option PV) : ∀ ps : List PV, rfs ps = true → deepsW look ps = some ps
  | [], _ => by unfold deepsW; rfl
  | x :: xs, h => by
    unfold rfs PV.blws at h
    obtain ⟨h1, h2⟩ := Bool.and_eq_true_iff.mp h
    unfold deepsW
    rw [deep_rf look x h1, deeps_rf look xs h2]
end
mutual
theorem alike_toD : ∀ p q : PV, alikeP p q = true → PySem.W.alike (toD p) (toD q) = true
  | .int _, q, h => by cases q <;> unfold alikeP at h <;> first | exact absurd h Bool.false_ne_true | (unfold toD PySem.W.alike; rfl)
  | .str _, q, h => by cases q <;> unfold alikeP at h <;> first | exact absurd h Bool.false_ne_true | (unfold toD PySem.W.alike; rfl)
  | .bl _, q, h => by cases q <;> unfold alikeP at h <;> first | exact absurd h Bool.false_ne_true | (unfold toD PySem.W.alike; rfl)
  | .tup xs, q, h => by
    cases q <;> unfold alikeP at h <;> first | exact absurd h Bool.false_ne_true | skip
    unfold toD PySem.W.alike
    exact alikes_toD _ _ h
  | .non, q, h => by unfold alikeP at h; cases h
  | .ref _, q, h => by unfold alikeP at h; cases h
  | .lv _, q, h => by unfold alikeP at h; cases h
theorem alikes_toD : ∀ ps qs : List PV, alikePs ps qs = true → PySem.W.alikeAll (toDs ps) (toDs qs) = true
  | [], _, _ => by unfold toDs; rw [PySem.W.alikeAll]
  | _ :: _, [], _ => by unfold toDs; rw [PySem.W.alikeAll]
  | x :: xs, y :: ys, h => by
    unfold alikePs at h
    obtain ⟨h1, h2⟩ := Bool.and_eq_true_iff.mp h
    unfold toDs
    rw [PySem.W.alikeAll, alike_toD x y h1, alikes_toD xs ys h2]
    rfl
end
theorem toD_eqv (p q : PV) (hp : p.rf = true) (hq : q.rf = true) : PyData.eqv (toD p) (toD q) = eqv p q := Dt.eqv _ _ _ _ (Dt.toD p hp) (Dt.toD q hq)
mutual
theorem dataLt_ltv : ∀ p q : PV, p.rf = true → q.rf = true → alikeP p q = true → PySem.W.dataLt (toD p) (toD q) = ltv p q
  | .int i, q, _, _, h => by
    cases q <;> unfold alikeP at h <;> first | exact absurd h Bool.false_ne_true | skip
    unfold toD ltv
    exact PySem.W.dataLt_int _ _
  | .str i, q, _, _, h => by
    cases q <;> unfold alikeP at h <;> first | exact absurd h Bool.false_ne_true | skip
    unfold toD ltv
    exact PySem.W.dataLt_str _ _
  | .bl i, .bl b, _, _, h => by
    unfold toD ltv
    rw [PySem.W.dataLt_bool]
    cases i <;> cases b <;> rfl
  | .bl i, .non, _, _, h | .bl i, .int _, _, _, h | .bl i, .str _, _, _, h | .bl i, .tup _, _, _, h | .bl i, .ref _, _, _, h | .bl i, .lv _, _, _, h => by unfold alikeP at h; exact absurd h Bool.false_ne_true
  | .tup xs, q, hp, hq, h => by
    cases q <;> unfold alikeP at h <;> first | exact absurd h Bool.false_ne_true | skip
    rename_i ys
    unfold toD ltv
    rw [PySem.W.dataLt_tuple]
    unfold PV.rf PV.blw at hp hq
    exact dataLt_ltvs xs ys hp hq h
  | .non, q, _, _, h => by unfold alikeP at h; exact absurd h Bool.false_ne_true
  | .ref _, q, _, _, h => by unfold alikeP at h; exact absurd h Bool.false_ne_true
  | .lv _, q, _, _, h => by unfold alikeP at h; exact absurd h Bool.false_ne_true
theorem dataLt_ltvs : ∀ ps qs : List PV, rfs ps = true → rfs qs = true → alikePs ps qs = true → PyProof.Rows.lexLt itemOrd (PySem.W.keyToksAll (toDs ps)) (PySem.W.keyToksAll (toDs qs)) = ltvs ps qs
  | [], [], _, _, _ => by unfold toDs ltvs; exact PyProof.Rows.lex_irrefl (O := itemOrd) _
  | [], y :: ys, _, _, _ => by
    unfold toDs ltvs
    rw [PySem.W.keyToksAll, PySem.W.keyToksAll]
    exact (PySem.W.lex_atom (by simp) _ _).trans (by rw [PySem.W.lex_one]; rfl)
  | x :: xs, [], _, _, _ => by
    unfold toDs ltvs
    rw [PySem.W.keyToksAll, PySem.W.keyToksAll]
    exact (PySem.W.lex_atom (by simp) _ _).trans (by rw [PySem.W.lex_one]; rfl)
  | x :: xs, y :: ys, hp, hq, h => by
    unfold rfs PV.blws at hp hq
    unfold alikePs at h
    obtain ⟨p1, p2⟩ := Bool.and_eq_true_iff.mp hp
    obtain ⟨q1, q2⟩ := Bool.and_eq_true_iff.mp hq
    obtain ⟨h1, h2⟩ := Bool.and_eq_true_iff.mp h
    unfold toDs ltvs
    rw [PySem.W.dataLt_cons (alike_toD x y h1), toD_eqv x y p1 q1, dataLt_ltvs xs ys p2 q2 h2, dataLt_ltv x y p1 q1 h1]
end
mutual
theorem eqv_alike : ∀ p q : PV, alikeP p q = true → eqv p q = true → p = q
  | .int i, q, h, a => by
    cases q <;> unfold alikeP at h <;> first | exact absurd h Bool.false_ne_true | skip
    unfold eqv at a
    rw [of_decide_eq_true a]
  | .str i, q, h, a => by
    cases q <;> unfold alikeP at h <;> first | exact absurd h Bool.false_ne_true | skip
    unfold eqv at a
    rw [of_decide_eq_true a]
  | .bl i, q, h, a => by
    cases q <;> unfold alikeP at h <;> first | exact absurd h Bool.false_ne_true | skip
    unfold eqv at a
    rw [eq_of_beq a]
  | .tup xs, q, h, a => by
    cases q <;> unfold alikeP at h <;> first | exact absurd h Bool.false_ne_true | skip
    unfold eqv at a
    rw [eqvs_alike xs _ h a]
  | .non, q, h, _ => by unfold alikeP at h; exact absurd h Bool.false_ne_true
  | .ref _, q, h, _ => by unfold alikeP at h; exact absurd h Bool.false_ne_true
  | .lv _, q, h, _ => by unfold alikeP at h; exact absurd h Bool.false_ne_true
theorem eqvs_alike : ∀ ps qs : List PV, alikePs ps qs = true → eqvs ps qs = true → ps = qs
  | [], [], _, _ => rfl
  | [], y :: ys, _, a => by unfold eqvs at a; cases a
  | x :: xs, [], _, a => by unfold eqvs at a; cases a
  | x :: xs, y :: ys, h, a => by
    unfold alikePs at h
    unfold eqvs at a
    obtain ⟨h1, h2⟩ := Bool.and_eq_true_iff.mp h
    obtain ⟨a1, a2⟩ := Bool.and_eq_true_iff.mp a
    rw [eqv_alike x y h1 a1, eqvs_alike xs ys h2 a2]
end
mutual
theorem eqv_self : ∀ p : PV, alikeP p p = true → eqv p p = true
  | .int i, _ => by unfold eqv; exact decide_eq_true rfl
  | .str i, _ => by unfold eqv; exact decide_eq_true rfl
  | .bl i, _ => by unfold eqv; exact beq_self_eq_true _
  | .tup xs, h => by
    unfold alikeP at h
    unfold eqv
    exact eqvs_self xs h
  | .non, h => by unfold alikeP at h; exact absurd h Bool.false_ne_true
  | .ref _, h => by unfold alikeP at h; exact absurd h Bool.false_ne_true
  | .lv _, h => by unfold alikeP at h; exact absurd h Bool.false_ne_true
theorem eqvs_self : ∀ ps : List PV, alikePs ps ps = true → eqvs ps ps = true
  | [], _ => by unfold eqvs; rfl
  | x :: xs, h => by
    unfold alikePs at h
    obtain ⟨h1, h2⟩ := Bool.and_eq_true_iff.mp h
    unfold eqvs
    rw [eqv_self x h1, eqvs_self xs h2]
    rfl
end
mutual
theorem alike_comm : ∀ p q : PV, alikeP p q = true → alikeP q p = true
  | .int i, q, h => by cases q <;> unfold alikeP at h ⊢ <;> first | exact absurd h Bool.false_ne_true | rfl
  | .str i, q, h => by cases q <;> unfold alikeP at h ⊢ <;> first | exact absurd h Bool.false_ne_true | rfl
  | .bl i, q, h => by cases q <;> unfold alikeP at h ⊢ <;> first | exact absurd h Bool.false_ne_true | rfl
  | .tup xs, q, h => by
    cases q <;> unfold alikeP at h ⊢ <;> first | exact absurd h Bool.false_ne_true | skip
    exact alikes_comm xs _ h
  | .non, q, h => by unfold alikeP at h; exact absurd h Bool.false_ne_true
  | .ref _, q, h => by unfold alikeP at h; exact absurd h Bool.false_ne_true
  | .lv _, q, h => by unfold alikeP at h; exact absurd h Bool.false_ne_true
theorem alikes_comm : ∀ ps qs : List PV, alikePs ps qs = true → alikePs qs ps = true
  | [], [], _ => by unfold alikePs; rfl
  | [], y :: ys, _ => by unfold alikePs; rfl
  | x :: xs, [], _ => by unfold alikePs; rfl
  | x :: xs, y :: ys, h => by
    unfold alikePs at h ⊢
    obtain ⟨h1, h2⟩ := Bool.and_eq_true_iff.mp h
    rw [alike_comm x y h1, alikes_comm xs ys h2]
    rfl
end
mutual
theorem alike_left : ∀ p q : PV, alikeP p q = true → eqv p q = true → alikeP p p = true
  | .int i, q, h, _ => by unfold alikeP; rfl
  | .str i, q, h, _ => by unfold alikeP; rfl
  | .bl i, q, h, _ => by unfold alikeP; rfl
  | .tup xs, q, h, a => by
    have e := eqv_alike _ _ h a
    subst e
    exact h
  | .non, q, h, _ => by unfold alikeP at h; exact absurd h Bool.false_ne_true
  | .ref _, q, h, _ => by unfold alikeP at h; exact absurd h Bool.false_ne_true
  | .lv _, q, h, _ => by unfold alikeP at h; exact absurd h Bool.false_ne_true
end
mutual
/-- alike and neither less: the same -/
theorem tri : ∀ p q : PV, alikeP p q = true → ltv p q = false → ltv q p = false → p = q
  | .int i, .int j, h, a, b => by
    unfold ltv at a b
    have := of_decide_eq_false a
    have := of_decide_eq_false b
    rw [show i = j by omega]
  | .str i, .str j, h, a, b => by
    unfold ltv at a b
    have h1 := of_decide_eq_false a
    have h2 := of_decide_eq_false b
    rw [List.le_antisymm (List.not_lt.mp h2) (List.not_lt.mp h1)]
  | .bl i, .bl j, h, a, b => by
    unfold ltv at a b
    cases i <;> cases j <;> first | rfl | simp at a b
  | .tup xs, .tup ys, h, a, b => by
    unfold alikeP at h
    unfold ltv at a b
    rw [tris xs ys h a b]
  | .int i, .non, h, _, _ | .int i, .str _, h, _, _ | .int i, .bl _, h, _, _ | .int i, .tup _, h, _, _ | .int i, .ref _, h, _, _ | .int i, .lv _, h, _, _ => by unfold alikeP at h; exact absurd h Bool.false_ne_true
  | .bl i, .non, h, _, _ | .bl i, .str _, h, _, _ | .bl i, .int _, h, _, _ | .bl i, .tup _, h, _, _ | .bl i, .ref _, h, _, _ | .bl i, .lv _, h, _, _ => by unfold alikeP at h; exact absurd h Bool.false_ne_true
  | .str i, .non, h, _, _ | .str i, .int _, h, _, _ | .str i, .bl _, h, _, _ | .str i, .tup _, h, _, _ | .str i, .ref _, h, _, _ | .str i, .lv _, h, _, _ => by unfold alikeP at h; exact absurd h Bool.false_ne_true
  | .tup i, .non, h, _, _ | .tup i, .int _, h, _, _ | .tup i, .bl _, h, _, _ | .tup i, .str _, h, _, _ | .tup i, .ref _, h, _, _ | .tup i, .lv _, h, _, _ => by unfold alikeP at h; exact absurd h Bool.false_ne_true
  | .non, q, h, _, _ => by unfold alikeP at h; exact absurd h Bool.false_ne_true
  | .ref _, q, h, _, _ => by unfold alikeP at h; exact absurd h Bool.false_ne_true
  | .lv _, q, h, _, _ => by unfold alikeP at h; exact absurd h Bool.false_ne_true
theorem tris : ∀ ps qs : List PV, alikePs ps qs = true → ltvs ps qs = false → ltvs qs ps = false → ps = qs
  | [], [], _, _, _ => rfl
  | [], y :: ys, _, a, _ => by unfold ltvs at a; cases a
  | x :: xs, [], _, _, b => by unfold ltvs at b; cases b
  | x :: xs, y :: ys, h, a, b => by
    unfold alikePs at h
    obtain ⟨h1, h2⟩ := Bool.and_eq_true_iff.mp h
    unfold ltvs at a b
    have exy : x = y := by
      cases c : eqv x y with
      | true => exact eqv_alike x y h1 c
      | false =>
        rw [c, if_neg (by simp)] at a
        cases d : eqv y x with
        | true => exact (eqv_alike y x (alike_comm x y h1) d).symm
        | false =>
          rw [d, if_neg (by simp)] at b
          exact tri x y h1 a b
    subst exy
    rw [eqv_self x h1, if_pos rfl] at a b
    rw [tris xs ys h2 a b]
end

mutual
theorem Dt.det : ∀ (p : PV) (D E : PyData), Dt p D → Dt p E → D = E
  | .non, _, _, h, g => by unfold Dt at h g; rw [h, g]
  | .bl _, _, _, h, g => by unfold Dt at h g; rw [h, g]
  | .int _, _, _, h, g => by unfold Dt at h g; rw [h, g]
  | .str _, _, _, h, g => by unfold Dt at h g; rw [h, g]
  | .tup xs, _, _, h, g => by
    unfold Dt at h g
    obtain ⟨a, rfl, ha⟩ := h
    obtain ⟨b, rfl, hb⟩ := g
    rw [Dts.det xs _ _ ha hb]
  | .lv xs, _, _, h, g => by
    unfold Dt at h g
    obtain ⟨a, rfl, ha⟩ := h
    obtain ⟨b, rfl, hb⟩ := g
    rw [Dts.det xs _ _ ha hb]
  | .ref _, _, _, h, _ => by unfold Dt at h; exact h.elim
theorem Dts.det : ∀ (ps : List PV) (D E : List PyData), Dts ps D → Dts ps E → D = E
  | [], _, _, h, g => by unfold Dts at h g; rw [h, g]
  | x :: xs, _, _, h, g => by
    unfold Dts at h g
    obtain ⟨a, as, rfl, h1, h2⟩ := h
    obtain ⟨b, bs, rfl, g1, g2⟩ := g
    rw [Dt.det x _ _ h1 g1, Dts.det xs _ _ h2 g2]
end
/-! ### insertion -/
section
variable {α : Type} (lt : α → α → Bool)
def insB (x : α) : List α → List α
  | [] => [x]
  | y :: ys => if lt x y then x :: y :: ys else y :: insB x ys
theorem insB_perm (x : α) : ∀ l : List α, (insB lt x l).Perm (x :: l)
  | [] => .refl _
  | y :: ys => by
    unfold insB
    split
    · exact .refl _
    · exact ((insB_perm x ys).cons y).trans (.swap _ _ _)
/-- not less the other way round: in order -/
theorem insB_sorted (neg : ∀ a b c, lt a b = false → lt b c = false → lt a c = false) (asym : ∀ a b, lt a b = true → lt b a = false) (x : α) : ∀ l : List α, l.Pairwise (fun a b => lt b a = false) → (insB lt x l).Pairwise (fun a b => lt b a = false)
  | [], _ => by unfold insB; exact List.pairwise_singleton _ _
  | y :: ys, h => by
    obtain ⟨h1, h2⟩ := List.pairwise_cons.mp h
    unfold insB
    by_cases c : lt x y = true
    · rw [if_pos c]
      refine List.pairwise_cons.mpr ⟨fun z hz => ?_, h⟩
      rcases List.mem_cons.mp hz with e | e
      · rw [e]; exact asym _ _ c
      · exact neg _ _ _ (h1 z e) (asym _ _ c)
    · rw [if_neg c]
      refine List.pairwise_cons.mpr ⟨fun z hz => ?_, insB_sorted neg asym x ys h2⟩
      rcases List.mem_cons.mp ((insB_perm lt x ys).mem_iff.mp hz) with e | e
      · rw [e]
        cases q : lt x y with
        | true => exact absurd q c
        | false => rfl
      · exact h1 z e
end
theorem ins1_eq (x : PV) : ∀ l : List PV, ins1 x l = insB ltv x l
  | [] => rfl
  | y :: ys => by
    unfold ins1 insB
    rw [ins1_eq x ys]

def ltD (p q : PV) : Bool := PySem.W.dataLt (toD p) (toD q)
theorem ltD_irrefl (p : PV) : ltD p p = false := PyProof.Rows.lex_irrefl (O := itemOrd) _
theorem ltD_trans (a b c : PV) (h : ltD a b = true) (g : ltD b c = true) : ltD a c = true := PyProof.Rows.lex_trans (O := itemOrd) _ _ _ h g
theorem ltD_neg (a b c : PV) (h : ltD a b = false) (g : ltD b c = false) : ltD a c = false := by
  cases q : ltD a c with
  | false => rfl
  | true =>
    have := PyProof.Rows.lex_negTrans (O := itemOrd) (PySem.W.keyToks (toD a)) (PySem.W.keyToks (toD b)) (PySem.W.keyToks (toD c)) q
    rcases this with z | z
    · exact absurd (h.symm.trans z) Bool.false_ne_true
    · exact absurd (g.symm.trans z) Bool.false_ne_true
theorem ltD_asym (a b : PV) (h : ltD a b = true) : ltD b a = false := by
  cases q : ltD b a with
  | false => rfl
  | true =>
    have := ltD_trans _ _ _ h q
    rw [ltD_irrefl] at this
    cases this
/-- all of one kind -/
def AlkL (l : List PV) : Prop := ∀ p ∈ l, ∀ q ∈ l, alikeP p q = true
theorem alikeAll_mem {x : PV} : ∀ {l : List PV}, Ev.alikeAll x l = true → ∀ q ∈ l, alikeP x q = true
  | [], _, _, h => nomatch h
  | y :: ys, h, q, hq => by
    unfold Ev.alikeAll at h
    obtain ⟨h1, h2⟩ := Bool.and_eq_true_iff.mp h
    rcases List.mem_cons.mp hq with e | e
    · rw [e]; exact h1
    · exact alikeAll_mem h2 q e
theorem alikeEach_mem : ∀ {l : List PV}, alikeEach l = true → AlkL l
  | [], _, _, h, _, _ => nomatch h
  | x :: xs, h, p, hp, q, hq => by
    unfold alikeEach at h
    obtain ⟨h12, h3⟩ := Bool.and_eq_true_iff.mp h
    obtain ⟨h1, h2⟩ := Bool.and_eq_true_iff.mp h12
    rcases List.mem_cons.mp hp with e | e
    · rcases List.mem_cons.mp hq with f | f
      · rw [e, f]; exact h1
      · rw [e]; exact alikeAll_mem h2 q f
    · rcases List.mem_cons.mp hq with f | f
      · rw [f]; exact alike_comm _ _ (alikeAll_mem h2 p e)
      · exact alikeEach_mem h3 p e q f
theorem rfs_mem {l : List PV} (h : rfs l = true) : ∀ p ∈ l, p.rf = true := blws_mem.mp h
theorem ltv_ltD {l : List PV} (a : AlkL l) (r : rfs l = true) {p q : PV} (hp : p ∈ l) (hq : q ∈ l) : ltv p q = ltD p q :=
  (dataLt_ltv p q (rfs_mem r p hp) (rfs_mem r q hq) (a p hp q hq)).symm
theorem insB_congr {lt lt' : PV → PV → Bool} {x : PV} : ∀ {l : List PV}, (∀ y ∈ l, lt x y = lt' x y) → insB lt x l = insB lt' x l
  | [], _ => rfl
  | y :: ys, h => by
    unfold insB
    rw [h y List.mem_cons_self, insB_congr fun z hz => h z (List.mem_cons_of_mem _ hz)]
theorem fold_sorted (lt : PV → PV → Bool) (neg : ∀ a b c, lt a b = false → lt b c = false → lt a c = false) (asym : ∀ a b, lt a b = true → lt b a = false) : ∀ (xs acc : List PV), acc.Pairwise (fun a b => lt b a = false) →
    (xs.foldl (fun acc x => insB lt x acc) acc).Pairwise (fun a b => lt b a = false) ∧ (xs.foldl (fun acc x => insB lt x acc) acc).Perm (xs ++ acc)
  | [], acc, h => ⟨h, .refl _⟩
  | x :: xs, acc, h => by
    obtain ⟨a, b⟩ := fold_sorted lt neg asym xs _ (insB_sorted lt neg asym x acc h)
    refine ⟨a, b.trans ?_⟩
    exact ((insB_perm lt x acc).append_left xs).trans List.perm_middle
theorem fold_congr {lt lt' : PV → PV → Bool} {l : List PV} (h : ∀ x ∈ l, ∀ y ∈ l, lt x y = lt' x y) : ∀ (xs acc : List PV), (∀ x ∈ xs, x ∈ l) → (∀ x ∈ acc, x ∈ l) →
    xs.foldl (fun acc x => insB lt x acc) acc = xs.foldl (fun acc x => insB lt' x acc) acc
  | [], _, _, _ => rfl
  | x :: xs, acc, hx, ha => by
    rw [List.foldl_cons, List.foldl_cons, insB_congr fun y hy => h x (hx x List.mem_cons_self) y (ha y hy)]
    refine fold_congr h xs _ (fun z hz => hx z (List.mem_cons_of_mem _ hz)) fun z hz => ?_
    rcases List.mem_cons.mp ((insB_perm lt' x acc).mem_iff.mp hz) with e | e
    · rw [e]; exact hx x List.mem_cons_self
    · exact ha z e
theorem isort_fold (xs : List PV) : isort xs = xs.foldl (fun acc x => insB ltv x acc) [] := by
  unfold isort
  congr 1
  funext acc x
  exact ins1_eq x acc
theorem isort_spec {xs : List PV} (a : AlkL xs) (r : rfs xs = true) : (isort xs).Pairwise (fun p q => ltD q p = false) ∧ (isort xs).Perm xs := by
  rw [isort_fold, fold_congr (l := xs) (fun x hx y hy => ltv_ltD a r hx hy) xs [] (fun _ h => h) (fun _ h => nomatch h)]
  have := fold_sorted ltD ltD_neg ltD_asym xs [] .nil
  rw [List.append_nil] at this
  exact this
theorem dataLe_ltD (p q : PV) : PySem.W.dataLe false toD p q = !ltD q p := rfl
/-- what the program's sorted gives -/
theorem isort_merge {xs : List PV} (a : AlkL xs) (r : rfs xs = true) : xs.mergeSort (PySem.W.dataLe false toD) = isort xs := by
  obtain ⟨s1, p1⟩ := isort_spec a r
  have p2 : (xs.mergeSort (PySem.W.dataLe false toD)).Perm xs := List.mergeSort_perm _ _
  have s2 : (xs.mergeSort (PySem.W.dataLe false toD)).Pairwise (fun p q => ltD q p = false) := by
    refine (List.pairwise_mergeSort (le := PySem.W.dataLe false toD) (fun a b c h g => ?_) (fun a b => ?_) xs).imp fun {p q} h => ?_
    · rw [dataLe_ltD] at h g ⊢
      have h' : ltD b a = false := by simpa using h
      have g' : ltD c b = false := by simpa using g
      rw [ltD_neg c b a g' h']
      rfl
    · rw [dataLe_ltD, dataLe_ltD]
      cases q : ltD b a with
      | false => rfl
      | true => rw [ltD_asym _ _ q]; rfl
    · rw [dataLe_ltD] at h
      simpa using h
  refine List.Perm.eq_of_pairwise (le := fun p q => ltD q p = false) (fun p q hp hq h g => ?_) s2 s1 (p2.trans p1.symm)
  have mp := p2.mem_iff.mp hp
  have mq := p1.mem_iff.mp hq
  exact tri p q (a p mp q mq) (by rw [ltv_ltD a r mp mq]; exact g) (by rw [ltv_ltD a r mq mp]; exact h)

section
variable {X : Cx} {H : Hp}
theorem dp_of {K : PySem.W.Frag} {B : Nat → Option Nat} {ρ : List Addr} {t : S} {p : PV} {v : V} (R : Rel K B ρ t H) (r : RV K ρ H p v) (h : p.rf = true) : Dp K H v (toD p) := by
  obtain ⟨D, d1, d2⟩ := deep_ok R (deep_rf _ p h) r
  have e := Dt.det p _ _ d1 (Dt.toD p h)
  rw [← e]
  exact d2
end
end Ev

set_option linter.all false
set_option autoImplicit false
set_option maxRecDepth 100000
/-! Ev10: built-in functions. -/
namespace Ev
open PySem PySem.Spec PyProof.Rows L2
section
variable {X : Cx} {H : Hp}
abbrev rB (K : PySem.W.Frag) (f : Blt) := rN K (blt f)
theorem cb_len : CallR X (.builtin "len") (rB X.K .len) := by
  intro pins s σ H xs us Q I r h
  obtain ⟨B, ρ, t, ps, w, t', R, hs, h, k⟩ := h
  replace h : bLen ps t = some (w, t') := h
  unfold bLen at h
  split at h
  · obtain ⟨c, e⟩ := ite_some h
    cases e
    obtain ⟨v, rfl, hv⟩ := hs.one
    obtain rfl := rv_str hv
    exact call_len_str pins s σ H _ us Q I r ⟨_, rfl, by rw [str_len, ← line_eq]; exact c, k ρ H _ R Grow.refl (rv_int' _)⟩
  · split at h
    · rename_i e
      cases h
      obtain ⟨v, rfl, hv⟩ := hs.one
      obtain ⟨a, vs, rfl, ha, ra⟩ := R.seq e hv
      refine call_len_seq pins s σ H _ us Q I r ⟨a, vs, rfl, ha, ?_⟩
      rw [← ra.length]
      exact k ρ H _ R Grow.refl (rv_int' _)
    · cases h
  · cases h
theorem cb_list : CallR X (.type "list") (rB X.K .list) := by
  intro pins s σ H xs us Q I r h
  obtain ⟨B, ρ, t, ps, w, t', R, hs, h, k⟩ := h
  replace h : bList ps t = some (w, t') := h
  unfold bList at h
  split at h
  · split at h
    · rename_i e
      cases h
      obtain ⟨v, rfl, hv⟩ := hs.one
      obtain ⟨a, vs, rfl, ha, ra⟩ := R.seq e hv
      exact call_list_of pins s σ H _ us Q I r ⟨a, vs, rfl, ha, fun p hn => k _ _ _ (R.newL hn ra) (Grow.new hn) R.end⟩
    · cases h
  · cases h
theorem cb_tuple : CallR X (.type "tuple") (rB X.K .tuple) := by
  intro pins s σ H xs us Q I r h
  obtain ⟨B, ρ, t, ps, w, t', R, hs, h, k⟩ := h
  replace h : bTuple ps t = some (w, t') := h
  unfold bTuple at h
  split at h
  · rename_i p
    split at h
    · rename_i ys e
      cases h
      obtain ⟨v, rfl, hv⟩ := hs.one
      obtain ⟨a, vs, rfl, ha, ra⟩ := R.seqH e hv
      refine call_tuple_of pins s σ H _ us Q I r ⟨a, vs, rfl, ?_⟩
      rcases ha with ha | ha
      · exact .inl ⟨ha, fun p hn => k ρ _ _ (R.newT hn) (Grow.new0 hn) (RV.newT hn ra)⟩
      · exact .inr ⟨SqT.of ha, k ρ H _ R Grow.refl (by unfold RV; exact ⟨a, vs, rfl, ha, ra⟩)⟩
    · cases h
  · cases h
theorem bools_ok {K : PySem.W.Frag} {ρ : List Addr} : ∀ {xs : List PV} {vs : List V} {bs : List Bool}, RVs K ρ H xs vs → boolsOf xs = some bs → vs = bs.map V.bl
  | [], _, _, h, e => by cases e; rw [h.inv0]; rfl
  | x :: xs, _, _, h, e => by
    obtain ⟨w, ws, rfl, a, b⟩ := h.inv
    cases x <;> first | cases e | skip
    obtain ⟨bs, e1, e2⟩ := Option.map_eq_some_iff.mp e
    subst e2
    rw [bools_ok b e1, rv_bl a]
    rfl
theorem ints_ok {K : PySem.W.Frag} {ρ : List Addr} : ∀ {xs : List PV} {vs : List V} {bs : List Int}, RVs K ρ H xs vs → intsOf xs = some bs → vs = bs.map V.int
  | [], _, _, h, e => by cases e; rw [h.inv0]; rfl
  | x :: xs, _, _, h, e => by
    obtain ⟨w, ws, rfl, a, b⟩ := h.inv
    cases x <;> first | cases e | skip
    obtain ⟨bs, e1, e2⟩ := Option.map_eq_some_iff.mp e
    subst e2
    rw [ints_ok b e1, rv_int a]
    rfl
theorem bAll_inv {any : Bool} {ps : List PV} {t t' : S} {w : PV} (h : bAll any ps t = some (w, t')) : ∃ n xs bs, ps = [.ref n] ∧ lstAt t n = some xs ∧ boolsOf xs = some bs ∧ w = .bl (if any then bs.any id else bs.all id) ∧ t' = t := by
  unfold bAll at h
  split at h
  · split at h
    · rename_i e
      split at h
      · rename_i e2
        cases h
        exact ⟨_, _, _, rfl, e, e2, rfl, rfl⟩
      · cases h
    · cases h
  · cases h
theorem cb_all (hc : X.calm = true) : CallR X (.builtin "all") (rB X.K .all) := by
  intro pins s σ H xs us Q I r h
  obtain ⟨B, ρ, t, ps, w, t', R, hs, h, k⟩ := h
  obtain ⟨n, ys, bs, rfl, e1, e2, rfl, rfl⟩ := bAll_inv (show bAll false ps t = some (w, t') from h)
  obtain ⟨v, rfl, hv⟩ := hs.one
  obtain ⟨a, vs, rfl, _, ha, ra⟩ := R.list e1 hv
  have e3 := bools_ok ra e2
  subst e3
  exact cr_all hc pins s σ H _ us Q I r ⟨a, bs, rfl, ha, k ρ H _ R Grow.refl (rv_bl' _)⟩
theorem cb_any (hc : X.calm = true) : CallR X (.builtin "any") (rB X.K .any) := by
  intro pins s σ H xs us Q I r h
  obtain ⟨B, ρ, t, ps, w, t', R, hs, h, k⟩ := h
  obtain ⟨n, ys, bs, rfl, e1, e2, rfl, rfl⟩ := bAll_inv (show bAll true ps t = some (w, t') from h)
  obtain ⟨v, rfl, hv⟩ := hs.one
  obtain ⟨a, vs, rfl, _, ha, ra⟩ := R.list e1 hv
  have e3 := bools_ok ra e2
  subst e3
  exact cr_any hc pins s σ H _ us Q I r ⟨a, bs, rfl, ha, k ρ H _ R Grow.refl (rv_bl' _)⟩
theorem cb_int : CallR X (.type "int") (rB X.K .int) := by
  intro pins s σ H xs us Q I r h
  obtain ⟨B, ρ, t, ps, w, t', R, hs, h, k⟩ := h
  replace h : bInt ps t = some (w, t') := h
  unfold bInt at h
  split at h
  · cases h
    obtain ⟨v, rfl, hv⟩ := hs.one
    obtain rfl := rv_int hv
    exact call_int1 pins s σ H _ us Q I r (.inl ⟨_, rfl, k ρ H _ R Grow.refl (rv_int' _)⟩)
  · cases h
    obtain ⟨v, rfl, hv⟩ := hs.one
    obtain rfl := rv_bl hv
    exact call_int1 pins s σ H _ us Q I r (.inr ⟨_, rfl, k ρ H _ R Grow.refl (rv_int' _)⟩)
  · cases h
theorem bMm_inv {big : Bool} {ps : List PV} {t t' : S} {w : PV} (h : bMm big ps t = some (w, t')) : ∃ n xs i is, ps = [.ref n] ∧ lstAt t n = some xs ∧ intsOf xs = some (i :: is) ∧ w = .int (if big then is.foldl max i else is.foldl min i) ∧ t' = t := by
  unfold bMm at h
  split at h
  · split at h
    · rename_i e
      split at h
      · rename_i e2
        cases h
        exact ⟨_, _, _, _, rfl, e, e2, rfl, rfl⟩
      · cases h
    · cases h
  · cases h
theorem foldmax_ge : ∀ (l : List Int) (i : Int), i ≤ l.foldl max i ∧ ∀ y ∈ l, y ≤ l.foldl max i
  | [], i => ⟨Int.le_refl _, fun _ h => nomatch h⟩
  | x :: xs, i => by
    obtain ⟨a, b⟩ := foldmax_ge xs (max i x)
    refine ⟨Int.le_trans (Int.le_max_left _ _) a, fun y hy => ?_⟩
    rcases List.mem_cons.mp hy with e | e
    · rw [e]; exact Int.le_trans (Int.le_max_right _ _) a
    · exact b y e
theorem foldmax_mem : ∀ (l : List Int) (i : Int), l.foldl max i ∈ i :: l
  | [], i => List.mem_cons_self
  | x :: xs, i => by
    have h := foldmax_mem xs (max i x)
    rcases List.mem_cons.mp h with e | e
    · rw [List.foldl_cons, e]
      rcases Int.max_def i x ▸ (show (if i ≤ x then x else i) = x ∨ (if i ≤ x then x else i) = i by split <;> simp) with z | z
      · rw [Int.max_def]; split <;> simp
      · rw [Int.max_def]; split <;> simp
    · exact List.mem_cons_of_mem _ (List.mem_cons_of_mem _ e)
theorem foldmin_le : ∀ (l : List Int) (i : Int), l.foldl min i ≤ i ∧ ∀ y ∈ l, l.foldl min i ≤ y
  | [], i => ⟨Int.le_refl _, fun _ h => nomatch h⟩
  | x :: xs, i => by
    obtain ⟨a, b⟩ := foldmin_le xs (min i x)
    refine ⟨Int.le_trans a (Int.min_le_left _ _), fun y hy => ?_⟩
    rcases List.mem_cons.mp hy with e | e
    · rw [e]; exact Int.le_trans a (Int.min_le_right _ _)
    · exact b y e
theorem foldmin_mem : ∀ (l : List Int) (i : Int), l.foldl min i ∈ i :: l
  | [], i => List.mem_cons_self
  | x :: xs, i => by
    have h := foldmin_mem xs (min i x)
    rcases List.mem_cons.mp h with e | e
    · rw [List.foldl_cons, e, Int.min_def]
      split <;> simp
    · exact List.mem_cons_of_mem _ (List.mem_cons_of_mem _ e)
theorem cb_max (hc : X.calm = true) : CallR X (.builtin "max") (rB X.K .max) := by
  intro pins s σ H xs us Q I r h
  obtain ⟨B, ρ, t, ps, w, t', R, hs, h, k⟩ := h
  obtain ⟨n, ys, i, is, rfl, e1, e2, rfl, rfl⟩ := bMm_inv (show bMm true ps t = some (w, t') from h)
  obtain ⟨v, rfl, hv⟩ := hs.one
  obtain ⟨a, vs, rfl, _, ha, ra⟩ := R.list e1 hv
  have e3 := ints_ok ra e2
  subst e3
  refine cr_max hc pins s σ H _ us Q I r ⟨a, i :: is, rfl, ha, Nat.succ_pos _, fun m hm hy => ?_⟩
  obtain ⟨g1, g2⟩ := foldmax_ge is i
  have e : m = is.foldl max i := Int.le_antisymm (by
    rcases List.mem_cons.mp hm with z | z
    · rw [z]; exact g1
    · exact g2 m z) (hy _ (foldmax_mem is i))
  rw [e]
  exact k ρ H _ R Grow.refl (rv_int' _)
theorem cb_min (hc : X.calm = true) : CallR X (.builtin "min") (rB X.K .min) := by
  intro pins s σ H xs us Q I r h
  obtain ⟨B, ρ, t, ps, w, t', R, hs, h, k⟩ := h
  obtain ⟨n, ys, i, is, rfl, e1, e2, rfl, rfl⟩ := bMm_inv (show bMm false ps t = some (w, t') from h)
  obtain ⟨v, rfl, hv⟩ := hs.one
  obtain ⟨a, vs, rfl, _, ha, ra⟩ := R.list e1 hv
  have e3 := ints_ok ra e2
  subst e3
  refine cr_min hc pins s σ H _ us Q I r ⟨a, i :: is, rfl, ha, Nat.succ_pos _, fun m hm hy => ?_⟩
  obtain ⟨g1, g2⟩ := foldmin_le is i
  have e : m = is.foldl min i := Int.le_antisymm (hy _ (foldmin_mem is i)) (by
    rcases List.mem_cons.mp hm with z | z
    · rw [z]; exact g1
    · exact g2 m z)
  rw [e]
  exact k ρ H _ R Grow.refl (rv_int' _)
/-! isinstance -/
def kindTy : Nat → String
  | 0 => "NoneType" | 1 => "bool" | 2 => "int" | 3 => "str" | 4 => "tuple" | _ => "list"
theorem kind_ok {K : PySem.W.Frag} {B : Nat → Option Nat} {ρ : List Addr} {t : S} {p : PV} {v : V} {n : Nat} (R : Rel K B ρ t H) (r : RV K ρ H p v) (h : kind t p = some n) : TyX K H v (.type (kindTy n)) := by
  cases p with
  | non => cases h; rw [rv_non r]; exact .base .non
  | bl b => cases h; rw [rv_bl r]; exact .base (.bl _)
  | int b => cases h; rw [rv_int r]; exact .base (.int _)
  | str b => cases h; rw [rv_str r]; exact .base (.str _)
  | tup xs =>
    cases h
    obtain ⟨a, vs, rfl, q, _⟩ := rv_tup r
    rcases q with (q | ⟨o, q⟩) | ⟨o, its, n, q, c, _⟩
    · exact .base (.tup q)
    · exact .fTuple q
    · exact .kTuple q c
  | lv xs => cases h
  | ref m =>
    obtain ⟨a, rfl, ha⟩ := rv_ref r
    replace h : (match t.g[m]? with
      | some (.lst _) => some 5
      | some (.fix _) => some 5
      | _ => none) = some n := h
    split at h
    · rename_i e
      cases h
      obtain ⟨vs, q, _⟩ := R.ob m _ a e ha
      exact .base (.lst q)
    · rename_i e
      cases h
      obtain ⟨vs, q, _⟩ := R.ob m _ a e ha
      rcases q with q | ⟨o, q⟩
      · exact .base (.lst q)
      · exact .base (.frz q)
    · cases h
/-- isinstance(x, T) -/
def rIs (K : PySem.W.Frag) (T : String) (ks : List Nat) : List V → Hp → VK → Prop := fun xs H Q => ∃ B ρ s p x n, Rel K B ρ s H ∧ xs = [x, .ty T] ∧ RV K ρ H p x ∧ kind s p = some n ∧ Q (.bl (ks.contains n)) H
theorem kind_le {t : S} {p : PV} {n : Nat} (h : kind t p = some n) : n ≤ 5 := by
  cases p <;> first | (cases h; done) | (cases h; decide) | skip
  · rename_i m
    replace h : (match t.g[m]? with
      | some (.lst _) => some 5
      | some (.fix _) => some 5
      | _ => none) = some n := h
    split at h <;> first | (cases h; decide) | cases h
theorem cb_is {T : String} {ks : List Nat} (hk : ∀ n, n ≤ 5 → kitB (kindTy n) T = some (ks.contains n)) : CallR X (.builtin "isinstance") (rIs X.K T ks) := by
  intro pins s σ H xs us Q I r h
  obtain ⟨B, ρ, t, p, x, n, R, rfl, hp, h, k⟩ := h
  exact call_isi pins s σ H _ us Q I r ⟨x, .ty T, .type (kindTy n), .type T, _, rfl, .ty T, kind_ok R hp h, kit_ty (hk n (kind_le h)), k⟩
theorem is_tuple : ∀ n, n ≤ 5 → kitB (kindTy n) "tuple" = some ([4].contains n) := by
  intro n h
  match n, h with
  | 0, _ => decide +kernel
  | 1, _ => decide +kernel
  | 2, _ => decide +kernel
  | 3, _ => decide +kernel
  | 4, _ => decide +kernel
  | 5, _ => decide +kernel
theorem is_int : ∀ n, n ≤ 5 → kitB (kindTy n) "int" = some ([1, 2].contains n) := by
  intro n h
  match n, h with
  | 0, _ => decide +kernel
  | 1, _ => decide +kernel
  | 2, _ => decide +kernel
  | 3, _ => decide +kernel
  | 4, _ => decide +kernel
  | 5, _ => decide +kernel
theorem is_str : ∀ n, n ≤ 5 → kitB (kindTy n) "str" = some ([3].contains n) := by
  intro n h
  match n, h with
  | 0, _ => decide +kernel
  | 1, _ => decide +kernel
  | 2, _ => decide +kernel
  | 3, _ => decide +kernel
  | 4, _ => decide +kernel
  | 5, _ => decide +kernel
theorem is_bool : ∀ n, n ≤ 5 → kitB (kindTy n) "bool" = some ([1].contains n) := by
  intro n h
  match n, h with
  | 0, _ => decide +kernel
  | 1, _ => decide +kernel
  | 2, _ => decide +kernel
  | 3, _ => decide +kernel
  | 4, _ => decide +kernel
  | 5, _ => decide +kernel
theorem is_list : ∀ n, n ≤ 5 → kitB (kindTy n) "list" = some ([5].contains n) := by
  intro n h
  match n, h with
  | 0, _ => decide +kernel
  | 1, _ => decide +kernel
  | 2, _ => decide +kernel
  | 3, _ => decide +kernel
  | 4, _ => decide +kernel
  | 5, _ => decide +kernel
end
end Ev

set_option linter.all false
set_option autoImplicit false
set_option maxRecDepth 100000
set_option maxHeartbeats 4000000
/-! Ev11: sets of ints and texts, made of a list or a tuple, then sorted. -/
namespace Ev
open PySem PySem.Spec PyProof.Rows L2

/-- the key that a value is -/
def kOf : Value → Key
  | .int i _ => .inl i
  | .str x _ => .inr x
  | _ => .inl 0
abbrev kE (e : Int × Value) : Key := kOf e.2
def Good (w : World) (e : Int × Value) : Prop := keyIs (kE e) e.2 = true ∧ e.1 = keyH w (kE e) ∧ e.2.scannable = true
/-- the set at a has these members -/
def Mem (w : World) (h : Heap) (a : Addr) (L : List Key) : Prop :=
  ∃ o es ep t, h.get? a = some o ∧ (o.ExactSet ∧ o.data = .set es ep t) ∧ ((∀ e ∈ es.toList, Good w e) ∧ (es.toList.map kE).Perm L ∧ L.Nodup) ∧ (es.size < scanBound ∧ t.fits es.size = true) ∧
    Ris t.place.toList ∧ (w.params.followText "set-order" = true ∨ t.led = true)
theorem kOf_is {k : Key} {v : Value} (h : keyIs k v = true) : kOf v = k := by
  rcases keyIs_shape h with ⟨i, t, rfl, rfl⟩ | ⟨x, t, rfl, rfl⟩ <;> rfl
theorem scan_of {k : Key} {v : Value} (h : keyIs k v = true) : v.scannable = true := by
  rcases keyIs_shape h with ⟨i, t, rfl, rfl⟩ | ⟨x, t, rfl, rfl⟩ <;> rfl
theorem good_of {w : World} {k : Key} {v : Value} (h : keyIs k v = true) : Good w (keyH w k, v) := by
  have e : kE (keyH w k, v) = k := kOf_is h
  exact ⟨by rw [e]; exact h, by rw [e], scan_of h⟩
section
variable {P : Program} {w : World} {A : Around} {E : Value → Shared → Prop} {s : Shared} {a : Addr} {L : List Key}
theorem Mem.keep {h h' : Heap} (M : Mem w h a L) (k : ∀ o, h.get? a = some o → h'.get? a = some o) : Mem w h' a L := by
  obtain ⟨o, es, ep, t, ho, r⟩ := M
  exact ⟨o, es, ep, t, k o ho, r⟩
theorem Mem.perm {h : Heap} {L' : List Key} (M : Mem w h a L) (p : L.Perm L') : Mem w h a L' := by
  obtain ⟨o, es, ep, t, ho, x, ⟨g, q, n⟩, r⟩ := M
  exact ⟨o, es, ep, t, ho, x, ⟨g, q.trans p, p.nodup_iff.mp n⟩, r⟩
theorem good_elm {l : List (Int × Value)} (g : ∀ e ∈ l, Good w e) : ElemsOf (mixKind P w) l := fun e he => ⟨⟨kE e, (g e he).1, (g e he).2.1⟩, (g e he).2.2⟩
theorem good_find {l : List (Int × Value)} (g : ∀ e ∈ l, Good w e) (k : Key) : k ∈ l.map kE ↔ ∃ e ∈ l, (mixKind P w).is k e.2 = true := by
  rw [List.mem_map]
  constructor
  · rintro ⟨e, he, rfl⟩
    exact ⟨e, he, (g e he).1⟩
  · rintro ⟨e, he, q⟩
    exact ⟨e, he, kOf_is q⟩
/-- the end of an addition: stored, and laid anew where the table is too full -/
theorem add_end {g : Bool → Sem Unit} (hg : ∀ (b : Bool) (s₁ : Shared) (Q' : Unit → Shared → Prop), Q' () s₁ → wpAny (model P w) A (g b) Q' E s₁)
    {o : Obj} {es : Array (Int × Value)} {ep : Nat} {t : SetTable} (ho : s.heap.get? a = some o) (hx : o.ExactSet ∧ o.data = .set es ep t)
    {es1 : Array (Int × Value)} {t2 : SetTable} {L' : List Key} (g1 : (∀ e ∈ es1.toList, Good w e) ∧ (es1.toList.map kE).Perm L' ∧ L'.Nodup)
    (hb1 : es1.size < scanBound) (hf2 : t2.fits es1.size = true) (hr : Ris t2.place.toList) (hl : w.params.followText "set-order" = true ∨ t2.led = true) {wasDummy : Bool} {R : Option Bool → Shared → Prop}
    (hR : ∀ h', Heap.SameBut a s.heap h' → Mem w h' a L' → R (some true) { s with heap := h' }) :
    wpAny (model P w) A (do
        storeSet a es1 t2
        if (!wasDummy && t2.tooFull) = true then do
            g (relayAll t2 es1 (SetTable.grown es1.size)).2.2
            storeSet a (relayAll t2 es1 (SetTable.grown es1.size)).1 (relayAll t2 es1 (SetTable.grown es1.size)).2.1
            pure (some true)
          else pure (some true)) R E s := by
  refine wpAny_bind (wpAny_storeSet_of ho hx.2 ?_ (fits_of_scanBound hb1))
  have ho1 := store_at (es' := es1) (t' := t2) ho hx.2
  have sb1 := Heap.SameBut.update s.heap a (Obj.putSet es1 t2)
  by_cases c : (!wasDummy && t2.tooFull) = true
  · rw [if_pos c]
    have pm := relayAll_perm t2 es1 (SetTable.grown es1.size)
    have hf3 := relayAll_fits t2 es1 (SetTable.grown es1.size)
    have hr3 := relayAll_ris t2 es1 (SetTable.grown es1.size)
    have hl3 := relayAll_led t2 es1 (SetTable.grown es1.size)
    generalize relayAll t2 es1 (SetTable.grown es1.size) = Z at pm hf3 hr3 hl3 ⊢
    obtain ⟨es2, t3, gave⟩ := Z
    dsimp only at pm hf3 hr3 hl3 ⊢
    have hb2 : es2.size < scanBound := by
      have e : es2.size = es1.size := by rw [← Array.length_toList, pm.length_eq, Array.length_toList]
      rw [e]; exact hb1
    refine wpAny_bind (hg _ _ _ (wpAny_bind (wpAny_storeSet_of ho1 rfl ?_ (fits_of_scanBound hb2))))
    have ho2 := store_at (es' := es2) (t' := t3) ho1 rfl
    exact wpAny_pure (hR _ (sb1.trans (Heap.SameBut.update _ a _)) ⟨_, es2, _, t3, ho2, ⟨hx.1, rfl⟩, ⟨fun e he => g1.1 e (pm.mem_iff.mp he), (pm.map kE).trans g1.2.1, g1.2.2⟩, ⟨hb2, hf3⟩, hr3, hl.imp id fun z => by rw [hl3]; exact z⟩)
  · rw [if_neg c]
    exact wpAny_pure (hR _ sb1 ⟨_, es1, _, t2, ho1, ⟨hx.1, rfl⟩, g1, ⟨hb1, hf2⟩, hr, hl⟩)
theorem add_hashed {k : Key} {v : Value} {Q : Bool → Shared → Prop} (hk : keyIs k v = true) (M : Mem w s.heap a L) (room : L.length + 1 < scanBound)
    (hQ : ∀ b h' L', Heap.SameBut a s.heap h' → (k ∈ L ∧ L' = L ∨ k ∉ L ∧ L' = k :: L) → Mem w h' a L' → Q b { s with heap := h' }) :
    wpAny (model P w) A (setAddHashed a v ((mixKind P w).hash k)) Q E s := by
  obtain ⟨o, es, ep, t, ho, hx, ⟨g, pL, nd⟩, ⟨hb, hf⟩, hr, hl⟩ := M
  have hkey : (mixKind P w).is k v = true := hk
  have hsc : v.scannable = true := scan_of hk
  have hel : ElemsOf (mixKind P w) es.toList := good_elm g
  unfold setAddHashed setAddHashedIn
  refine wpAny_holding (wpAny_bind (wpAny_setState_of ho hx.2 hf ?_))
  dsimp only
  rw [byScan_of hsc hb hel]
  simp only [↓reduceIte]
  unfold setAddByScan
  refine wpAny_bind (wpAny_bind (wpAny_rule (wpAny_bind (wpAny_setScan_of hkey ho hx.2 hf hel ?_))))
  cases hfi : List.findIdx? (fun e => (mixKind P w).is k e.2) es.toList with
  | some j =>
    dsimp only
    obtain ⟨hj, pj, _⟩ := List.findIdx?_eq_some_iff_getElem.mp hfi
    have kL : k ∈ L := pL.mem_iff.mp ((good_find (P := P) (w := w) g k).2 ⟨es.toList[j], List.getElem_mem hj, pj⟩)
    have q := hQ false s.heap L (Heap.SameBut.refl a s.heap) (.inl ⟨kL, rfl⟩) ⟨o, es, ep, t, ho, hx, ⟨g, pL, nd⟩, ⟨hb, hf⟩, hr, hl⟩
    exact wpAny_pure (wpAny_pure q)
  | none =>
    dsimp only
    have hnk : k ∉ es.toList.map kE := fun z => by
      obtain ⟨e, he, q⟩ := (good_find (P := P) (w := w) g k).1 z
      have c := List.findIdx?_eq_none_iff.mp hfi e he
      rw [q] at c
      cases c
    have kL : k ∉ L := fun z => hnk (pL.mem_iff.mpr z)
    have pm := layNew_perm t es ((mixKind P w).hash k) v
    have hf1 := layNew_fits t es ((mixKind P w).hash k) v
    have hr1 := layNew_ris t es ((mixKind P w).hash k) v hr
    have hl1 := layNew_led t es ((mixKind P w).hash k) v
    generalize layNew t es ((mixKind P w).hash k) v = Z at pm hf1 hr1 hl1 ⊢
    obtain ⟨es1, t1, wasDummy, gave⟩ := Z
    dsimp only at pm hf1 hr1 hl1 ⊢
    rw [Array.toList_push] at pm
    have pc : es1.toList.Perm (((mixKind P w).hash k, v) :: es.toList) := pm.trans (List.perm_append_singleton _ _)
    have ek : kE ((mixKind P w).hash k, v) = k := kOf_is hk
    have pk : (es1.toList.map kE).Perm (k :: L) := by
      have q := pc.map kE
      rw [List.map_cons, ek] at q
      exact q.trans (pL.cons k)
    have g1 : (∀ e ∈ es1.toList, Good w e) ∧ (es1.toList.map kE).Perm (k :: L) ∧ (k :: L).Nodup := ⟨fun e he => by
      rcases List.mem_cons.mp (pc.mem_iff.mp he) with z | z
      · rw [z]; exact good_of hk
      · exact g e z, pk, List.nodup_cons.mpr ⟨kL, nd⟩⟩
    have hb1 : es1.size < scanBound := by
      have e1 := pk.length_eq
      rw [List.length_map, Array.length_toList, List.length_cons] at e1
      omega
    have hled : w.params.followText "set-order" = true ∨ t1.led = true := hl.imp id fun z => by rw [hl1]; exact z
    have fin : ∀ h', Heap.SameBut a s.heap h' → Mem w h' a (k :: L) → Q true { s with heap := h' } := fun h' sb r => hQ true h' (k :: L) sb (.inr ⟨kL, rfl⟩) r
    have gw : ∀ (b : Bool) (s₁ : Shared) (Q' : Unit → Shared → Prop), Q' () s₁ → wpAny (model P w) A (match b with | true => rule "set.scan.the-table-gave-way" | false => pure ()) Q' E s₁ :=
      fun b s₁ Q' q => by cases b <;> first | exact wpAny_pure q | exact wpAny_rule q
    refine wpAny_bind (gw _ _ _ ?_)
    split
    · refine wpAny_bind ?_
      rw [hashByValue_scannable 8 hsc]
      refine wpAny_pure ?_
      refine add_end (L' := k :: L) ?_ ho hx g1 hb1 ?_ ?_ ?_ ?_
      · exact fun b s₁ Q' q => by cases b <;> first | exact wpAny_pure q | exact wpAny_rule q
      · first | (split <;> first | exact hf1 | exact SetTable.fits_plain_off hf1) | exact hf1
      · first | (split <;> exact hr1) | exact hr1
      · first | (split <;> exact hled) | exact hled
      · exact fun h' sb r => by dsimp only; exact wpAny_pure (fin h' sb r)
    · refine wpAny_bind (wpAny_pure ?_)
      simp only [↓reduceIte]
      refine add_end (L' := k :: L) ?_ ho hx g1 hb1 hf1 hr1 hled ?_
      · exact fun b s₁ Q' q => by cases b <;> first | exact wpAny_pure q | exact wpAny_rule q
      · exact fun h' sb r => by dsimp only; exact wpAny_pure (fin h' sb r)
end

/-! ### the loop of set(..), whatever the members are -/
section
variable {P : Program} {w : World} {A : Around} {I : Addr} {fp wr : List Addr} {G : Array GenState → Array GenState → Prop} {n : Nat} {Pv : Nat → Value → Prop} {St : Nat → Shared → Prop} {R : Result → Shared → Prop}
theorem fill_set (W : WalksS P w A.in1 I fp wr G n Pv St) (T : Addr) (hT : T ∉ fp) (J : Nat → Heap → Prop)
    (keep : ∀ i h h', J i h → (∀ b, b ∉ wr → ∀ o, h.get? b = some o → h'.get? b = some o) → J i h')
    (step : ∀ i v (s : Shared) (Q : Bool → Shared → Prop) (E : Value → Shared → Prop), i < n → Pv i v → J i s.heap →
      (∀ b h' tk, Heap.SameBut T s.heap h' → s.toks ≤ tk → J (i + 1) h' → Q b { s with heap := h', toks := tk }) → wpAny (model P w) A.in1 (setAdd T v) Q E s) :
    ∀ (k i : Nat) (s : Shared), n - i = k → i ≤ n → St i s → J i s.heap → (∀ s', Moved (T :: wr) G s s' → J n s'.heap → R (.ok (.ret .none)) s') →
      codeAny (model P w) A (.builtin "set.update.loop" ⟨[.ref T, .ref I], []⟩) R s := by
  have nw : T ∉ wr := fun z => hT (W.sub _ z)
  have sub : ∀ b ∈ wr, b ∈ T :: wr := fun b hb => List.mem_cons_of_mem _ hb
  intro k
  induction k with
  | zero =>
    intro i s hk hi st j hR
    obtain rfl : i = n := by omega
    refine codeAny_builtin F.entry_set_update_loop ?_
    rw [Around.under_plainId F.plain_set_update_loop _]
    refine show wpAny _ A.in1 (pyNext (.ref I) >>= _) _ _ s from wpAny_bind (W.done s _ _ st fun s' hm => ?_)
    exact show wpAny _ A.in1 (ret Value.none) _ _ s' from wpAny_pure (hR s' (hm.mono sub) (keep _ _ _ j fun b hb o e => hm.heap b o hb e))
  | succ k ih =>
    intro i s hk hi st j hR
    have lt : i < n := by omega
    refine codeAny_builtin F.entry_set_update_loop ?_
    rw [Around.under_plainId F.plain_set_update_loop _]
    refine show wpAny _ A.in1 (pyNext (.ref I) >>= _) _ _ s from wpAny_bind (W.item i s _ _ lt st fun v s' hP st' hm => ?_)
    refine show wpAny _ A.in1 (holding [v] (setAdd T v) >>= _) _ _ s' from wpAny_bind (wpAny_holding (step i v s' _ _ lt hP (keep _ _ _ j fun b hb o e => hm.heap b o hb e) fun b h' tk sb ht j' => ?_))
    refine wpAny_pure ⟨plainId_quiet F.plain_set_update_loop _, ih (i + 1) _ (by omega) lt (W.frame _ s' _ _ st' ht fun b hb o e => ?_) j' fun s2 hm2 j2 => hR s2 (Moved.trans W.gtrans ((hm.mono sub).then_heap ht fun b o hb e => ?_) hm2) j2⟩
    · exact (sb.2 b fun z : b = T => hT (by rw [← z]; exact hb)).trans e
    · exact (sb.2 b fun z : b = T => hb (by rw [z]; exact List.mem_cons_self)).trans e
end
abbrev freshSet (w : World) : Obj := { cls := .type "set", dict := none, data := .set #[] 0 (.fresh 0 0 (!w.params.followText "set-order")) }
section
variable {P : Program} {w : World} {A : Around} {E : Value → Shared → Prop} {s : Shared}
/-- set(l) of a list or a tuple -/
theorem call_set_gen {l : Addr} {items : Array Value} {Q : Value → Shared → Prop} (hh : A.handled = none) (hl : s.heap.IsList l items ∨ s.heap.IsTuple l items) (J : Nat → Heap → Prop)
    (keep : ∀ i h h', J i h → (∀ b, b ≠ s.heap.objs.size + 1 → ∀ o, h.get? b = some o → h'.get? b = some o) → J i h')
    (start : ∀ h, (∀ b o, s.heap.get? b = some o → h.get? b = some o) → h.get? s.heap.objs.size = some (freshSet w) → J 0 h)
    (step : ∀ i v (s' : Shared) (A' : Around) (Q : Bool → Shared → Prop) (E : Value → Shared → Prop), items[i]? = some v → A'.units ≤ A.units + 8 → J i s'.heap →
      (∀ b h' tk, Heap.SameBut s.heap.objs.size s'.heap h' → s'.toks ≤ tk → J (i + 1) h' → Q b { s' with heap := h', toks := tk }) → wpAny (model P w) A' (setAdd s.heap.objs.size v) Q E s')
    (h : ∀ (h' : Heap) (tk : Nat), J items.size h' → (∀ b o, s.heap.get? b = some o → h'.get? b = some o) → Q (.ref s.heap.objs.size) { s with heap := h', toks := tk }) :
    wpAny (model P w) A (call (.type "set") [.ref l]) Q E s := by
  obtain ⟨c, tl, hmro⟩ := F.called_set.mro
  have hmade := F.called_set.made
  have hsub := F.called_set.sub
  refine wpAny_call (codeAny_of_tree (show wpAny _ _ (callAny (.type "set") _) _ _ _ from wpAny_pure ⟨Code.quiet_builtin _ (by decide +kernel), codeAny_builtin F.entry_type_call ?_⟩))
  rw [Around.under_plain (weight_type_call_type "set" [.ref l] []) rfl]
  have h1 := F.called_set.notType
  have h2 := F.called_set.canCreate
  have hct := F.typeCall_set_1 (.ref l)
  repeat (any_goals (first | assumption | wp_step))
  refine codeAny_mono (L2.code_set_led1 (.ref l) (E := E) (Q₁ := fun obj s₁ => obj = .ref s.heap.objs.size ∧ s₁ = { s with heap := s.heap.push (freshSet w) }) ⟨rfl, rfl⟩) fun r s₁ hr => ?_
  cases r with
  | error e => exact hr
  | ok fl =>
    cases fl with
    | ret obj =>
      obtain ⟨rfl, rfl⟩ := hr
      have hS : (s.heap.push (freshSet w)).get? s.heap.objs.size = some (freshSet w) := Heap.get?_push_size _ rfl
      have hT : Shared.TypeIs { s with heap := s.heap.push (freshSet w) } (.ref s.heap.objs.size) "set" := ⟨_, hS, rfl⟩
      have hli := F.called_set.init.lookup
      have hbi := F.called_set.init.bind (.ref s.heap.objs.size)
      repeat (any_goals (first | assumption | wp_step))
      refine codeAny_mono (codeAny_call_builtin (R := wants (fun r s₂ => r = .none ∧ ∃ h' tk, s₂ = { s with heap := h', toks := tk } ∧ J items.size h' ∧ (∀ b o, s.heap.get? b = some o → h'.get? b = some o)) E)
        F.called_set.init.plain F.entry_set_init (check_set_init_1 hT ?_)) fun r₂ s₂ hr₂ => ?_
      · have hh3 : A.in1.in1.in1.handled = none := by simp [hh]
        have sz : (s.heap.push (freshSet w)).objs.size = s.heap.objs.size + 1 := Heap.size_push ..
        rcases hl with hl | hl
        · obtain ⟨⟨ocls, odict, odata, oslots⟩, hol, hcl, nl, hdl⟩ := hl
          simp only at hcl hdl
          subst hcl hdl
          have hol' : (s.heap.push (freshSet w)).get? l = some { cls := .type "list", dict := odict, data := .seq items nl, slots := oslots } := Heap.get?_push_of_some _ hol
          have hsls := F.sub_list_set
          have hslf := F.sub_list_frozenset
          have hne : (Value.type "list" == Value.type "dict") = false := by decide
          have hl1 : (s.heap.push (freshSet w)).IsList l items := ⟨_, hol', rfl, nl, rfl⟩
          unfold Builtin.«set.__init__» noKeywords Builtin.Frozenset.updateFrom
          generalize hPI : pyIter = PI
          wp_walk
          subst hPI
          refine wpAny_pyIter_list hl1 (wpAny_bind (wpAny_runValue ?_))
          have lS : l < s.heap.objs.size := Heap.lt_size hol
          refine fill_set ((Walks.list hh3 _ l (by rw [sz]; exact Nat.ne_of_lt (Nat.lt_succ_of_lt lS)) items).toS) s.heap.objs.size
            (by rw [sz]; simp only [List.mem_cons, List.not_mem_nil, or_false, not_or]; exact ⟨Nat.ne_of_lt (Nat.lt_succ_self _), Nat.ne_of_gt lS⟩) J
            (fun i h h' j k => keep i h h' j fun b hb => k b (by rw [sz]; simpa using hb)) (fun i v s' Q E _ hv j q => step i v s' _ Q E hv (by show A.units + 1 + 1 + 1 ≤ A.units + 8; omega) j q)
            (items.size - 0) 0 _ (by omega) (Nat.zero_le _) ⟨⟨_, Heap.get?_push_size _ rfl, rfl, rfl⟩, (hl1.push _)⟩ (start _ (fun b o e => Heap.get?_push_of_some _ (Heap.get?_push_of_some _ e)) (Heap.get?_push_of_some _ hS)) ?_
          rintro ⟨h', g2, d', tk', os'⟩ hm j
          obtain rfl : g2 = s.gens := hm.gens
          obtain rfl : d' = s.drawn := hm.drawn
          obtain rfl : os' = s.os := hm.os
          refine wpAny_pure (show wpAny _ _ (ret Value.none) _ _ _ from wpAny_pure ⟨rfl, h', tk', rfl, j, fun b o e => ?_⟩)
          have lb := Heap.lt_size e
          exact hm.heap b o (by rw [sz]; simp only [List.mem_cons, List.not_mem_nil, or_false, not_or]; exact ⟨Nat.ne_of_lt lb, Nat.ne_of_lt (Nat.lt_succ_of_lt lb)⟩) (Heap.get?_push_of_some _ (Heap.get?_push_of_some _ e))
        · obtain ⟨⟨ocls, odict, odata, oslots⟩, hol, hcl, nl, hdl⟩ := hl
          simp only at hcl hdl
          subst hcl hdl
          have hol' : (s.heap.push (freshSet w)).get? l = some { cls := .type "tuple", dict := odict, data := .seq items nl, slots := oslots } := Heap.get?_push_of_some _ hol
          have hsls := F.sub_tuple_set
          have hslf := F.sub_tuple_frozenset
          have hne : (Value.type "tuple" == Value.type "dict") = false := by decide
          have hl1 : (s.heap.push (freshSet w)).IsTuple l items := ⟨_, hol', rfl, nl, rfl⟩
          unfold Builtin.«set.__init__» noKeywords Builtin.Frozenset.updateFrom
          generalize hPI : pyIter = PI
          wp_walk
          subst hPI
          refine wpAny_pyIter_tuple hl1 (wpAny_bind (wpAny_runValue ?_))
          have lS : l < s.heap.objs.size := Heap.lt_size hol
          refine fill_set ((Walks.tuple hh3 _ l (by rw [sz]; exact Nat.ne_of_lt (Nat.lt_succ_of_lt lS)) items).toS) s.heap.objs.size
            (by rw [sz]; simp only [List.mem_cons, List.not_mem_nil, or_false, not_or]; exact ⟨Nat.ne_of_lt (Nat.lt_succ_self _), Nat.ne_of_gt lS⟩) J
            (fun i h h' j k => keep i h h' j fun b hb => k b (by rw [sz]; simpa using hb)) (fun i v s' Q E _ hv j q => step i v s' _ Q E hv (by show A.units + 1 + 1 + 1 ≤ A.units + 8; omega) j q)
            (items.size - 0) 0 _ (by omega) (Nat.zero_le _) ⟨⟨_, Heap.get?_push_size _ rfl, rfl, rfl⟩, (hl1.push _)⟩ (start _ (fun b o e => Heap.get?_push_of_some _ (Heap.get?_push_of_some _ e)) (Heap.get?_push_of_some _ hS)) ?_
          rintro ⟨h', g2, d', tk', os'⟩ hm j
          obtain rfl : g2 = s.gens := hm.gens
          obtain rfl : d' = s.drawn := hm.drawn
          obtain rfl : os' = s.os := hm.os
          refine wpAny_pure (show wpAny _ _ (ret Value.none) _ _ _ from wpAny_pure ⟨rfl, h', tk', rfl, j, fun b o e => ?_⟩)
          have lb := Heap.lt_size e
          exact hm.heap b o (by rw [sz]; simp only [List.mem_cons, List.not_mem_nil, or_false, not_or]; exact ⟨Nat.ne_of_lt lb, Nat.ne_of_lt (Nat.lt_succ_of_lt lb)⟩) (Heap.get?_push_of_some _ (Heap.get?_push_of_some _ e))
      · cases r₂ with
        | error e => exact hr₂
        | ok fl₂ =>
          cases fl₂ with
          | ret r =>
            obtain ⟨rfl, h', tk, rfl, j, hk'⟩ := hr₂
            repeat (any_goals (first | assumption | wp_step))
            exact h _ _ j hk'
          | _ => exact hr₂.elim
    | _ => exact hr.elim
end
end Ev

set_option linter.all false
set_option autoImplicit false
set_option maxRecDepth 100000
set_option maxHeartbeats 4000000
/-! Ev12: sorted(set(xs)), len(set(xs)) of ints and texts. -/
namespace Ev
open PySem PySem.Spec PyProof.Rows L2

def pK : PV → Key
  | .int i => .inl i
  | .str x => .inr ⟨⟨x⟩⟩
  | _ => .inl 0
theorem kP_inj {a b : Key} (h : kP a = kP b) : a = b := by
  cases a <;> cases b <;> unfold kP at h
  · rw [PV.int.inj h]
  · cases h
  · cases h
  · rename_i x y
    obtain ⟨⟨x⟩⟩ := x
    obtain ⟨⟨y⟩⟩ := y
    have : x = y := PV.str.inj h
    rw [this]
/-- what sets are made of here -/
inductive KeyV : PV → Prop | int (i : Int) : KeyV (.int i) | str (x : Sg) : KeyV (.str x)
theorem pK_kP {p : PV} (h : KeyV p) : kP (pK p) = p := by cases h <;> rfl
theorem allInt_mem : ∀ {xs : List PV}, allInt xs = true → ∀ p ∈ xs, ∃ i, p = .int i
  | [], _, _, h => nomatch h
  | x :: xs, h, p, hp => by
    cases x <;> unfold allInt at h <;> first | exact absurd h Bool.false_ne_true | skip
    rcases List.mem_cons.mp hp with e | e
    · exact ⟨_, e⟩
    · exact allInt_mem h p e
theorem allStr_mem : ∀ {xs : List PV}, allStr xs = true → ∀ p ∈ xs, ∃ i, p = .str i
  | [], _, _, h => nomatch h
  | x :: xs, h, p, hp => by
    cases x <;> unfold allStr at h <;> first | exact absurd h Bool.false_ne_true | skip
    rcases List.mem_cons.mp hp with e | e
    · exact ⟨_, e⟩
    · exact allStr_mem h p e
theorem setable_ok {xs : List PV} (h : setable xs = true) : (∀ p ∈ xs, KeyV p) ∧ AlkL xs ∧ xs.length < 64 := by
  obtain ⟨h1, h2⟩ := Bool.and_eq_true_iff.mp h
  refine ⟨?_, ?_, of_decide_eq_true h2⟩
  · intro p hp
    rcases Bool.or_eq_true_iff.mp h1 with c | c
    · obtain ⟨i, rfl⟩ := allInt_mem c p hp
      exact .int i
    · obtain ⟨i, rfl⟩ := allStr_mem c p hp
      exact .str i
  · intro p hp q hq
    rcases Bool.or_eq_true_iff.mp h1 with c | c
    · obtain ⟨i, rfl⟩ := allInt_mem c p hp
      obtain ⟨j, rfl⟩ := allInt_mem c q hq
      unfold alikeP; rfl
    · obtain ⟨i, rfl⟩ := allStr_mem c p hp
      obtain ⟨j, rfl⟩ := allStr_mem c q hq
      unfold alikeP; rfl
theorem keyV_rf {p : PV} (h : KeyV p) : p.rf = true := by cases h <;> (unfold PV.rf PV.blw; rfl)
theorem keyVs {K : PySem.W.Frag} {ρ : List Addr} {H : Hp} : ∀ {xs : List PV} {vs : List V}, (∀ p ∈ xs, KeyV p) → RVs K ρ H xs vs → vs = (xs.map pK).map kV
  | [], _, _, h => by rw [h.inv0]; rfl
  | x :: xs, _, k, h => by
    obtain ⟨w, ws, rfl, a, b⟩ := h.inv
    rw [List.map_cons, List.map_cons, ← keyVs (fun p hp => k p (List.mem_cons_of_mem _ hp)) b]
    have e : w = kV (pK x) := by
      cases k x List.mem_cons_self with
      | int i => exact rv_int a
      | str i => exact rv_str a
    rw [e]

/-! ### strictly ascending -/
theorem insU_mem {x y : PV} : ∀ {l : List PV}, (∀ z ∈ l, alikeP x z = true) → (y ∈ insU x l ↔ y = x ∨ y ∈ l)
  | [], _ => by unfold insU; simp
  | z :: zs, h => by
    unfold insU
    by_cases c : ltv x z = true
    · rw [if_pos c, List.mem_cons]
    · rw [if_neg c]
      by_cases d : ltv z x = true
      · rw [if_pos d, List.mem_cons, insU_mem (fun q hq => h q (List.mem_cons_of_mem _ hq)), List.mem_cons]
        exact or_left_comm
      · rw [if_neg d]
        have e : x = z := tri x z (h z List.mem_cons_self) (by simpa using c) (by simpa using d)
        subst e
        simp
theorem insU_asc {x : PV} : ∀ {l : List PV}, AlkL (x :: l) → rfs (x :: l) = true → l.Pairwise (fun a b => ltD a b = true) → (insU x l).Pairwise (fun a b => ltD a b = true)
  | [], _, _, _ => by unfold insU; exact List.pairwise_singleton _ _
  | z :: zs, h, r, p => by
    obtain ⟨p1, p2⟩ := List.pairwise_cons.mp p
    have lx : ltv x z = ltD x z := ltv_ltD h r List.mem_cons_self (List.mem_cons_of_mem _ List.mem_cons_self)
    have lz : ltv z x = ltD z x := ltv_ltD h r (List.mem_cons_of_mem _ List.mem_cons_self) List.mem_cons_self
    unfold insU
    by_cases c : ltv x z = true
    · rw [if_pos c]
      refine List.pairwise_cons.mpr ⟨fun y hy => ?_, p⟩
      rcases List.mem_cons.mp hy with e | e
      · rw [e, ← lx]; exact c
      · exact ltD_trans _ _ _ (by rw [← lx]; exact c) (p1 y e)
    · rw [if_neg c]
      by_cases d : ltv z x = true
      · rw [if_pos d]
        have h' : AlkL (x :: zs) := fun a ha b hb => h a (by
          rcases List.mem_cons.mp ha with e | e
          · rw [e]; exact List.mem_cons_self
          · exact List.mem_cons_of_mem _ (List.mem_cons_of_mem _ e)) b (by
          rcases List.mem_cons.mp hb with e | e
          · rw [e]; exact List.mem_cons_self
          · exact List.mem_cons_of_mem _ (List.mem_cons_of_mem _ e))
        have r' : rfs (x :: zs) = true := blws_sub r fun y hy => by
          rcases List.mem_cons.mp hy with e | e
          · rw [e]; exact List.mem_cons_self
          · exact List.mem_cons_of_mem _ (List.mem_cons_of_mem _ e)
        refine List.pairwise_cons.mpr ⟨fun y hy => ?_, insU_asc h' r' p2⟩
        rcases (insU_mem (fun q hq => h' x List.mem_cons_self q (List.mem_cons_of_mem _ hq))).mp hy with e | e
        · rw [e, ← lz]; exact d
        · exact p1 y e
      · rw [if_neg d]; exact p
theorem usort_fold {l : List PV} (a : AlkL l) (r : rfs l = true) : ∀ (xs acc : List PV), (∀ x ∈ xs, x ∈ l) → (∀ x ∈ acc, x ∈ l) → acc.Pairwise (fun a b => ltD a b = true) →
    (xs.foldl (fun acc x => insU x acc) acc).Pairwise (fun a b => ltD a b = true) ∧ ∀ y, y ∈ xs.foldl (fun acc x => insU x acc) acc ↔ y ∈ xs ∨ y ∈ acc
  | [], acc, _, _, p => ⟨p, fun y => by simp⟩
  | x :: xs, acc, hx, ha, p => by
    have mx := hx x List.mem_cons_self
    have al : ∀ z ∈ acc, alikeP x z = true := fun z hz => a x mx z (ha z hz)
    have ax : AlkL (x :: acc) := fun u hu v hv => a u (by
      rcases List.mem_cons.mp hu with e | e
      · rw [e]; exact mx
      · exact ha u e) v (by
      rcases List.mem_cons.mp hv with e | e
      · rw [e]; exact mx
      · exact ha v e)
    have rx : rfs (x :: acc) = true := blws_sub r fun y hy => by
      rcases List.mem_cons.mp hy with e | e
      · rw [e]; exact mx
      · exact ha y e
    obtain ⟨q1, q2⟩ := usort_fold a r xs (insU x acc) (fun z hz => hx z (List.mem_cons_of_mem _ hz)) (fun z hz => by
      rcases (insU_mem al).mp hz with e | e
      · rw [e]; exact mx
      · exact ha z e) (insU_asc ax rx p)
    refine ⟨q1, fun y => ?_⟩
    rw [List.foldl_cons, q2 y, insU_mem al, List.mem_cons]
    constructor
    · rintro (h | h | h)
      · exact .inl (.inr h)
      · exact .inl (.inl h)
      · exact .inr h
    · rintro ((h | h) | h)
      · exact .inr (.inl h)
      · exact .inl h
      · exact .inr (.inr h)
theorem usort_spec {xs : List PV} (a : AlkL xs) (r : rfs xs = true) : (usort xs).Pairwise (fun a b => ltD a b = true) ∧ ∀ y, y ∈ usort xs ↔ y ∈ xs := by
  obtain ⟨h1, h2⟩ := usort_fold a r xs [] (fun _ h => h) (fun _ h => nomatch h) .nil
  exact ⟨h1, fun y => (h2 y).trans (by simp)⟩
/-- two strictly ascending lists of the same members -/
theorem asc_unique {l m : List PV} (hl : l.Pairwise (fun a b => ltD a b = true)) (hm : m.Pairwise (fun a b => ltD a b = true)) (e : ∀ y, y ∈ l ↔ y ∈ m) : l = m := by
  have nd : ∀ {k : List PV}, k.Pairwise (fun a b => ltD a b = true) → k.Nodup := fun h => h.imp fun {a b} q z => by
    subst z
    rw [ltD_irrefl] at q
    cases q
  have p : l.Perm m := (List.perm_ext_iff_of_nodup (nd hl) (nd hm)).mpr e
  refine List.Perm.eq_of_pairwise (le := fun a b => ltD a b = true) (fun a b _ _ h g => ?_) hl hm p
  have := ltD_asym _ _ h
  rw [g] at this
  cases this
theorem usort_of {xs bs : List PV} (a : AlkL xs) (r : rfs xs = true) (e : ∀ y, y ∈ bs ↔ y ∈ xs) (nd : bs.Nodup) : isort bs = usort xs := by
  have ab : AlkL bs := fun p hp q hq => a p ((e p).mp hp) q ((e q).mp hq)
  have rb : rfs bs = true := blws_sub r fun y hy => (e y).mp hy
  obtain ⟨s1, p1⟩ := isort_spec ab rb
  obtain ⟨s2, m2⟩ := usort_spec a r
  refine asc_unique ?_ s2 fun y => (p1.mem_iff.trans (e y)).trans (m2 y).symm
  have nd1 : (isort bs).Nodup := p1.nodup_iff.mpr nd
  have both := s1.and nd1
  refine List.Pairwise.imp_of_mem (fun {p q} hp hq h => ?_) both
  cases c : ltD p q with
  | true => rfl
  | false =>
    have mp := p1.mem_iff.mp hp
    have mq := p1.mem_iff.mp hq
    exact absurd (tri p q (ab p mp q mq) (by rw [ltv_ltD ab rb mp mq]; exact c) (by rw [ltv_ltD ab rb mq mp]; exact h.1)) h.2
theorem usort_length {xs bs : List PV} (a : AlkL xs) (r : rfs xs = true) (e : ∀ y, y ∈ bs ↔ y ∈ xs) (nd : bs.Nodup) : bs.length = (usort xs).length := by
  rw [← usort_of a r e nd]
  have ab : AlkL bs := fun p hp q hq => a p ((e p).mp hp) q ((e q).mp hq)
  exact (isort_spec ab (blws_sub r fun y hy => (e y).mp hy)).2.length_eq.symm

/-! ### the set, as an object that the reading knows -/
def SetM (w : World) (a : Addr) (L : List Key) : HO := .ext fun h => Mem w h a L
section
variable {X : Cx}
theorem setM_new {w : World} {P : Program} {H : Hp} {h : Heap} {a : Addr} {L : List Key} (M : Mem w h a L) : ObjOk P w H h a (SetM w a L) := by
  have ⟨o, _, _, _, ho, _⟩ := M
  exact ⟨M, ⟨o, ho⟩, fun h1 h2 p k => Mem.keep p k⟩
theorem setM_get {pins : List (Addr × Obj)} {σ : L2.St} {H : Hp} {s : Shared} {a : Addr} {L : List Key} (I : L2.Inv X pins σ H s) (ha : H a = some (SetM X.w a L)) : Mem X.w s.heap a L := (I.hok a _ ha).1
/-- set(xs) -/
def rSetM (K : PySem.W.Frag) (w : World) : List V → Hp → VK → Prop := fun xs H Q => ∃ (a : Addr) (ks : List Key), xs = [.ref a] ∧ (SqL K H a (ks.map kV) ∨ SqT K H a (ks.map kV)) ∧ ks.length < 64 ∧
  ∀ p L, H p = none → (∀ k, k ∈ L ↔ k ∈ ks) → L.Nodup → Q (.ref p) (upd H p (SetM w p L))
theorem mem_take_succ {α : Type} {l : List α} {i : Nat} {x : α} (h : l[i]? = some x) (k : α) : k ∈ l.take (i + 1) ↔ k ∈ l.take i ∨ k = x := by
  rw [List.take_add_one, h]
  simp
theorem cb_setM (hc : X.calm = true) (hu : X.A.units + 64 < cLine) : CallR X (.type "set") (rSetM X.K X.w) := by
  intro pins s σ H xs us Q I r h
  obtain ⟨a, ks, rfl, hs, h64, q⟩ := h
  have hits : ∃ its : List Value, Vals (ks.map kV) its ∧ (s.heap.IsList a its.toArray ∨ s.heap.IsTuple a its.toArray) := by
    rcases hs with hs | hs
    · obtain ⟨its, rv, hl, _⟩ := I.list hs
      exact ⟨its, rv, .inl hl.isList⟩
    · obtain ⟨its, rv, hl, _⟩ := I.tuple hs
      exact ⟨its, rv, .inr hl⟩
  obtain ⟨its, rv, hl⟩ := hits
  rw [Vals.ref1 r]
  have lits : its.length = ks.length := by
    have := rv.length
    rw [List.length_map] at this
    exact this.symm
  refine call_set_gen (I.ok.hd hc) hl (fun i h => ∃ L, Mem X.w h s.heap.objs.size L ∧ (∀ k, k ∈ L ↔ k ∈ ks.take i) ∧ L.length ≤ i) ?_ ?_ ?_ ?_
  · rintro i h h' ⟨L, M, e, l⟩ k
    exact ⟨L, M.keep fun o ho => k _ (Nat.ne_of_lt (Nat.lt_succ_self _)) o ho, e, l⟩
  · intro h k hn
    exact ⟨[], ⟨_, #[], 0, _, hn, ⟨⟨rfl, rfl, rfl⟩, rfl⟩, ⟨fun e he => by simp at he, .nil, .nil⟩, ⟨by decide, by rfl⟩, by simp [Ris, SetTable.fresh], by
      cases c : X.w.params.followText "set-order" with
      | true => exact .inl rfl
      | false => exact .inr rfl⟩, fun k => by simp, Nat.le_refl _⟩
  · rintro i v s' A' Q' E' hv hu' ⟨L, M, e, l⟩ hQ
    have hv' : its[i]? = some v := by simpa using hv
    have il := lt_of_get hv'
    obtain ⟨k, hk⟩ : ∃ k, ks[i]? = some k := ⟨ks[i]'(by omega), List.getElem?_eq_getElem _⟩
    obtain ⟨u, hu2, ru⟩ := rv.get (i := i) (x := kV k) (by rw [List.getElem?_map, hk]; rfl)
    rw [hv'] at hu2
    cases hu2
    have hkey : keyIs k v = true := kV_is (P := X.prog) (w := X.w) ru
    unfold setAdd
    refine wpAny_holding (wpAny_bind ((mixKind X.prog X.w).pyHash hkey ?_))
    refine add_hashed (s := { s' with toks := s'.toks + 1 }) hkey M (by unfold scanBound; omega) fun b h' L' sb hL' M' => hQ b h' _ sb (Nat.le_succ _) ⟨L', M', fun k' => ?_, ?_⟩
    · rw [mem_take_succ hk, ← e]
      rcases hL' with ⟨m, rfl⟩ | ⟨m, rfl⟩
      · exact ⟨.inl, fun z => z.elim id fun z => z ▸ m⟩
      · rw [List.mem_cons]
        exact or_comm
    · rcases hL' with ⟨m, rfl⟩ | ⟨m, rfl⟩
      · omega
      · rw [List.length_cons]; omega
  · rintro h' tk ⟨L, M, e, l⟩ kp
    have hn : H s.heap.objs.size = none := I.hok.fresh (Nat.le_refl _)
    have e2 : ∀ k, k ∈ L ↔ k ∈ ks := fun k => by
      rw [e k, List.size_toArray, lits, List.take_length]
    have ndL : L.Nodup := by
      obtain ⟨_, _, _, _, _, _, ⟨_, _, nd⟩, _⟩ := M
      exact nd
    exact ⟨.ref _, upd H s.heap.objs.size (SetM X.w s.heap.objs.size L), I.laid (t' := tk) kp (Nat.le_refl _) (setM_new M), rfl, q _ L hn e2 ndL⟩
end

section
variable {X : Cx}
theorem reads_key {w : World} {h : Heap} {e : Int × Value} (g : Good w e) : ∃ as, Reads h e.2 (toD (kP (kE e))) as := by
  rcases keyIs_shape g.1 with ⟨i, t, ek, ev⟩ | ⟨x, t, ek, ev⟩
  · rw [ek, ev]; unfold kP toD; exact ⟨_, Reads.int i t⟩
  · rw [ek, ev]; unfold kP toD; exact ⟨_, Reads.str x t⟩
theorem each_of {α β : Type} {R : α → β → Prop} (f : α → β) : ∀ l : List α, (∀ a ∈ l, R a (f a)) → PySem.W.EachIs R l (l.map f)
  | [], _ => .nil
  | a :: l, h => .cons (h a List.mem_cons_self) (each_of f l fun b hb => h b (List.mem_cons_of_mem _ hb))
theorem each_vals : ∀ {out : List Value} {ps : List PV}, PySem.W.EachIs (fun v p => ∃ k : Key, p = kP k ∧ keyIs k v = true) out ps → ∃ ks : List Key, ps = ks.map kP ∧ Vals (ks.map kV) out
  | _, _, .nil => ⟨[], rfl, .nil⟩
  | _, _, .cons ⟨k, e, hk⟩ r => by
    obtain ⟨ks, e2, rv⟩ := each_vals r
    refine ⟨k :: ks, by rw [e, e2]; rfl, .cons ?_ rv⟩
    rcases keyIs_shape hk with ⟨i, t, rfl, rfl⟩ | ⟨x, t, rfl, rfl⟩
    · exact ⟨t, rfl⟩
    · exact ⟨t, rfl⟩
/-- sorted(s), s a set -/
def rSortM (w : World) : List V → Hp → VK → Prop := fun xs H Q => ∃ (a : Addr) (L : List Key), xs = [.ref a] ∧ H a = some (SetM w a L) ∧ AlkL (L.map kP) ∧ L.length < 4096 ∧
  ∀ (p : Addr) (ks : List Key), H p = none → ks.map kP = isort (L.map kP) → Q (.ref p) (upd H p (.lst (ks.map kV)))
theorem isort_perm {xs ys : List PV} (a : AlkL xs) (r : rfs xs = true) (p : xs.Perm ys) : isort xs = isort ys := by
  have a' : AlkL ys := fun u hu v hv => a u (p.mem_iff.mpr hu) v (p.mem_iff.mpr hv)
  have r' : rfs ys = true := blws_sub r fun y hy => p.mem_iff.mpr hy
  obtain ⟨s1, p1⟩ := isort_spec a r
  obtain ⟨s2, p2⟩ := isort_spec a' r'
  refine List.Perm.eq_of_pairwise (le := fun p q => ltD q p = false) (fun u v hu hv h g => ?_) s1 s2 (p1.trans (p.trans p2.symm))
  have mu := p1.mem_iff.mp hu
  have mv := p.mem_iff.mpr (p2.mem_iff.mp hv)
  exact tri u v (a u mu v mv) (by rw [ltv_ltD a r mu mv]; exact g) (by rw [ltv_ltD a r mv mu]; exact h)
theorem cb_sortM (hc : X.calm = true) (hu : X.A.units + 64 < cLine) : CallR X (.builtin "sorted") (rSortM X.w) := by
  intro pins s σ H xs us Q I r h
  obtain ⟨a, L, rfl, ha, al, lt, q⟩ := h
  obtain ⟨o, es, ep, t, ho, ⟨hex, hd⟩, ⟨g, pL, nd⟩, ⟨hb, hf⟩, hr, hl⟩ := setM_get I ha
  rw [Vals.ref1 r]
  refine Calls.call_function_entry kind_sorted plain_sorted entry_sorted (args_sorted1 _) ?_
  unfold Builtin.«sorted»
  refine wpAny_bind (m := checkCount "sorted" 1 1 _) (wpAny_pure ?_)
  refine wpAny_bind (collect_set (A := X.A.in1) (I.ok.hd hc) ⟨o, ho, hex.1, hd⟩ hf hb hr hl fun s1 vs k1 hz g1 o1 pm => ?_)
  have gv : ∀ v ∈ vs, ∃ e ∈ es.toList, e.2 = v := fun v hv => by
    obtain ⟨e, he, q⟩ := List.mem_map.mp (pm.mem_iff.mp hv)
    exact ⟨e, he, q⟩
  let f : Value → PV := fun v => kP (kOf v)
  have pf : (vs.map f).Perm (L.map kP) := by
    have q1 := pm.map f
    rw [List.map_map] at q1
    have q2 := pL.map kP
    rw [List.map_map] at q2
    exact q1.trans q2
  have lv : vs.length = L.length := by
    have := pf.length_eq
    rw [List.length_map, List.length_map] at this
    exact this
  have rL : rfs (L.map kP) = true := blws_mem.mpr fun y hy => by
    obtain ⟨k, _, rfl⟩ := List.mem_map.mp hy
    exact kP_rf k
  have rf : rfs (vs.map f) = true := blws_sub rL fun y hy => pf.mem_iff.mp hy
  have af : AlkL (vs.map f) := fun u hu v hv => al u (pf.mem_iff.mp hu) v (pf.mem_iff.mp hv)
  have keyv : ∀ v ∈ vs, ∃ k : Key, f v = kP k ∧ keyIs k v = true := fun v hv => by
    obtain ⟨e, he, rfl⟩ := gv v hv
    exact ⟨kE e, rfl, (g e he).1⟩
  refine wpAny_bind (wpAny_newList ?_ (by rw [lv, sizeLine_eq]; omega))
  have hoL : (s1.heap.push (seqObj "list" vs.toArray 0)).get? s1.heap.objs.size = some (seqObj "list" vs.toArray 0) := Heap.get?_push_size _ rfl
  have ksrt : PySem.W.Sortable ((vs.map f).map toD) := .inr fun d hd => by
    obtain ⟨p, hp, rfl⟩ := List.mem_map.mp hd
    obtain ⟨v, hv, rfl⟩ := List.mem_map.mp hp
    obtain ⟨k, ek, _⟩ := keyv v hv
    rw [ek]
    cases k <;> (unfold kP toD; exact ⟨fun z => (by cases z), fun xs z => (by cases z)⟩)
  have hal : PySem.W.AllAlike ((vs.map f).map toD) := fun d hd d' hd' => by
    obtain ⟨p, hp, rfl⟩ := List.mem_map.mp hd
    obtain ⟨p', hp', rfl⟩ := List.mem_map.mp hd'
    exact alike_toD _ _ (af p hp p' hp')
  have dep0 : ∀ b ∈ vs.map f, (toD b).depth = 0 := fun b hb => by
    obtain ⟨v, hv, rfl⟩ := List.mem_map.mp hb
    obtain ⟨k, ek, _⟩ := keyv v hv
    rw [ek]
    cases k <;> (unfold kP toD PyData.depth; rfl)
  have rds : ∀ v ∈ vs, ∃ as, Reads (s1.heap.push (seqObj "list" vs.toArray 0)) v (toD (f v)) as ∧ s1.heap.objs.size ∉ as := fun v hv => by
    obtain ⟨k, ek, hk⟩ := keyv v hv
    rw [ek]
    rcases keyIs_shape hk with ⟨i, t, rfl, rfl⟩ | ⟨x, t, rfl, rfl⟩
    · unfold kP toD; exact ⟨_, Reads.int i t, by simp⟩
    · unfold kP toD; exact ⟨_, Reads.str x t, by simp⟩
  refine wpAny_bind (wpAny_holding (PySem.W.list_sort_data (R := fun v p => ∃ k : Key, p = kP k ∧ keyIs k v = true) (enc := toD) (bs := vs.map f) hoL (each_of f vs keyv) (each_of f vs rds) hal ksrt (by rw [List.length_map, lv, sizeLine_eq]; omega) (fun b hb => by
    rw [dep0 b hb]
    show X.A.units + 1 + 1 + 0 < cLine
    omega) fun out lo eo => ?_))
  rw [isort_merge af rf, isort_perm af rf pf] at eo
  obtain ⟨c, hc2⟩ := sortedHeap_at (vs := vs) (out := out.toArray) hoL
  obtain ⟨ks, ek, rv⟩ := each_vals eo
  have hlen : (ks.map kV).length ≤ sizeLine := by
    rw [rv.length, lo, List.length_map, lv, sizeLine_eq]; omega
  have hnew : s.heap.objs.size ≤ s1.heap.objs.size := hz
  have hn : H s1.heap.objs.size = none := I.hok.fresh hnew
  have keep : ∀ b u, s.heap.get? b = some u → (sortedHeap (s1.heap.push (seqObj "list" vs.toArray 0)) s1.heap.objs.size vs out.toArray).get? b = some u := fun b u e => by
    have e1 := k1 b u e
    have l1 := Heap.lt_size e1
    rw [sortedHeap_old (Nat.ne_of_lt l1) (by rw [size_push']; exact Nat.lt_succ_of_lt l1)]
    exact Heap.get?_push_of_some _ e1
  have J : L2.Inv X pins σ (upd H s1.heap.objs.size (.lst (ks.map kV))) { s with heap := sortedHeap (s1.heap.push (seqObj "list" vs.toArray 0)) s1.heap.objs.size vs out.toArray, gens := s1.gens, drawn := s1.drawn, toks := s1.toks } :=
    I.call (ch := []) (Un.laid keep hnew hn) (I.hok.laid keep hnew ⟨hlen, out, c, rv, hc2⟩) (by rw [g1]; exact I.bare) (fun _ z => nomatch z)
  have es1 : ({ s1 with heap := sortedHeap (s1.heap.push (seqObj "list" vs.toArray 0)) s1.heap.objs.size vs out.toArray } : Shared) = { s with heap := sortedHeap (s1.heap.push (seqObj "list" vs.toArray 0)) s1.heap.objs.size vs out.toArray, gens := s1.gens, drawn := s1.drawn, toks := s1.toks } := by
    cases s1
    cases s
    cases o1
    rfl
  refine wpAny_pure ⟨_, rfl, ?_⟩
  have fin : EP X pins σ Q (.ref s1.heap.objs.size) { s with heap := sortedHeap (s1.heap.push (seqObj "list" vs.toArray 0)) s1.heap.objs.size vs out.toArray, gens := s1.gens, drawn := s1.drawn, toks := s1.toks } := ⟨.ref _, _, J, rfl, q _ ks hn ek.symm⟩
  rw [← es1] at fin
  exact fin
/-- len(s) -/
def rLenM (w : World) : List V → Hp → VK → Prop := fun xs H Q => ∃ (a : Addr) (L : List Key), xs = [.ref a] ∧ H a = some (SetM w a L) ∧ Q (.int L.length) H
theorem cb_lenM : CallR X (.builtin "len") (rLenM X.w) := by
  intro pins s σ H xs us Q I r h
  obtain ⟨a, L, rfl, ha, q⟩ := h
  obtain ⟨o, es, ep, t, ho, ⟨hex, hd⟩, ⟨g, pL, nd⟩, ⟨hb, hf⟩, hr, hl⟩ := setM_get I ha
  rw [Vals.ref1 r]
  have e : es.size = L.length := by
    have := pL.length_eq
    rw [List.length_map, Array.length_toList] at this
    exact this
  refine call_len_set ho hex hd hf (by unfold scanBound at hb; omega) ?_
  rw [e]
  exact ⟨.int L.length, H, I.tok _, ⟨_, rfl⟩, q⟩
end
end Ev

set_option linter.all false
set_option autoImplicit false
set_option maxRecDepth 100000
set_option maxHeartbeats 4000000
/-! EvS: sorted(a list). -/
namespace Ev
open PySem PySem.Spec PyProof.Rows L2
section
variable {X : Cx} {H : Hp}
theorem deps_le {p : PV} : ∀ {xs : List PV}, p ∈ xs → p.dep ≤ PV.deps xs
  | x :: xs, h => by
    unfold PV.deps
    rcases List.mem_cons.mp h with e | h
    · rw [e]; exact Nat.le_max_left _ _
    · exact Nat.le_trans (deps_le h) (Nat.le_max_right _ _)
/-- v is the value of p -/
def VP (K : PySem.W.Frag) (ρ : List Addr) (H : Hp) (v : Value) (p : PV) : Prop := ∃ x, RelV x v ∧ RV K ρ H p x
theorem each_vp {K : PySem.W.Frag} {ρ : List Addr} : ∀ {xs : List PV} {vs : List V} {us : List Value}, RVs K ρ H xs vs → Vals vs us → PySem.W.EachIs (VP K ρ H) us xs
  | [], _, _, h, r => by
    rw [h.inv0] at r
    cases r
    exact .nil
  | x :: xs, _, _, h, r => by
    obtain ⟨w, ws, rfl, a, b⟩ := h.inv
    cases r with
    | cons r rr => exact .cons ⟨w, r, a⟩ (each_vp b rr)
theorem vp_each {K : PySem.W.Frag} {ρ : List Addr} : ∀ {xs : List PV} {us : List Value}, PySem.W.EachIs (VP K ρ H) us xs → ∃ vs, Vals vs us ∧ RVs K ρ H xs vs
  | _, _, .nil => ⟨[], .nil, .nil⟩
  | _, _, .cons ⟨x, r, a⟩ h => by
    obtain ⟨vs, rv, b⟩ := vp_each h
    exact ⟨x :: vs, .cons r rv, .cons a b⟩
theorem each_mono {α β : Type} {R R' : α → β → Prop} : ∀ {as : List α} {bs : List β}, PySem.W.EachIs R as bs → (∀ a b, b ∈ bs → R a b → R' a b) → PySem.W.EachIs R' as bs
  | _, _, .nil, _ => .nil
  | _, _, .cons h r, k => .cons (k _ _ List.mem_cons_self h) (each_mono r fun a b m => k a b (List.mem_cons_of_mem _ m))
theorem sortable_ok {xs : List PV} (h : sortable xs = true) : alikeEach xs = true ∧ rfs xs = true ∧ PySem.W.Sortable (xs.map toD) ∧ xs.length ≤ line ∧ PV.deps xs ≤ 60 := by
  unfold sortable at h
  obtain ⟨h1, h⟩ := Bool.and_eq_true_iff.mp h
  obtain ⟨h2, h⟩ := Bool.and_eq_true_iff.mp h
  obtain ⟨h3, h⟩ := Bool.and_eq_true_iff.mp h
  obtain ⟨h4, h5⟩ := Bool.and_eq_true_iff.mp h
  refine ⟨h1, h2, ?_, of_decide_eq_true h4, of_decide_eq_true h5⟩
  rcases Bool.or_eq_true_iff.mp h3 with z | z
  · refine .inl fun d hd => ?_
    obtain ⟨p, hp, rfl⟩ := List.mem_map.mp hd
    have := List.all_eq_true.mp z p hp
    cases p with
    | tup ys =>
      cases ys with
      | nil => cases this
      | cons y ys => exact ⟨toD y, toDs ys, by rw [toD, toDs]⟩
    | _ => cases this
  · refine .inr fun d hd => ?_
    obtain ⟨p, hp, rfl⟩ := List.mem_map.mp hd
    have := List.all_eq_true.mp z p hp
    have rp := blws_mem.mp h2 p hp
    cases p with
    | non => cases this
    | tup ys => cases this
    | bl b => unfold toD; exact ⟨fun q => (by cases q), fun _ q => (by cases q)⟩
    | int b => unfold toD; exact ⟨fun q => (by cases q), fun _ q => (by cases q)⟩
    | str b => unfold toD; exact ⟨fun q => (by cases q), fun _ q => (by cases q)⟩
    | ref n => unfold PV.blw at rp; simp at rp
    | lv ys => unfold PV.blw at rp; cases rp
theorem cb_sorted (hu : X.A.units + 64 < cLine) : CallR X (.builtin "sorted") (rB X.K .sorted) := by
  intro pins s σ H vs us Q I r h
  obtain ⟨B, ρ, t, ps, w, t', R, hs, h, k⟩ := h
  replace h : bSorted ps t = some (w, t') := h
  unfold bSorted at h
  split at h
  · rename_i n
    split at h
    · rename_i xs e
      by_cases c : sortable xs = true
      · rw [if_pos c] at h
        cases h
        obtain ⟨v, rfl, hv⟩ := hs.one
        obtain ⟨a, ys, rfl, _, ha, ra⟩ := R.list e hv
        obtain ⟨its, rv, hl, hz⟩ := I.list ha
        rw [Vals.ref1 r]
        obtain ⟨c1, c2, c3, c4, c5⟩ := sortable_ok c
        have ak := alikeEach_mem c1
        have hal : PySem.W.AllAlike (xs.map toD) := fun d hd d' hd' => by
          obtain ⟨p, hp, rfl⟩ := List.mem_map.mp hd
          obtain ⟨p', hp', rfl⟩ := List.mem_map.mp hd'
          exact alike_toD _ _ (ak p hp p' hp')
        have ev := each_vp ra rv
        have er : PySem.W.EachIs (fun v p => ∃ as, Reads s.heap v (toD p) as) its xs := each_mono ev fun v p hp ⟨x, hx, rx⟩ => Dp.reads I (toD p) x v (dp_of R rx (blws_mem.mp c2 p hp)) hx
        refine PySem.W.sorted_data hl.isList ev er hal c3 (by rw [← line_eq]; exact c4) (fun p hp => ?_) fun out lo eo => ?_
        · have d1 := Dt.dep p _ (Dt.toD p (blws_mem.mp c2 p hp))
          have := deps_le hp
          omega
        · rw [isort_merge ak c2] at eo
          obtain ⟨zs, rz, rr⟩ := vp_each eo
          obtain ⟨ep, he'⟩ := PyProof.Rows.sortedAll_at s.heap its out.toArray
          have hn : H (s.heap.objs.size + 1) = none := I.hok.fresh (Nat.le_succ _)
          have hlen : zs.length ≤ sizeLine := by
            rw [rz.length, lo, ← line_eq]; exact c4
          refine ⟨.ref _, upd H (s.heap.objs.size + 1) (.lst zs), I.laid (t' := s.toks) (fun _ _ => PyProof.Rows.sortedAll_old) (Nat.le_succ _) ⟨hlen, out, ep, rz, by simpa using he'⟩, rfl, k _ _ _ (R.newL hn rr) (Grow.new hn) R.end⟩
      · rw [if_neg c] at h; cases h
    · cases h
  · cases h
end
end Ev

set_option linter.all false
set_option autoImplicit false
set_option maxRecDepth 100000
set_option maxHeartbeats 4000000
/-! EvR: repr. -/
namespace Ev
open PySem PySem.Spec PyProof.Rows L2
mutual
theorem Dt.isD : ∀ (p : PV) (D : PyData), Dt p D → D = Ev.toD p
  | .non, _, h => by unfold Dt at h; rw [h, Ev.toD]
  | .bl _, _, h => by unfold Dt at h; rw [h, Ev.toD]
  | .int _, _, h => by unfold Dt at h; rw [h, Ev.toD]
  | .str _, _, h => by unfold Dt at h; rw [h, Ev.toD]
  | .tup xs, _, h => by
    unfold Dt at h
    obtain ⟨a, rfl, ha⟩ := h
    rw [Ev.toD, Dts.isD xs _ ha]
  | .lv xs, _, h => by
    unfold Dt at h
    obtain ⟨a, rfl, ha⟩ := h
    rw [Ev.toD, Dts.isD xs _ ha]
  | .ref _, _, h => by unfold Dt at h; exact h.elim
theorem Dts.isD : ∀ (ps : List PV) (D : List PyData), Dts ps D → D = toDs ps
  | [], _, h => by unfold Dts at h; rw [h, toDs]
  | x :: xs, _, h => by
    unfold Dts at h
    obtain ⟨a, as, rfl, h1, h2⟩ := h
    rw [toDs, Dt.isD x _ h1, Dts.isD xs _ h2]
end
mutual
theorem show_ok : ∀ p : PV, showP p = true → (Ev.toD p).showable = true ∧ (Ev.toD p).hasDict = false
  | .non, _ => by rw [Ev.toD]; exact ⟨by unfold PyData.showable; rfl, by unfold PyData.hasDict; rfl⟩
  | .bl _, _ => by rw [Ev.toD]; exact ⟨by unfold PyData.showable; rfl, by unfold PyData.hasDict; rfl⟩
  | .int i, h => by
    rw [Ev.toD]
    unfold showP at h
    exact ⟨by unfold PyData.showable; exact h, by unfold PyData.hasDict; rfl⟩
  | .str _, _ => by rw [Ev.toD]; exact ⟨by unfold PyData.showable; rfl, by unfold PyData.hasDict; rfl⟩
  | .tup xs, h => by
    rw [Ev.toD]
    unfold showP at h
    obtain ⟨a, b⟩ := shows_ok xs h
    exact ⟨by unfold PyData.showable; exact a, by unfold PyData.hasDict; exact b⟩
  | .lv xs, h => by
    rw [Ev.toD]
    unfold showP at h
    obtain ⟨a, b⟩ := shows_ok xs h
    exact ⟨by unfold PyData.showable; exact a, by unfold PyData.hasDict; exact b⟩
  | .ref _, h => by unfold showP at h; cases h
theorem shows_ok : ∀ ps : List PV, showPs ps = true → PyData.showableAll (toDs ps) = true ∧ PyData.hasDictAll (toDs ps) = false
  | [], _ => by rw [toDs]; exact ⟨by unfold PyData.showableAll; rfl, by unfold PyData.hasDictAll; rfl⟩
  | x :: xs, h => by
    rw [toDs]
    unfold showPs at h
    obtain ⟨h1, h2⟩ := Bool.and_eq_true_iff.mp h
    obtain ⟨a, b⟩ := show_ok x h1
    obtain ⟨c, d⟩ := shows_ok xs h2
    exact ⟨by unfold PyData.showableAll; rw [a, c] <;> rfl, by unfold PyData.hasDictAll; rw [b, d] <;> rfl⟩
end
section
variable {X : Cx} {H : Hp}
theorem cb_repr (hG : X.A.guards = some []) (hu : X.A.units + 64 < cLine) : CallR X (.builtin "repr") (rB X.K .repr) := by
  intro pins s σ H vs us Q I r h
  obtain ⟨B, ρ, t, ps, w, t', R, hs, h, k⟩ := h
  replace h : bRepr ps t = some (w, t') := h
  unfold bRepr at h
  split at h
  · rename_i p
    split at h
    · rename_i d ed
      by_cases c : (showP d && (decide (d.dep ≤ 60) && decide ((reprP d).length ≤ line))) = true
      · rw [if_pos c] at h
        cases h
        obtain ⟨c1, c2⟩ := Bool.and_eq_true_iff.mp c
        obtain ⟨c2, c3⟩ := Bool.and_eq_true_iff.mp c2
        have c2 := of_decide_eq_true c2
        have c3 := of_decide_eq_true c3
        obtain ⟨v, rfl, hv⟩ := hs.one
        obtain ⟨D, d1, d2⟩ := deep_ok R ed hv
        have eD := Dt.isD d D d1
        obtain ⟨s1, s2⟩ := show_ok d c1
        rw [← eD] at s1 s2
        have dep := Dt.dep d D d1
        have eS : D.shown = ⟨⟨reprP d⟩⟩ := by rw [eD]; rfl
        have szL : D.shown.length ≤ sizeLine := by rw [eS, str_len, ← line_eq]; exact c3
        cases r with
        | cons rv rr =>
          cases rr
          rename_i u
          obtain ⟨as, rd⟩ := Dp.reads I D v u d2 rv
          have fin : ∀ (h' : Heap) (tk t2 : Nat), (∀ b o, s.heap.get? b = some o → h'.get? b = some o) → EP X pins σ Q (.str D.shown t2) { s with heap := h', toks := tk } := fun h' tk t2 hk =>
            ⟨.str D.shown, H, I.kept hk, ⟨_, rfl⟩, k ρ H _ R Grow.refl (by rw [eS]; exact rv_str' _)⟩
          cases u with
          | ref a => exact repr_of_reads' (h₀ := s.heap) rd s1 (fun z => by rw [s2] at z; cases z) hG (by omega) (fun _ _ e => e) (fun h' u tk hk => fin h' tk u hk) szL
          | int i t =>
            cases rd
            refine P.repr_of_int ?_ ?_
            · unfold PyData.showable at s1
              exact of_decide_eq_true s1
            · exact fin s.heap _ _ fun _ _ e => e
          | str x t =>
            cases rd
            exact P.repr_of_str (fin s.heap _ _ fun _ _ e => e) szL
          | bool b =>
            cases rd
            exact P.repr_of_bool (fin s.heap _ _ fun _ _ e => e)
          | none =>
            cases rd
            exact P.repr_of_none (fin s.heap _ _ fun _ _ e => e)
          | _ => cases rd
      · rw [if_neg c] at h; cases h
    · cases h
  · cases h
end

/-! ### tuple[::-1] -/
section
variable {prog : Program} {w : World} {A : Around} {E : Value → Shared → Prop} {s : Shared}
theorem adjust_rev (n : Nat) : Builtin.Slice.sliceAdjust none none (-1) (n : Int) = ((n : Int) - 1, -1) := by
  unfold Builtin.Slice.sliceAdjust
  rfl
theorem places_rev (n : Nat) : Builtin.Slice.slicePlaces ((n : Int) - 1) (-1) (-1) = n := by
  unfold Builtin.Slice.slicePlaces
  have h1 : ¬ ((-1 : Int) > 0) := by omega
  have h2 : (- -1 : Int) = 1 := by decide
  simp only [h1, if_false, h2, Int.ediv_one]
  split <;> omega
theorem sliceApplied_rev {sl : Addr} {vl vu vs : Value} {n : Nat} {Q : Int × Int × Nat → Shared → Prop} (hs : s.heap.IsSliceOf sl vl vu vs) (pl : IsPart vl none) (pu : IsPart vu none) (ps : IsPart vs (some (-1)))
    (h : Q ((n : Int) - 1, -1, n) s) : wpAny (model prog w) A (Builtin.Slice.sliceApplied (.ref sl) (pure (n : Int))) Q E s := by
  obtain ⟨os, hos, hcs, hds⟩ := id hs
  unfold Builtin.Slice.sliceApplied Builtin.Slice.sliceFields
  refine wpAny_bind (wpAny_bind (wpAny_field hos hds (x := vl) rfl (wpAny_bind (wpAny_field hos hds (x := vu) rfl (wpAny_bind (wpAny_field hos hds (x := vs) rfl (wpAny_pure ?_)))))))
  refine wpAny_bind (HT.slicePart_ ps ?_)
  show wpAny _ _ (if ((-1 : Int) == 0) = true then _ else _) _ _ s
  rw [if_neg (by decide)]
  refine wpAny_bind (HT.slicePart_ pl (wpAny_bind (HT.slicePart_ pu (wpAny_bind (wpAny_pure ?_)))))
  show wpAny _ _ (match Builtin.Slice.sliceAdjust none none (-1) (n : Int) with | (lo, hi) => pure (lo, (-1 : Int), Builtin.Slice.slicePlaces lo hi (-1))) _ _ s
  rw [adjust_rev n]
  show wpAny _ _ (pure ((n : Int) - 1, (-1 : Int), Builtin.Slice.slicePlaces ((n : Int) - 1) (-1) (-1))) _ _ s
  rw [places_rev]
  exact wpAny_pure h
theorem pick_rev (xs : Array Value) : ((List.range xs.size).filterMap fun (k : Nat) => xs[((xs.size : Int) - 1 + (k : Int) * (-1)).toNat]?).toArray = xs.toList.reverse.toArray := by
  have e : (fun (k : Nat) => xs[((xs.size : Int) - 1 + (k : Int) * (-1)).toNat]?) = (fun i => xs[i]?) ∘ fun k => xs.size - 1 - k := by
    funext k
    have : ((xs.size : Int) - 1 + (k : Int) * (-1)).toNat = xs.size - 1 - k := by omega
    rw [this]
    rfl
  rw [e, ← List.filterMap_map, PySem.W.krv_range, List.filterMap_reverse, PySem.W.krv_all]
theorem getItem_tuple_rev {t sl : Addr} {items : Array Value} {vl vu vs : Value} {Q : Value → Shared → Prop} (ht : IsTup s.heap t items) (hs : s.heap.IsSliceOf sl vl vu vs) (pl : IsPart vl none) (pu : IsPart vu none) (ps : IsPart vs (some (-1)))
    (h : Q (.ref s.heap.objs.size) { s with heap := s.heap.push { cls := .type "tuple", data := .seq items.toList.reverse.toArray } }) (hsz : items.size ≤ sizeLine) : wpAny (model prog w) A (getItem (.ref t) (.ref sl)) Q E s := by
  have htake : sizeOk (.seq items.toList.reverse.toArray) := by
    show items.toList.reverse.toArray.size ≤ sizeLine
    rw [List.size_toArray, List.length_reverse, Array.length_toList]
    exact hsz
  obtain ⟨os, hos, hcs, hds⟩ := id hs
  have hTs : s.TypeIs (.ref sl) "slice" := ⟨os, hos, hcs⟩
  unfold getItem
  refine wpAny_holding ?_
  refine wpAny_bind (wpAny_sequenceKey ht.typeIs (by decide) ?_)
  refine wpAny_bind (wpAny_callSpecial?_slot (name := Str.ofString "__getitem__") ht.typeIs PyProof.Rows.slot_tuple_getitem
    (wpAny_call_entry PyProof.Rows.slot_tuple_getitem ht.typeIs entry_tuple_getitem ?_ (args_tuple_getitem _ _)))
  show wpAny _ _ (Builtin.Tuple.tupleItemsOf (.ref t) >>= _) _ _ s
  refine wpAny_bind (tupleItemsOf_ ht ?_)
  refine wpAny_bind (wpAny_typeOf hTs ?_)
  rw [if_pos (by decide)]
  refine wpAny_bind (sliceApplied_rev hs pl pu ps ?_)
  show wpAny _ _ (if (((items.size : Int) - 1) == 0 && (-1 : Int) == 1 && items.size == items.size) = true then _ else _) _ _ s
  rw [if_neg (by
    rw [show ((-1 : Int) == 1) = false from by decide, Bool.and_false, Bool.false_and]
    exact Bool.false_ne_true), pick_rev]
  first
    | exact wpAny_bind (m := Builtin.Tuple.tupleExact _) (wpAny_newObj_type (wpAny_pure ⟨_, rfl, wpAny_pure h⟩) htake)
    | exact wpAny_bind (m := Builtin.Tuple.tupleExact _) (wpAny_newObj_type (wpAny_bind (wpAny_pure (wpAny_pure ⟨_, rfl, wpAny_pure h⟩))) htake)
    | exact wpAny_bind (wpAny_bind (m := Builtin.Tuple.tupleExact _) (wpAny_newObj_type (wpAny_pure (wpAny_pure ⟨_, rfl, wpAny_pure h⟩)) htake))
    | exact wpAny_bind (wpAny_bind (m := Builtin.Tuple.tupleExact _) (wpAny_newObj_type (wpAny_pure ⟨_, rfl, wpAny_pure h⟩) htake))
end
def tRevT (K : PySem.W.Frag) (te : TE) : TE := fun σ H Q => te σ H fun x H1 => ∃ a xs, x = .ref a ∧ SqT K H1 a xs ∧ ∀ p, H1 p = none → Q (.ref p) (upd H1 p (.tup xs.reverse))
theorem pe_revT {X : Cx} {e : Expr} {te : TE} {k : Nat} {p1 p2 p3 pos : Pos} (he : PE X e te) : PE X (.Subscript e (.Slice none none (some (.UnaryOp .USub (.Constant (.int 1) k p1) p2)) p3) pos) (tRevT X.K te) := by
  refine ⟨fun pins s σ H Q I h => ?_⟩
  refine Subscript_ (thn (he.run pins s σ H _ I h) fun v s1 ⟨x, H1, I1, r1, a, xs, ex, hx, q⟩ => ?_)
  subst ex
  cases r1
  have hst : PO X (some (.UnaryOp .USub (.Constant (.int 1) k p1) p2)) (tPart (tUn (rU fun i => .int (-i)) (tC (.int 1)))) := po_some (pe_un un_neg pe_int)
  refine wpAny_Slice (thn (po_none.run pins s1 σ H1 (fun o H2 => o = none ∧ H2 = H1) I1 ⟨rfl, rfl⟩) fun vl s2 ⟨l, H2, I2, pl, el, e2⟩ => ?_)
  subst el e2
  refine thn (po_none.run pins s2 σ H2 (fun o H3 => o = none ∧ H3 = H2) I2 ⟨rfl, rfl⟩) fun vu s3 ⟨u, H3, I3, pu, eu, e3⟩ => ?_
  subst eu e3
  refine thn (hst.run pins s3 σ H3 (fun o H4 => o = some (-1) ∧ H4 = H3) I3 ⟨1, rfl, -1, rfl, rfl, rfl⟩) fun vs s4 ⟨o, H4, I4, ps, eo, e4⟩ => ?_
  subst eo e4
  have I5 : L2.Inv X pins σ H4 { s4 with heap := s4.heap.push { cls := .type "slice", data := .fields #[vl, vu, vs] } } := I4.kept (t' := s4.toks) fun b ob q => Heap.get?_push_of_some _ q
  obtain ⟨its, r, ht, hz⟩ := I5.tuple hx
  have hlen := r.length
  show wpAny (model X.prog X.w) X.A (subscriptTail e (.Slice none none (some (.UnaryOp .USub (.Constant (.int 1) k p1) p2)) p3) (.ref a) (.ref s4.heap.objs.size)) (EP X pins σ Q) X.xe { s4 with heap := s4.heap.push { cls := .type "slice", data := .fields #[vl, vu, vs] } }
  refine tail_any (ops := [.ref a, .ref s4.heap.objs.size]) ht.typeIs (PyProof.Rows.slot_tuple_getitem.lookup) ?_ (by with_unfolding_all rfl)
  refine getItem_tuple_rev ht (Heap.IsSliceOf.new _ vl vu vs) pl pu ps ?_ (by rw [List.size_toArray]; omega)
  refine ⟨.ref _, _, I5.laid (t' := s4.toks) (o := .tup xs.reverse) (fun b ob q => Heap.get?_push_of_some _ q) (Nat.le_refl _) ?_, rfl, q _ (I5.hok.fresh (Nat.le_refl _))⟩
  exact ⟨by rw [List.length_reverse]; exact hz, _, r.reverse, IsTup.new _ _⟩
end Ev

set_option linter.all false
set_option autoImplicit false
set_option maxRecDepth 100000
/-! Ev13: expressions: from the run to the rules' readings. -/
namespace Ev
open PySem PySem.Spec PyProof.Rows L2
section
variable {K : PySem.W.Frag} {C : Nat → List PV → S → Option (PV × S)} {σ : L2.St} {H : Hp} {Q : VK}
abbrev tEx (K : PySem.W.Frag) (C : Nat → List PV → S → Option (PV × S)) (e : XE) : TE := tE K (evE C e)
theorem w_c {v : PV} {u : V} (hu : ∀ ρ H, RV K ρ H v u) (h : tEx K C (.c v) σ H Q) : tC u σ H Q := by
  obtain ⟨B, ρ, e, s, R, rs, w, s', h, k⟩ := h
  unfold evE at h
  cases h
  exact k ρ H u R (Grow.refl) (hu _ _)
theorem w_v {i : Nat} (h : tEx K C (.v i) σ H Q) : tVar i σ H Q := by
  obtain ⟨B, ρ, e, s, R, rs, w, s', h, k⟩ := h
  unfold evE at h
  cases q : e[i]? with
  | none => simp only [q] at h; cases h
  | some o =>
    cases o with
    | none => simp only [q] at h; cases h
    | some p =>
      simp only [q] at h
      cases h
      obtain ⟨v, h1, h2⟩ := rs.val i w q
      exact ⟨v, h1, k ρ H v R (Grow.refl) h2⟩
theorem w_nil (Q : List V → Hp → Prop) (h : tA K (evL C .nil) σ H Q) : tNil σ H Q := by
  obtain ⟨B, ρ, e, s, R, rs, w, s', h, k⟩ := h
  unfold evL at h
  cases h
  exact k ρ H [] R (Grow.refl) (by unfold RVs; trivial)
theorem w_cons {a : XE} {r : XL} (Q : List V → Hp → Prop) (h : tA K (evL C (.cons a r)) σ H Q) : tCons (tEx K C a) (tA K (evL C r)) σ H Q := by
  obtain ⟨B, ρ, e, s, R, rs, w, s', h, k⟩ := h
  unfold evL at h
  cases q1 : evE C a e s with
  | none => simp only [q1] at h; cases h
  | some r1 =>
    simp only [q1] at h
    cases q2 : evL C r e r1.2 with
    | none => simp only [q2] at h; cases h
    | some r2 =>
      simp only [q2] at h
      cases h
      refine ⟨B, ρ, e, s, R, rs, r1.1, r1.2, q1, fun ρ1 H1 u1 R1 G1 v1 => ⟨B, ρ1, e, r1.2, R1, rs.mono G1, r2.1, r2.2, q2, fun ρ2 H2 us R2 G2 v2 => ?_⟩⟩
      exact k ρ2 H2 (u1 :: us) R2 (G1.trans G2) (by unfold RVs; exact ⟨u1, us, rfl, v1.mono G2 _ _, v2⟩)

/-- displays -/
theorem w_tup {es : XL} (h : tEx K C (.tup es) σ H Q) : tTup (tA K (evL C es)) σ H Q := by
  obtain ⟨B, ρ, e, s, R, rs, w, s', h, k⟩ := h
  unfold evE at h
  cases q : evL C es e s with
  | none => simp only [q] at h; cases h
  | some r =>
    simp only [q] at h
    by_cases c : r.1.length ≤ line
    · rw [if_pos c] at h
      cases h
      refine ⟨B, ρ, e, s, R, rs, r.1, r.2, q, fun ρ1 H1 us R1 G1 v1 => ⟨by rw [← v1.length]; exact c, fun p hp => ?_⟩⟩
      exact k ρ1 _ _ (R1.newT hp) (G1.trans (Grow.new0 hp)) (RV.newT hp v1)
    · rw [if_neg c] at h; cases h
theorem w_lst {es : XL} (h : tEx K C (.lst es) σ H Q) : tLst (tA K (evL C es)) σ H Q := by
  obtain ⟨B, ρ, e, s, R, rs, w, s', h, k⟩ := h
  unfold evE at h
  cases q : evL C es e s with
  | none => simp only [q] at h; cases h
  | some r =>
    simp only [q] at h
    by_cases c : r.1.length ≤ line
    · rw [if_pos c] at h
      cases h
      refine ⟨B, ρ, e, s, R, rs, r.1, r.2, q, fun ρ1 H1 us R1 G1 v1 => ⟨by rw [← v1.length]; exact c, fun p hp => ?_⟩⟩
      exact k (ρ1 ++ [p]) _ _ (R1.newL hp v1) (G1.trans (Grow.new hp)) (Rel.end R1)
    · rw [if_neg c] at h; cases h
theorem w_bin {op : Bop} {a b : XE} (h : tEx K C (.bin op a b) σ H Q) : tOp (r2 K (bop op)) (tEx K C a) (tEx K C b) σ H Q := by
  refine tE_op ?_
  obtain ⟨B, ρ, e, s, R, rs, w, s', h, k⟩ := h
  unfold evE at h
  exact ⟨B, ρ, e, s, R, rs, w, s', h, k⟩
theorem w_neg {a : XE} (h : tEx K C (.neg a) σ H Q) : tUn (rU fun i => .int (-i)) (tEx K C a) σ H Q := by
  obtain ⟨B, ρ, e, s, R, rs, w, s', h, k⟩ := h
  unfold evE at h
  cases q : evE C a e s with
  | none => simp only [q] at h; cases h
  | some r =>
    obtain ⟨p, s1⟩ := r
    cases p with
    | int i =>
      simp only [q] at h
      cases h
      refine ⟨B, ρ, e, s, R, rs, _, _, q, fun ρ1 H1 u R1 G1 v1 => ?_⟩
      cases rv_int v1
      exact ⟨i, rfl, k ρ1 H1 _ R1 G1 (rv_int' _)⟩
    | _ => simp only [q] at h; cases h
theorem w_cmp {op : Cop} {a b : XE} (h : tEx K C (.cmp op a b) σ H Q) : tOp (rc K op) (tEx K C a) (tEx K C b) σ H Q := by
  obtain ⟨B, ρ, e, s, R, rs, w, s', h, k⟩ := h
  unfold evE at h
  cases q1 : evE C a e s with
  | none => simp only [q1] at h; cases h
  | some r =>
    simp only [q1] at h
    cases q2 : evE C b e r.2 with
    | none => simp only [q2] at h; cases h
    | some q =>
      simp only [q2] at h
      cases q3 : cop op r.1 q.1 q.2 with
      | none => rw [q3] at h; cases h
      | some d =>
        rw [q3] at h
        cases h
        refine ⟨B, ρ, e, s, R, rs, r.1, r.2, q1, fun ρ1 H1 u1 R1 G1 v1 => ⟨B, ρ1, e, r.2, R1, rs.mono G1, q.1, q.2, q2, fun ρ2 H2 u2 R2 G2 v2 => ?_⟩⟩
        exact ⟨B, ρ2, q.2, r.1, q.1, d, R2, v1.mono G2 _ _, v2, q3, k ρ2 H2 _ R2 (G1.trans G2) (rv_bl' _)⟩
theorem w_cmp2 {o1 o2 : Cop} {a b c : XE} (h : tEx K C (.cmp2 o1 o2 a b c) σ H Q) : tChain (rc K o1) (rc K o2) (tEx K C a) (tEx K C b) (tEx K C c) σ H Q := by
  obtain ⟨B, ρ, e, s, R, rs, w, s', h, k⟩ := h
  unfold evE at h
  cases q1 : evE C a e s with
  | none => simp only [q1] at h; cases h
  | some r =>
    simp only [q1] at h
    cases q2 : evE C b e r.2 with
    | none => simp only [q2] at h; cases h
    | some q =>
      simp only [q2] at h
      cases q3 : cop o1 r.1 q.1 q.2 with
      | none => simp only [q3] at h; cases h
      | some d =>
        simp only [q3] at h
        refine ⟨B, ρ, e, s, R, rs, r.1, r.2, q1, fun ρ1 H1 u1 R1 G1 v1 => ⟨B, ρ1, e, r.2, R1, rs.mono G1, q.1, q.2, q2, fun ρ2 H2 u2 R2 G2 v2 => ?_⟩⟩
        refine ⟨B, ρ2, q.2, r.1, q.1, d, R2, v1.mono G2 _ _, v2, q3, d, rfl, ?_⟩
        cases d with
        | false =>
          cases h
          exact k ρ2 H2 _ R2 (G1.trans G2) (rv_bl' _)
        | true =>
          simp only at h
          rw [if_pos rfl]
          cases q4 : evE C c e q.2 with
          | none => simp only [q4] at h; cases h
          | some p =>
            simp only [q4] at h
            cases q5 : cop o2 q.1 p.1 p.2 with
            | none => rw [q5] at h; cases h
            | some d2 =>
              rw [q5] at h
              cases h
              refine ⟨B, ρ2, e, q.2, R2, (rs.mono G1).mono G2, p.1, p.2, q4, fun ρ3 H3 u3 R3 G3 v3 => ?_⟩
              exact ⟨B, ρ3, p.2, q.1, p.1, d2, R3, v2.mono G3 _ _, v3, q5, k ρ3 H3 _ R3 ((G1.trans G2).trans G3) (rv_bl' _)⟩
theorem w_and {a b : XE} (h : tEx K C (.and a b) σ H Q) : tAndV (tEx K C a) (tEx K C b) σ H Q := by
  obtain ⟨B, ρ, e, s, R, rs, w, s', h, k⟩ := h
  unfold evE at h
  cases q : evE C a e s with
  | none => simp only [q] at h; cases h
  | some r =>
    obtain ⟨p, s1⟩ := r
    cases p with
    | bl d =>
      refine ⟨B, ρ, e, s, R, rs, _, _, q, fun ρ1 H1 u R1 G1 v1 => ?_⟩
      cases rv_bl v1
      refine ⟨d, rfl, ?_⟩
      cases d with
      | true =>
        simp only [q] at h
        rw [if_pos rfl]
        exact ⟨B, ρ1, e, s1, R1, rs.mono G1, w, s', h, fun ρ2 H2 u2 R2 G2 v2 => k ρ2 H2 u2 R2 (G1.trans G2) v2⟩
      | false =>
        simp only [q] at h
        cases h
        rw [if_neg Bool.false_ne_true]
        exact k ρ1 H1 _ R1 G1 (rv_bl' _)
    | _ => simp only [q] at h; cases h
theorem w_or {a b : XE} (h : tEx K C (.or a b) σ H Q) : tOrV (tEx K C a) (tEx K C b) σ H Q := by
  obtain ⟨B, ρ, e, s, R, rs, w, s', h, k⟩ := h
  unfold evE at h
  cases q : evE C a e s with
  | none => simp only [q] at h; cases h
  | some r =>
    obtain ⟨p, s1⟩ := r
    cases p with
    | bl d =>
      refine ⟨B, ρ, e, s, R, rs, _, _, q, fun ρ1 H1 u R1 G1 v1 => ?_⟩
      cases rv_bl v1
      refine ⟨d, rfl, ?_⟩
      cases d with
      | true =>
        simp only [q] at h
        rw [if_pos rfl]
        cases h
        exact k ρ1 H1 _ R1 G1 (rv_bl' _)
      | false =>
        simp only [q] at h
        rw [if_neg Bool.false_ne_true]
        exact ⟨B, ρ1, e, s1, R1, rs.mono G1, w, s', h, fun ρ2 H2 u2 R2 G2 v2 => k ρ2 H2 u2 R2 (G1.trans G2) v2⟩
    | _ => simp only [q] at h; cases h
theorem w_not {a : XE} (h : tEx K C (.not a) σ H Q) : tNotV (tEx K C a) σ H Q := by
  obtain ⟨B, ρ, e, s, R, rs, w, s', h, k⟩ := h
  unfold evE at h
  cases q : evE C a e s with
  | none => simp only [q] at h; cases h
  | some r =>
    obtain ⟨p, s1⟩ := r
    cases p with
    | bl d =>
      simp only [q] at h
      cases h
      refine ⟨B, ρ, e, s, R, rs, _, _, q, fun ρ1 H1 u R1 G1 v1 => ?_⟩
      cases rv_bl v1
      exact ⟨d, rfl, k ρ1 H1 _ R1 G1 (rv_bl' _)⟩
    | _ => simp only [q] at h; cases h
/-- a test: a value that is a bool -/
theorem tT_B {f : Env → S → Option (PV × S)} {Q : Bool → Hp → Prop} (h : tT K f σ H Q) : tB (tE K f) σ H Q := by
  obtain ⟨B, ρ, e, s, R, rs, w, s', h, k⟩ := h
  exact ⟨B, ρ, e, s, R, rs, _, _, h, fun ρ1 H1 u R1 G1 v1 => ⟨w, rv_bl v1, k ρ1 H1 R1 G1⟩⟩
abbrev tTx (K : PySem.W.Frag) (C : Nat → List PV → S → Option (PV × S)) (e : XE) : TT := tT K (evE C e)
theorem x_and {a b : XE} {Q : Bool → Hp → Prop} (h : tTx K C (.and a b) σ H Q) : tAnd (tTx K C a) (tTx K C b) σ H Q := by
  obtain ⟨B, ρ, e, s, R, rs, w, s', h, k⟩ := h
  unfold evE at h
  cases q : evE C a e s with
  | none => simp only [q] at h; cases h
  | some r =>
    obtain ⟨p, s1⟩ := r
    cases p with
    | bl d =>
      refine ⟨B, ρ, e, s, R, rs, _, _, q, fun ρ1 H1 R1 G1 => ?_⟩
      cases d with
      | true =>
        simp only [q] at h
        rw [if_pos rfl]
        exact ⟨B, ρ1, e, s1, R1, rs.mono G1, w, s', h, fun ρ2 H2 R2 G2 => k ρ2 H2 R2 (G1.trans G2)⟩
      | false =>
        simp only [q] at h
        cases h
        rw [if_neg Bool.false_ne_true]
        exact k ρ1 H1 R1 G1
    | _ => simp only [q] at h; cases h
theorem x_or {a b : XE} {Q : Bool → Hp → Prop} (h : tTx K C (.or a b) σ H Q) : tOr (tTx K C a) (tTx K C b) σ H Q := by
  obtain ⟨B, ρ, e, s, R, rs, w, s', h, k⟩ := h
  unfold evE at h
  cases q : evE C a e s with
  | none => simp only [q] at h; cases h
  | some r =>
    obtain ⟨p, s1⟩ := r
    cases p with
    | bl d =>
      refine ⟨B, ρ, e, s, R, rs, _, _, q, fun ρ1 H1 R1 G1 => ?_⟩
      cases d with
      | true =>
        simp only [q] at h
        rw [if_pos rfl]
        cases h
        exact k ρ1 H1 R1 G1
      | false =>
        simp only [q] at h
        rw [if_neg Bool.false_ne_true]
        exact ⟨B, ρ1, e, s1, R1, rs.mono G1, w, s', h, fun ρ2 H2 R2 G2 => k ρ2 H2 R2 (G1.trans G2)⟩
    | _ => simp only [q] at h; cases h
theorem x_not {a : XE} {Q : Bool → Hp → Prop} (h : tTx K C (.not a) σ H Q) : tNot (tTx K C a) σ H Q := by
  obtain ⟨B, ρ, e, s, R, rs, w, s', h, k⟩ := h
  unfold evE at h
  cases q : evE C a e s with
  | none => simp only [q] at h; cases h
  | some r =>
    obtain ⟨p, s1⟩ := r
    cases p with
    | bl d =>
      simp only [q] at h
      cases h
      exact ⟨B, ρ, e, s, R, rs, _, _, q, fun ρ1 H1 R1 G1 => k ρ1 H1 R1 G1⟩
    | _ => simp only [q] at h; cases h
theorem w_ite {t a b : XE} (h : tEx K C (.ite t a b) σ H Q) : tIf (tTx K C t) (tEx K C a) (tEx K C b) σ H Q := by
  obtain ⟨B, ρ, e, s, R, rs, w, s', h, k⟩ := h
  unfold evE at h
  cases q : evE C t e s with
  | none => simp only [q] at h; cases h
  | some r =>
    obtain ⟨p, s1⟩ := r
    cases p with
    | bl d =>
      refine ⟨B, ρ, e, s, R, rs, _, _, q, fun ρ1 H1 R1 G1 => ?_⟩
      cases d with
      | true =>
        simp only [q] at h
        rw [if_pos rfl]
        exact ⟨B, ρ1, e, s1, R1, rs.mono G1, w, s', h, fun ρ2 H2 u2 R2 G2 v2 => k ρ2 H2 u2 R2 (G1.trans G2) v2⟩
      | false =>
        simp only [q] at h
        rw [if_neg Bool.false_ne_true]
        exact ⟨B, ρ1, e, s1, R1, rs.mono G1, w, s', h, fun ρ2 H2 u2 R2 G2 v2 => k ρ2 H2 u2 R2 (G1.trans G2) v2⟩
    | _ => simp only [q] at h; cases h
/-- behind the arguments an operation by values -/
theorem tA_op {g : List PV → S → Option (PV × S)} {es : XL} (h : tE K (fun e s => match evL C es e s with
    | none => none
    | some r => g r.1 r.2) σ H Q) : tCB (rN K g) (tA K (evL C es)) σ H Q := by
  obtain ⟨B, ρ, e, s, R, rs, w, s', h, k⟩ := h
  cases q : evL C es e s with
  | none => simp only [q] at h; cases h
  | some r =>
    simp only [q] at h
    refine ⟨B, ρ, e, s, R, rs, r.1, r.2, q, fun ρ1 H1 us R1 G1 v1 => ?_⟩
    exact ⟨B, ρ1, r.2, r.1, w, s', R1, v1, h, fun ρ2 H2 u R2 G2 v2 => k ρ2 H2 u R2 (G1.trans G2) v2⟩
theorem w_blt {f : Blt} {es : XL} (h : tEx K C (.blt f es) σ H Q) : tCB (rB K f) (tA K (evL C es)) σ H Q := by
  refine tA_op ?_
  obtain ⟨B, ρ, e, s, R, rs, w, s', h, k⟩ := h
  unfold evE at h
  exact ⟨B, ρ, e, s, R, rs, w, s', h, k⟩
/-- what a def promises: its run -/
def spF (K : PySem.W.Frag) (g : List PV → S → Option (PV × S)) : Sp := fun vs H Q _ => rN K g vs H Q
theorem w_call {f : Nat} {es : XL} {E : XK} (h : tEx K C (.call f es) σ H Q) : tCall (spF K (C f)) [] E (tA K (evL C es)) σ H Q := by
  have z : tCB (rN K (C f)) (tA K (evL C es)) σ H Q := by
    refine tA_op ?_
    obtain ⟨B, ρ, e, s, R, rs, w, s', h, k⟩ := h
    unfold evE at h
    exact ⟨B, ρ, e, s, R, rs, w, s', h, k⟩
  obtain ⟨B, ρ, e, s, R, rs, vs, s', h, k⟩ := z
  refine ⟨B, ρ, e, s, R, rs, vs, s', h, fun ρ1 H1 us R1 G1 v1 => ?_⟩
  show spF K (C f) (us ++ []) H1 Q E
  rw [List.append_nil]
  exact k ρ1 H1 us R1 G1 v1
theorem w_idx {o i : XE} (h : tEx K C (.idx o i) σ H Q) : tOp (rIt K) (tEx K C o) (tEx K C i) σ H Q := by
  obtain ⟨B, ρ, e, s, R, rs, w, s', h, k⟩ := h
  unfold evE at h
  cases q1 : evE C o e s with
  | none => simp only [q1] at h; cases h
  | some r =>
    simp only [q1] at h
    cases q2 : evE C i e r.2 with
    | none => simp only [q2] at h; cases h
    | some q =>
      simp only [q2] at h
      cases q3 : item r.1 q.1 q.2 with
      | none => rw [q3] at h; cases h
      | some d =>
        rw [q3] at h
        cases h
        refine ⟨B, ρ, e, s, R, rs, r.1, r.2, q1, fun ρ1 H1 u1 R1 G1 v1 => ⟨B, ρ1, e, r.2, R1, rs.mono G1, q.1, q.2, q2, fun ρ2 H2 u2 R2 G2 v2 => ?_⟩⟩
        exact ⟨B, ρ2, q.2, r.1, q.1, w, R2, v1.mono G2 _ _, v2, q3, fun u hu => k ρ2 H2 u R2 (G1.trans G2) hu⟩
/-- a slice's part -/
def tO (K : PySem.W.Frag) (f : Env → S → Option (Option Int × S)) : TO := fun σ H Q => ∃ B ρ e s, Rel K B ρ s H ∧ RS K ρ H e σ ∧ ∃ v s', f e s = some (v, s') ∧
  ∀ ρ' H', Rel K B ρ' s' H' → Grow K ρ H ρ' H' → Q v H'
theorem w_onone (Q : Option Int → Hp → Prop) (h : tO K (evO C .none) σ H Q) : tNoPart σ H Q := by
  obtain ⟨B, ρ, e, s, R, rs, w, s', h, k⟩ := h
  unfold evO at h
  cases h
  exact k ρ H R Grow.refl
theorem w_osome {a : XE} (Q : Option Int → Hp → Prop) (h : tO K (evO C (.some a)) σ H Q) : tPart (tEx K C a) σ H Q := by
  obtain ⟨B, ρ, e, s, R, rs, w, s', h, k⟩ := h
  unfold evO at h
  cases q : evE C a e s with
  | none => simp only [q] at h; cases h
  | some r =>
    obtain ⟨p, s1⟩ := r
    cases p with
    | int i =>
      simp only [q] at h
      cases h
      refine ⟨B, ρ, e, s, R, rs, _, _, q, fun ρ1 H1 u R1 G1 v1 => ?_⟩
      cases rv_int v1
      exact ⟨i, rfl, k ρ1 H1 R1 G1⟩
    | _ => simp only [q] at h; cases h
theorem w_sl {o : XE} {lo hi : XO} (h : tEx K C (.sl o lo hi) σ H Q) : tSl (rSl K) (tEx K C o) (tO K (evO C lo)) (tO K (evO C hi)) σ H Q := by
  obtain ⟨B, ρ, e, s, R, rs, w, s', h, k⟩ := h
  unfold evE at h
  cases q1 : evE C o e s with
  | none => simp only [q1] at h; cases h
  | some r =>
    simp only [q1] at h
    cases q2 : evO C lo e r.2 with
    | none => simp only [q2] at h; cases h
    | some q =>
      simp only [q2] at h
      cases q3 : evO C hi e q.2 with
      | none => simp only [q3] at h; cases h
      | some p =>
        simp only [q3] at h
        refine ⟨B, ρ, e, s, R, rs, r.1, r.2, q1, fun ρ1 H1 u1 R1 G1 v1 => ⟨B, ρ1, e, r.2, R1, rs.mono G1, q.1, q.2, q2, fun ρ2 H2 R2 G2 => ?_⟩⟩
        refine ⟨B, ρ2, e, q.2, R2, (rs.mono G1).mono G2, p.1, p.2, q3, fun ρ3 H3 R3 G3 => ?_⟩
        exact ⟨B, ρ3, p.2, r.1, w, s', R3, v1.mono (G2.trans G3) _ _, h, fun ρ4 H4 u R4 G4 v4 => k ρ4 H4 u R4 ((G1.trans G2).trans (G3.trans G4)) v4⟩

theorem w_rev {o : XE} (h : tEx K C (.rev o) σ H Q) : tRevT K (tEx K C o) σ H Q := by
  obtain ⟨B, ρ, e, s, R, rs, w, s', h, k⟩ := h
  unfold evE at h
  cases q : evE C o e s with
  | none => simp only [q] at h; cases h
  | some r =>
    obtain ⟨p, s1⟩ := r
    cases p with
    | tup xs =>
      simp only [q] at h
      cases h
      refine ⟨B, ρ, e, s, R, rs, _, _, q, fun ρ1 H1 u R1 G1 v1 => ?_⟩
      obtain ⟨a, vs, rfl, sq, rv⟩ := rv_tup v1
      exact ⟨a, vs, rfl, sq, fun p hp => k ρ1 _ _ (R1.newT hp) (G1.trans (Grow.new0 hp)) (RV.newT hp rv.reverse)⟩
    | _ => simp only [q] at h; cases h
/-! ### methods -/
theorem w_mth {m : Mth} {o : XE} {es : XL} (hm : m ≠ .join) (h : tEx K C (.mth m o es) σ H Q) : tBM K "list" (rM K m) (tEx K C o) (tA K (evL C es)) σ H Q := by
  obtain ⟨B, ρ, e, s, R, rs, w, s', h, k⟩ := h
  unfold evE at h
  cases q1 : evE C o e s with
  | none => simp only [q1] at h; cases h
  | some r =>
    simp only [q1] at h
    by_cases c : mthTy m r.1 r.2 = true
    · rw [if_pos c] at h
      cases q2 : evL C es e r.2 with
      | none => simp only [q2] at h; cases h
      | some q =>
        simp only [q2] at h
        refine ⟨B, ρ, e, s, R, rs, r.1, r.2, q1, fun ρ1 H1 u1 R1 G1 v1 => ⟨?_, B, ρ1, e, r.2, R1, rs.mono G1, q.1, q.2, q2, fun ρ2 H2 us R2 G2 v2 => ?_⟩⟩
        · generalize r.1 = p at c v1
          generalize r.2 = t at c R1
          have key : ∃ n xs, p = .ref n ∧ t.g[n]? = some (.lst xs) := by
            cases m <;> first
              | exact absurd rfl hm
              | (cases p with
                 | ref n =>
                   unfold mthTy at c
                   cases z : t.g[n]? with
                   | none => simp only [z] at c; cases c
                   | some o =>
                     cases o with
                     | lst xs => exact ⟨n, xs, rfl, z⟩
                     | _ => simp only [z] at c; cases c
                 | _ => cases c)
          obtain ⟨n, xs, rfl, z⟩ := key
          obtain ⟨a, vs, rfl, _, ha, _⟩ := R1.lst z v1
          exact .inl ⟨rfl, vs, SqL.of ha⟩
        · exact ⟨B, ρ2, q.2, r.1, q.1, w, s', R2, v1.mono G2 _ _, v2, h, fun ρ3 H3 u R3 G3 v3 => k ρ3 H3 u R3 ((G1.trans G2).trans G3) v3⟩
    · rw [if_neg c] at h; cases h
theorem w_mth0 {m : Mth} {o : XE} (hm : m ≠ .join) (h : tEx K C (.mth m o .nil) σ H Q) : tBM0 K "list" (rM K m) (tEx K C o) σ H Q := by
  obtain ⟨B, ρ, e, s, R, rs, w, s', h, k⟩ := w_mth hm h
  refine ⟨B, ρ, e, s, R, rs, w, s', h, fun ρ1 H1 u1 R1 G1 v1 => ?_⟩
  obtain ⟨c, z⟩ := k ρ1 H1 u1 R1 G1 v1
  exact ⟨c, w_nil _ z⟩
/-- f(x, T) by isinstance -/
theorem w_is {T : String} {ks : List Nat} {f : Blt} {a : XE} (hf : blt f = bIs ks) (h : tEx K C (.blt f (.cons a .nil)) σ H Q) : tCB (rIs K T ks) (tCons (tEx K C a) (tCons (tC (.ty T)) tNil)) σ H Q := by
  obtain ⟨B, ρ, e, s, R, rs, w, s', h, k⟩ := h
  unfold evE evL evL at h
  cases q : evE C a e s with
  | none => simp only [q] at h; cases h
  | some r =>
    simp only [q, hf] at h
    unfold bIs at h
    cases q2 : kind r.2 r.1 with
    | none => simp only [q2] at h; cases h
    | some n =>
      simp only [q2] at h
      cases h
      refine ⟨B, ρ, e, s, R, rs, r.1, r.2, q, fun ρ1 H1 u1 R1 G1 v1 => ?_⟩
      exact ⟨B, ρ1, r.2, r.1, u1, n, R1, rfl, v1, q2, k ρ1 H1 _ R1 G1 (rv_bl' _)⟩
end
end Ev

set_option linter.all false
set_option autoImplicit false
set_option maxRecDepth 100000
/-! Ev14: iterators. -/
namespace Ev
open PySem PySem.Spec PyProof.Rows L2 RZ
section
variable (K : PySem.W.Frag)
/-- J walks what the run's iterator walks -/
structure JR (it : IT) (ρ : List Addr) (H : Hp) (J : It) : Prop where
  go : ∀ (i : Nat) (B : Nat → Option Nat) (ρ2 : List Addr) (H2 : Hp) (t : S) (v : PV), Gr K ρ H ρ2 H2 → Rel K B ρ2 t H2 → it.get t i = some (some v) →
    J.go i H2 ∧ ∀ x H', J.yld i H2 x H' → Rel K B ρ2 t H' ∧ Grow K ρ2 H2 ρ2 H' ∧ RV K ρ2 H' v x
  stop : ∀ (i : Nat) (B : Nat → Option Nat) (ρ2 : List Addr) (H2 : Hp) (t : S), Gr K ρ H ρ2 H2 → Rel K B ρ2 t H2 → it.get t i = some none → J.stop i H2
def tI (f : Env → S → Option (IT × S)) : TI := fun σ H R => ∃ B ρ e s, Rel K B ρ s H ∧ RS K ρ H e σ ∧ ∃ it s', f e s = some (it, s') ∧
  ∀ ρ' H' J, Rel K B ρ' s' H' → Grow K ρ H ρ' H' → JR K it ρ' H' J → R J H'
end
section
variable {K : PySem.W.Frag} {C : Nat → List PV → S → Option (PV × S)} {σ : L2.St} {H : Hp} {ρ : List Addr}
theorem RVs.get0 : ∀ {ps : List PV} {vs : List V} {i : Nat}, RVs K ρ H ps vs → ps[i]? = none → vs.length ≤ i := fun {ps vs i} h e => by
  rw [← h.length]
  exact List.getElem?_eq_none_iff.mp e
/-- a list at its place -/
theorem jr_list {n : Nat} {a : Addr} (ha : ρ[n]? = some a) : JR K (.lref n) ρ H (Itl K a) := by
  refine ⟨fun i B ρ2 H2 t v G R h => ?_, fun i B ρ2 H2 t G R h => ?_⟩
  · unfold IT.get at h
    cases q : lstAt t n with
    | none => rw [q] at h; cases h
    | some xs =>
      rw [q] at h
      have h := Option.some.inj h
      obtain ⟨b, vs, e, hb, sq, rv⟩ := R.list (v := .ref a) q (by unfold RV; exact ⟨a, rfl, G.pre n a ha⟩)
      cases e
      obtain ⟨x, hx, rx⟩ := rv.get h
      refine ⟨⟨vs, x, sq, hx⟩, fun y H' hy => ?_⟩
      obtain ⟨e, hy⟩ := hy
      subst e
      have := hy vs sq
      rw [hx] at this
      cases this
      exact ⟨R, Grow.refl, rx⟩
  · unfold IT.get at h
    cases q : lstAt t n with
    | none => rw [q] at h; cases h
    | some xs =>
      rw [q] at h
      have h := Option.some.inj h
      obtain ⟨b, vs, e, hb, sq, rv⟩ := R.list (v := .ref a) q (by unfold RV; exact ⟨a, rfl, G.pre n a ha⟩)
      cases e
      exact ⟨vs, sq, rv.get0 h⟩
theorem jr_tup {xs : List PV} {a : Addr} {vs : List V} (q : H a = some (.tup vs)) (r : RVs K ρ H xs vs) : JR K (.vals xs) ρ H (Itt K a) := by
  refine ⟨fun i B ρ2 H2 t v G R h => ?_, fun i B ρ2 H2 t G R h => ?_⟩
  · unfold IT.get at h
    have h := Option.some.inj h
    obtain ⟨x, hx, rx⟩ := (r.mo G _ _).get h
    refine ⟨⟨vs, x, SqT.of (G.tup _ _ q), hx⟩, fun y H' hy => ?_⟩
    obtain ⟨e, hy⟩ := hy
    subst e
    have := hy vs (SqT.of (G.tup _ _ q))
    rw [hx] at this
    cases this
    exact ⟨R, Grow.refl, rx⟩
  · unfold IT.get at h
    have h := Option.some.inj h
    exact ⟨vs, SqT.of (G.tup _ _ q), r.get0 h⟩
theorem jr_str {x : Sg} : JR K (.vals (x.map fun c => .str [c])) ρ H (Its ⟨⟨x⟩⟩) := by
  refine ⟨fun i B ρ2 H2 t v G R h => ?_, fun i B ρ2 H2 t G R h => ?_⟩
  · unfold IT.get at h
    have h := Option.some.inj h
    rw [List.getElem?_map] at h
    obtain ⟨c, hc, e⟩ := Option.map_eq_some_iff.mp h
    subst e
    have l := lt_of_get hc
    refine ⟨by show i < x.length; exact l, fun y H' hy => ?_⟩
    obtain ⟨e, d, hd, e2⟩ := hy
    subst e
    subst e2
    have hd : x[i]? = some d := by simpa using hd
    rw [hc] at hd
    cases hd
    exact ⟨R, Grow.refl, rv_str' _⟩
  · unfold IT.get at h
    have h := Option.some.inj h
    rw [List.getElem?_map] at h
    cases q : x[i]? with
    | none => exact List.getElem?_eq_none_iff.mp q
    | some c => rw [q] at h; cases h
theorem rangeV_get {a b : Int} {i : Nat} : (rangeV a b)[i]? = if i < (b - a).toNat then some (.int (a + i)) else none := by
  unfold rangeV
  rw [List.getElem?_map]
  by_cases c : i < (b - a).toNat
  · rw [if_pos c, List.getElem?_range c]
    rfl
  · rw [if_neg c, List.getElem?_eq_none (by simpa using Nat.le_of_not_lt c)]
    rfl
theorem jr_range {a b : Int} : JR K (.vals (rangeV a b)) ρ H (Itr a (b - a).toNat) := by
  refine ⟨fun i B ρ2 H2 t v G R h => ?_, fun i B ρ2 H2 t G R h => ?_⟩
  · unfold IT.get at h
    have h := Option.some.inj h
    rw [rangeV_get] at h
    by_cases c : i < (b - a).toNat
    · rw [if_pos c] at h
      cases h
      refine ⟨c, fun y H' hy => ?_⟩
      obtain ⟨e, hy⟩ := hy
      subst e
      subst hy
      exact ⟨R, Grow.refl, rv_int' _⟩
    · rw [if_neg c] at h; cases h
  · unfold IT.get at h
    have h := Option.some.inj h
    rw [rangeV_get] at h
    by_cases c : i < (b - a).toNat
    · rw [if_pos c] at h; cases h
    · exact Nat.le_of_not_lt c
theorem jr_enum {n : Nat} {a : Addr} (ha : ρ[n]? = some a) : JR K (.enum (.lref n)) ρ H (Ite K a) := by
  refine ⟨fun i B ρ2 H2 t v G R h => ?_, fun i B ρ2 H2 t G R h => ?_⟩
  · unfold IT.get IT.get at h
    cases q : lstAt t n with
    | none => rw [q] at h; cases h
    | some xs =>
      rw [q] at h
      simp only [Option.map_some] at h
      cases z : xs[i]? with
      | none => rw [z] at h; cases h
      | some p =>
        rw [z] at h
        cases h
        obtain ⟨b, vs, e, hb, sq, rv⟩ := R.list (v := .ref a) q (by unfold RV; exact ⟨a, rfl, G.pre n a ha⟩)
        cases e
        obtain ⟨x, hx, rx⟩ := rv.get z
        refine ⟨⟨vs, x, sq, hx⟩, fun y H' hy => ?_⟩
        obtain ⟨T, x', e1, hT, e2, hy⟩ := hy
        subst e1
        subst e2
        have := hy vs sq
        rw [hx] at this
        cases this
        exact ⟨R.newT hT, Grow.new0 hT, RV.newT hT (.cons (rv_int' _) (.cons rx .nil))⟩
  · unfold IT.get IT.get at h
    cases q : lstAt t n with
    | none => rw [q] at h; cases h
    | some xs =>
      rw [q] at h
      simp only [Option.map_some] at h
      cases z : xs[i]? with
      | some p => rw [z] at h; cases h
      | none =>
        obtain ⟨b, vs, e, hb, sq, rv⟩ := R.list (v := .ref a) q (by unfold RV; exact ⟨a, rfl, G.pre n a ha⟩)
        cases e
        exact ⟨vs, sq, rv.get0 z⟩
theorem jr_zip {n m : Nat} {a b : Addr} (ha : ρ[n]? = some a) (hb : ρ[m]? = some b) : JR K (.zip (.lref n) (.lref m)) ρ H (Itz K a b) := by
  have key : ∀ (B : Nat → Option Nat) (ρ2 : List Addr) (H2 : Hp) (t : S) (xs ys : List PV), Gr K ρ H ρ2 H2 → Rel K B ρ2 t H2 → lstAt t n = some xs → lstAt t m = some ys → ∃ vs ws, SqL K H2 a vs ∧ SqL K H2 b ws ∧ RVs K ρ2 H2 xs vs ∧ RVs K ρ2 H2 ys ws := by
    intro B ρ2 H2 t xs ys G R q1 q2
    obtain ⟨c, vs, e, _, sq, rv⟩ := R.list (v := .ref a) q1 (by unfold RV; exact ⟨a, rfl, G.pre n a ha⟩)
    cases e
    obtain ⟨c, ws, e, _, sq', rv'⟩ := R.list (v := .ref b) q2 (by unfold RV; exact ⟨b, rfl, G.pre m b hb⟩)
    cases e
    exact ⟨vs, ws, sq, sq', rv, rv'⟩
  refine ⟨fun i B ρ2 H2 t v G R h => ?_, fun i B ρ2 H2 t G R h => ?_⟩
  · unfold IT.get IT.get at h
    cases q : lstAt t n with
    | none => rw [q] at h; cases h
    | some xs =>
      rw [q] at h
      simp only [Option.map_some] at h
      cases q' : lstAt t m with
      | none => rw [q'] at h; cases h
      | some ys =>
        rw [q'] at h
        simp only [Option.map_some] at h
        cases z : xs[i]? with
        | none => rw [z] at h; cases h
        | some p =>
          rw [z] at h
          cases z' : ys[i]? with
          | none => rw [z'] at h; cases h
          | some p' =>
            rw [z'] at h
            cases h
            obtain ⟨vs, ws, sq, sq', rv, rv'⟩ := key B ρ2 H2 t xs ys G R q q'
            obtain ⟨x, hx, rx⟩ := rv.get z
            obtain ⟨x', hx', rx'⟩ := rv'.get z'
            refine ⟨⟨vs, ws, x, x', sq, sq', hx, hx'⟩, fun y H' hy => ?_⟩
            obtain ⟨T, y1, y2, e1, hT, e2, hy1, hy2⟩ := hy
            subst e1
            subst e2
            have := hy1 vs sq
            rw [hx] at this
            cases this
            have := hy2 ws sq'
            rw [hx'] at this
            cases this
            exact ⟨R.newT hT, Grow.new0 hT, RV.newT hT (.cons rx (.cons rx' .nil))⟩
  · unfold IT.get IT.get at h
    cases q : lstAt t n with
    | none => rw [q] at h; cases h
    | some xs =>
      rw [q] at h
      simp only [Option.map_some] at h
      cases q' : lstAt t m with
      | none => rw [q'] at h; cases h
      | some ys =>
        rw [q'] at h
        simp only [Option.map_some] at h
        obtain ⟨vs, ws, sq, sq', rv, rv'⟩ := key B ρ2 H2 t xs ys G R q q'
        cases z : xs[i]? with
        | none => exact ⟨vs, ws, sq, sq', .inl (rv.get0 z)⟩
        | some p =>
          rw [z] at h
          cases z' : ys[i]? with
          | some p' => rw [z'] at h; cases h
          | none => exact ⟨vs, ws, sq, sq', .inr (rv'.get0 z')⟩
theorem jr_zipT {xs ys : List PV} {a b : Addr} {vs ws : List V} (sq : H a = some (.tup vs)) (r : RVs K ρ H xs vs) (sq' : H b = some (.tup ws)) (r' : RVs K ρ H ys ws) : JR K (.zip (.vals xs) (.vals ys)) ρ H (ItzT K a b) := by
  refine ⟨fun i B ρ2 H2 t v G R h => ?_, fun i B ρ2 H2 t G R h => ?_⟩
  · unfold IT.get IT.get at h
    simp only at h
    cases z : xs[i]? with
    | none => rw [z] at h; cases h
    | some p =>
      rw [z] at h
      cases z' : ys[i]? with
      | none => rw [z'] at h; cases h
      | some p' =>
        rw [z'] at h
        cases h
        obtain ⟨x, hx, rx⟩ := (r.mo G _ _).get z
        obtain ⟨x', hx', rx'⟩ := (r'.mo G _ _).get z'
        refine ⟨⟨vs, ws, x, x', SqT.of (G.tup _ _ sq), SqT.of (G.tup _ _ sq'), hx, hx'⟩, fun y H' hy => ?_⟩
        obtain ⟨T, y1, y2, e1, hT, e2, hy1, hy2⟩ := hy
        subst e1
        subst e2
        have := hy1 vs (SqT.of (G.tup _ _ sq))
        rw [hx] at this
        cases this
        have := hy2 ws (SqT.of (G.tup _ _ sq'))
        rw [hx'] at this
        cases this
        exact ⟨R.newT hT, Grow.new0 hT, RV.newT hT (.cons rx (.cons rx' .nil))⟩
  · unfold IT.get IT.get at h
    simp only at h
    cases z : xs[i]? with
    | none => exact ⟨vs, ws, SqT.of (G.tup _ _ sq), SqT.of (G.tup _ _ sq'), .inl (r.get0 z)⟩
    | some p =>
      rw [z] at h
      cases z' : ys[i]? with
      | some p' => rw [z'] at h; cases h
      | none => exact ⟨vs, ws, SqT.of (G.tup _ _ sq), SqT.of (G.tup _ _ sq'), .inr (r'.get0 z')⟩
/-! ### a list, a tuple, a text: known at the run -/
def iSeq (K : PySem.W.Frag) (te : TE) : TI := fun σ H R => te σ H fun x H1 => (∃ a, x = .ref a ∧ (∃ xs, SqL K H1 a xs) ∧ R (Itl K a) H1) ∨ (∃ a, x = .ref a ∧ (∃ xs, SqT K H1 a xs) ∧ R (Itt K a) H1) ∨ (∃ y, x = .str y ∧ R (Its y) H1)
theorem pi_seq {X : Cx} {tg e : Expr} {te : TE} (he : PE X e te) : PI X tg e (iSeq X.K te) := by
  refine ⟨fun pins s σ H R I h => ?_⟩
  refine thn (he.run pins s σ H _ I h) fun v s1 ⟨x, H1, I1, r1, q1⟩ => ?_
  have one : ∀ b ∈ [s1.heap.objs.size], FpOk X pins H1 b := fun b hb => by
    have e : b = s1.heap.objs.size := by simpa using hb
    subst e
    exact I1.fpOk (Nat.le_refl _) (I1.hok.fresh (Nat.le_refl _))
  rcases q1 with ⟨a, rfl, ⟨xs, hq⟩, q⟩ | ⟨a, rfl, ⟨xs, hq⟩, q⟩ | ⟨y, rfl, q⟩
  · cases r1
    obtain ⟨its, rv, p, hz⟩ := I1.list hq
    refine wpAny_pyIter_list p.isList ?_
    exact ⟨s1.heap.objs.size, [s1.heap.objs.size], _, _, H1, rfl, I1.kept (t' := s1.toks) fun b o e => Heap.get?_push_of_some _ e, turn_list a _, ⟨_, Heap.get?_push_size _ rfl, rfl, rfl⟩, one, q⟩
  · cases r1
    obtain ⟨its, rv, p, hz⟩ := I1.tuple hq
    refine wpAny_pyIter_tuple (show s1.heap.IsTuple a its.toArray from p) ?_
    exact ⟨s1.heap.objs.size, [s1.heap.objs.size], _, _, H1, rfl, I1.kept (t' := s1.toks) fun b o e => Heap.get?_push_of_some _ e, turn_tuple a _, ⟨_, Heap.get?_push_size _ rfl, rfl, rfl⟩, one, q⟩
  · obtain ⟨t, rfl⟩ := r1
    cases ha : y.cps.all (· < 128)
    · exact wpAny_pyIter_wide ha (pi_one (tk := s1.toks) I1 _ (turn_str _ y t "str_iterator" (.inr rfl)) ⟨_, Heap.get?_push_size _ rfl, rfl, rfl⟩ q)
    · exact wpAny_pyIter_ascii ha (pi_one (tk := s1.toks) I1 _ (turn_str _ y t "str_ascii_iterator" (.inl rfl)) ⟨_, Heap.get?_push_size _ rfl, rfl, rfl⟩ q)
theorem wi_seq {a : XE} {R : It → Hp → Prop} (h : tI K (evI C (.seq a)) σ H R) : iSeq K (tEx K C a) σ H R := by
  obtain ⟨B, ρ, e, s, R0, rs, w, s', h, k⟩ := h
  unfold evI at h
  cases q : evE C a e s with
  | none => simp only [q] at h; cases h
  | some r =>
    obtain ⟨p, s1⟩ := r
    refine ⟨B, ρ, e, s, R0, rs, _, _, q, fun ρ1 H1 u R1 G1 v1 => ?_⟩
    cases p with
    | tup xs =>
      simp only [q] at h
      cases h
      obtain ⟨a, vs, rfl, sq, rv⟩ := rv_tupH v1
      exact .inr (.inl ⟨a, rfl, ⟨vs, SqT.of sq⟩, k ρ1 H1 _ R1 G1 (jr_tup sq rv)⟩)
    | str x =>
      simp only [q] at h
      cases h
      cases rv_str v1
      exact .inr (.inr ⟨_, rfl, k ρ1 H1 _ R1 G1 jr_str⟩)
    | ref n =>
      simp only [q] at h
      cases z : lstAt s1 n with
      | none => rw [z] at h; cases h
      | some xs =>
        rw [z] at h
        cases h
        obtain ⟨a, vs, rfl, ha, sq, _⟩ := R1.list z v1
        exact .inl ⟨a, rfl, ⟨vs, sq⟩, k ρ1 H1 _ R1 G1 (jr_list ha)⟩
    | _ => simp only [q] at h; cases h
theorem intOk_iff {i : Int} (h : intOk i = true) : -(2 ^ 62) ≤ i ∧ i < 2 ^ 62 := by
  unfold intOk at h
  exact of_decide_eq_true h
theorem wi_rng {a : XE} {R : It → Hp → Prop} (h : tI K (evI C (.rng a)) σ H R) : iRng1 (tCons (tEx K C a) tNil) σ H R := by
  obtain ⟨B, ρ, e, s, R0, rs, w, s', h, k⟩ := h
  unfold evI at h
  cases q : evE C a e s with
  | none => simp only [q] at h; cases h
  | some r =>
    obtain ⟨p, s1⟩ := r
    cases p with
    | int j =>
      simp only [q] at h
      by_cases c : intOk j = true
      · rw [if_pos c] at h
        cases h
        refine ⟨B, ρ, e, s, R0, rs, _, _, q, fun ρ1 H1 u R1 G1 v1 => ?_⟩
        cases rv_int v1
        obtain ⟨c1, c2⟩ := intOk_iff c
        refine ⟨j, rfl, c1, c2, k ρ1 H1 _ R1 G1 ?_⟩
        have := jr_range (K := K) (ρ := ρ1) (H := H1) (a := 0) (b := j)
        rw [Int.sub_zero] at this
        exact this
      · rw [if_neg c] at h; cases h
    | _ => simp only [q] at h; cases h
theorem wi_rng2 {a b : XE} {R : It → Hp → Prop} (h : tI K (evI C (.rng2 a b)) σ H R) : iRng2 (tCons (tEx K C a) (tCons (tEx K C b) tNil)) σ H R := by
  obtain ⟨B, ρ, e, s, R0, rs, w, s', h, k⟩ := h
  unfold evI at h
  cases q : evE C a e s with
  | none => simp only [q] at h; cases h
  | some r =>
    obtain ⟨p, s1⟩ := r
    cases p with
    | int i =>
      simp only [q] at h
      cases q2 : evE C b e s1 with
      | none => simp only [q2] at h; cases h
      | some r2 =>
        obtain ⟨p2, s2⟩ := r2
        cases p2 with
        | int j =>
          simp only [q2] at h
          by_cases c : (intOk i && intOk j) = true
          · rw [if_pos c] at h
            cases h
            refine ⟨B, ρ, e, s, R0, rs, _, _, q, fun ρ1 H1 u R1 G1 v1 => ⟨B, ρ1, e, s1, R1, rs.mono G1, _, _, q2, fun ρ2 H2 u2 R2 G2 v2 => ?_⟩⟩
            cases rv_int v1
            cases rv_int v2
            obtain ⟨c1, c2⟩ := Bool.and_eq_true_iff.mp c
            obtain ⟨c3, c4⟩ := intOk_iff c1
            obtain ⟨c5, c6⟩ := intOk_iff c2
            exact ⟨i, j, rfl, ⟨c3, c4, c5, c6⟩, k ρ2 H2 _ R2 (G1.trans G2) jr_range⟩
          · rw [if_neg c] at h; cases h
        | _ => simp only [q2] at h; cases h
    | _ => simp only [q] at h; cases h
theorem wi_enum {a : XE} {R : It → Hp → Prop} (h : tI K (evI C (.enum a)) σ H R) : iEnum K (tCons (tEx K C a) tNil) σ H R := by
  obtain ⟨B, ρ, e, s, R0, rs, w, s', h, k⟩ := h
  unfold evI at h
  cases q : evE C a e s with
  | none => simp only [q] at h; cases h
  | some r =>
    obtain ⟨p, s1⟩ := r
    cases p with
    | ref n =>
      simp only [q] at h
      cases z : lstAt s1 n with
      | none => rw [z] at h; cases h
      | some xs =>
        rw [z] at h
        cases h
        refine ⟨B, ρ, e, s, R0, rs, _, _, q, fun ρ1 H1 u R1 G1 v1 => ?_⟩
        obtain ⟨a, vs, rfl, ha, sq, _⟩ := R1.list z v1
        exact ⟨a, vs, rfl, sq, k ρ1 H1 _ R1 G1 (jr_enum ha)⟩
    | _ => simp only [q] at h; cases h
theorem wi_zip {a b : XE} {R : It → Hp → Prop} (h : tI K (evI C (.zip a b)) σ H R) : iZipA K (tCons (tEx K C a) (tCons (tEx K C b) tNil)) σ H R := by
  obtain ⟨B, ρ, e, s, R0, rs, w, s', h, k⟩ := h
  unfold evI at h
  cases q : evE C a e s with
  | none => simp only [q] at h; cases h
  | some r =>
    simp only [q] at h
    cases q2 : evE C b e r.2 with
    | none => simp only [q2] at h; cases h
    | some r2 =>
      simp only [q2] at h
      refine ⟨B, ρ, e, s, R0, rs, _, _, q, fun ρ1 H1 u R1 G1 v1 => ⟨B, ρ1, e, r.2, R1, rs.mono G1, _, _, q2, fun ρ2 H2 u2 R2 G2 v2 => ?_⟩⟩
      have v1' := v1.mono G2 _ _
      generalize r.1 = p1 at h v1'
      generalize r2.1 = p2 at h v2
      split at h
      · rename_i n m
        split at h
        · rename_i xs ys z1 z2
          cases h
          obtain ⟨a, vs, rfl, ha, sq, _⟩ := R2.list z1 v1'
          obtain ⟨b, ws, rfl, hb, sq', _⟩ := R2.list z2 v2
          exact ⟨a, b, vs, ws, rfl, .inl ⟨sq, sq', k ρ2 H2 _ R2 (G1.trans G2) (jr_zip ha hb)⟩⟩
        · cases h
      · rename_i xs ys
        cases h
        obtain ⟨a, vs, rfl, sq, rv⟩ := rv_tupH v1'
        obtain ⟨b, ws, rfl, sq', rv'⟩ := rv_tupH v2
        exact ⟨a, b, vs, ws, rfl, .inr ⟨SqT.of sq, SqT.of sq', k ρ2 H2 _ R2 (G1.trans G2) (jr_zipT sq rv sq' rv')⟩⟩
      · cases h
end
end Ev

set_option linter.all false
set_option autoImplicit false
set_option maxRecDepth 100000
/-! Ev15: targets, statements. -/
namespace Ev
open PySem PySem.Spec PyProof.Rows L2
section
variable (K : PySem.W.Frag)
def gV (tg : TgE) : TG := fun v σ H Q => ∃ B ρ e s p e', Rel K B ρ s H ∧ RS K ρ H e σ ∧ RV K ρ H p v ∧ asn tg p e = some e' ∧
  ∀ σ', RS K ρ H e' σ' → σ'.length = σ.length → (∀ j, j ∉ tg.slots → σ'[j]? = σ[j]?) → Q σ' H
def gVs (l : List TgE) : TGs := fun vs σ H Q => ∃ B ρ e s ps e', Rel K B ρ s H ∧ RS K ρ H e σ ∧ RVs K ρ H ps vs ∧ asns l ps e = some e' ∧
  ∀ σ', RS K ρ H e' σ' → σ'.length = σ.length → (∀ j, j ∉ TgE.slotsL l → σ'[j]? = σ[j]?) → Q σ' H
/-- what an end asks -/
def EndOk (D : Ends) (ρ : List Addr) (H : Hp) : Out → Prop
  | .nx e => ∀ σ, RS K ρ H e σ → D.nx σ H
  | .rt v => ∀ u, RV K ρ H v u → D.rt u H
  | .bk e => ∀ σ, RS K ρ H e σ → D.bk σ H
  | .ct e => ∀ σ, RS K ρ H e σ → D.ct σ H
def tS (f : Env → S → Option (Out × S)) : TS := fun D σ H => ∃ B ρ e s, Rel K B ρ s H ∧ RS K ρ H e σ ∧ ∃ o s', f e s = some (o, s') ∧
  ∀ ρ' H', Rel K B ρ' s' H' → Grow K ρ H ρ' H' → EndOk K D ρ' H' o
end
section
variable {K : PySem.W.Frag} {C : Nat → List PV → S → Option (PV × S)} {σ : L2.St} {H H' : Hp} {ρ ρ' : List Addr} {B : Nat → Option Nat} {s s' : S} {e : Env}
theorem g_nm {i : Nat} {v : V} {Q : L2.St → Hp → Prop} (h : gV K (.nm i) v σ H Q) : gName i v σ H Q := by
  obtain ⟨B, ρ, e, s, p, e', R, rs, hp, h, k⟩ := h
  unfold asn at h
  cases h
  refine k _ (rs.set i hp) (by rw [List.length_set]) fun j hj => ?_
  unfold TgE.slots at hj
  exact List.getElem?_set_ne fun z => hj (by rw [z]; simp)
theorem g_nil {vs : List V} {Q : L2.St → Hp → Prop} (h : gVs K [] vs σ H Q) : gNil vs σ H Q := by
  obtain ⟨B, ρ, e, s, ps, e', R, rs, hp, h, k⟩ := h
  cases ps with
  | nil =>
    unfold asns at h
    cases h
    exact ⟨hp.inv0, k σ rs rfl fun _ _ => rfl⟩
  | cons p ps => unfold asns at h; cases h
theorem g_cons {t : TgE} {ts : List TgE} {vs : List V} {Q : L2.St → Hp → Prop} (h : gVs K (t :: ts) vs σ H Q) : gCons (gV K t) (gVs K ts) vs σ H Q := by
  obtain ⟨B, ρ, e, s, ps, e', R, rs, hp, h, k⟩ := h
  cases ps with
  | nil => unfold asns at h; cases h
  | cons p ps =>
    unfold asns at h
    obtain ⟨w, ws, rfl, h1, h2⟩ := hp.inv
    cases q : asn t p e with
    | none => simp only [q] at h; cases h
    | some e1 =>
      simp only [q] at h
      refine ⟨w, ws, rfl, B, ρ, e, s, p, e1, R, rs, h1, q, fun σ1 rs1 l1 f1 => ⟨B, ρ, e1, s, ps, e', R, rs1, h2, h, fun σ2 rs2 l2 f2 => ?_⟩⟩
      refine k σ2 rs2 (l2.trans l1) fun j hj => ?_
      unfold TgE.slotsL at hj
      rw [f2 j fun z => hj (List.mem_append_right _ z), f1 j fun z => hj (List.mem_append_left _ z)]
theorem g_tp {l : List TgE} {n : Nat} (hn : n = l.length) {v : V} {Q : L2.St → Hp → Prop} (h : gV K (.tp l) v σ H Q) : gTup K n (gVs K l) v σ H Q := by
  subst hn
  obtain ⟨B, ρ, e, s, p, e', R, rs, hp, h, k⟩ := h
  cases p with
  | tup xs =>
    unfold asn at h
    obtain ⟨a, vs, rfl, sq, rv⟩ := rv_tup hp
    have len : ∀ (l : List TgE) (xs : List PV) (e e' : Env), asns l xs e = some e' → xs.length = l.length := by
      intro l
      induction l with
      | nil =>
        intro xs e e' h
        cases xs with
        | nil => rfl
        | cons _ _ => unfold asns at h; cases h
      | cons t ts ih =>
        intro xs e e' h
        cases xs with
        | nil => unfold asns at h; cases h
        | cons x xs =>
          unfold asns at h
          cases q : asn t x e with
          | none => simp only [q] at h; cases h
          | some e1 =>
            simp only [q] at h
            rw [List.length_cons, List.length_cons, ih xs e1 e' h]
    refine ⟨a, vs, rfl, sq, by rw [← rv.length]; exact len l xs e e' h, B, ρ, e, s, xs, e', R, rs, rv, h, fun σ1 rs1 l1 f1 => k σ1 rs1 l1 fun j hj => f1 j ?_⟩
    unfold TgE.slots at hj
    exact hj
  | _ => unfold asn at h; cases h

/-! ### blocks -/
theorem s_nil {D : Ends} (h : tS K (evB C .nil) D σ H) : tNext D σ H := by
  obtain ⟨B, ρ, e, s, R, rs, o, s', h, k⟩ := h
  unfold evB at h
  cases h
  exact k ρ H R Grow.refl σ rs
theorem EndOk.mono {D D' : Ends} {o : Out} (h : EndOk K D ρ H o) (n : ∀ σ H, D.nx σ H → D'.nx σ H) (r : ∀ u H, D.rt u H → D'.rt u H) (b : ∀ σ H, D.bk σ H → D'.bk σ H) (c : ∀ σ H, D.ct σ H → D'.ct σ H) : EndOk K D' ρ H o := by
  cases o with
  | nx e => exact fun σ rs => n _ _ (h σ rs)
  | rt v => exact fun u rv => r _ _ (h u rv)
  | bk e => exact fun σ rs => b _ _ (h σ rs)
  | ct e => exact fun σ rs => c _ _ (h σ rs)
theorem s_cons {D : Ends} {a : XS} {r : XB} (h : tS K (evB C (.cons a r)) D σ H) : tSeq (tS K (evS C a)) (tS K (evB C r)) D σ H := by
  obtain ⟨B, ρ, e, s, R, rs, o, s', h, k⟩ := h
  unfold evB at h
  cases q : evS C a e s with
  | none => simp only [q] at h; cases h
  | some p =>
    obtain ⟨o1, s1⟩ := p
    refine ⟨B, ρ, e, s, R, rs, o1, s1, q, fun ρ1 H1 R1 G1 => ?_⟩
    cases o1 with
    | nx e1 =>
      simp only [q] at h
      exact fun σ1 rs1 => ⟨B, ρ1, e1, s1, R1, rs1, o, s', h, fun ρ2 H2 R2 G2 => k ρ2 H2 R2 (G1.trans G2)⟩
    | rt v =>
      simp only [q] at h
      cases h
      exact k ρ1 H1 R1 G1
    | bk e1 =>
      simp only [q] at h
      cases h
      exact k ρ1 H1 R1 G1
    | ct e1 =>
      simp only [q] at h
      cases h
      exact k ρ1 H1 R1 G1
theorem s_one {D : Ends} {a : XS} (h : tS K (evB C (.cons a .nil)) D σ H) : tS K (evS C a) D σ H := by
  obtain ⟨B, ρ, e, s, R, rs, o, s', h, k⟩ := s_cons h
  refine ⟨B, ρ, e, s, R, rs, o, s', h, fun ρ1 H1 R1 G1 => (k ρ1 H1 R1 G1).mono (fun _ _ z => s_nil z) (fun _ _ z => z) (fun _ _ z => z) fun _ _ z => z⟩

/-! ### small statements -/
theorem s_asg {D : Ends} {tg : TgE} {a : XE} (h : tS K (evS C (.asg tg a)) D σ H) : tAsg (tEx K C a) (gV K tg) D σ H := by
  obtain ⟨B, ρ, e, s, R, rs, o, s', h, k⟩ := h
  unfold evS at h
  refine tE_scp ?_
  cases q : scp (evE C a e) s with
  | none => simp only [q] at h; cases h
  | some r =>
    simp only [q] at h
    obtain ⟨e', q2, e3⟩ := Option.map_eq_some_iff.mp h
    cases e3
    refine ⟨B, ρ, e, s, R, rs, r.1, r.2, q, fun ρ1 H1 u R1 G1 v1 => ?_⟩
    exact ⟨B, ρ1, e, r.2, r.1, e', R1, rs.mono G1, v1, q2, fun σ' rs' _ _ => k ρ1 H1 R1 G1 σ' rs'⟩
theorem s_setIx {D : Ends} {o i a : XE} (h : tS K (evS C (.setIx o i a)) D σ H) : tAsg (tEx K C a) (gSub (tEx K C o) (tEx K C i) (rSet K)) D σ H := by
  obtain ⟨B, ρ, e, s, R, rs, o', s', h, k⟩ := h
  unfold evS at h
  refine tE_scp ?_
  cases q : scp (evE C a e) s with
  | none => simp only [q] at h; cases h
  | some r =>
    simp only [q] at h
    cases q1 : evE C o e r.2 with
    | none => simp only [q1] at h; cases h
    | some r1 =>
      simp only [q1] at h
      cases q2 : evE C i e r1.2 with
      | none => simp only [q2] at h; cases h
      | some r2 =>
        simp only [q2] at h
        obtain ⟨e', q3, e3⟩ := Option.map_eq_some_iff.mp h
        cases e3
        refine ⟨B, ρ, e, s, R, rs, r.1, r.2, q, fun ρ1 H1 u R1 G1 v1 => ⟨B, ρ1, e, r.2, R1, rs.mono G1, r1.1, r1.2, q1, fun ρ2 H2 u2 R2 G2 v2 => ?_⟩⟩
        refine ⟨B, ρ2, e, r1.2, R2, (rs.mono G1).mono G2, r2.1, r2.2, q2, fun ρ3 H3 u3 R3 G3 v3 => ?_⟩
        refine ⟨B, ρ3, r2.2, r1.1, r2.1, r.1, s', R3, v2.mono G3 _ _, v3, v1.mono (G2.trans G3) _ _, q3, fun ρ4 H4 R4 G4 => ?_⟩
        exact k ρ4 H4 R4 ((G1.trans G2).trans (G3.trans G4)) σ (((rs.mono G1).mono (G2.trans G3)).mono G4)
theorem s_ex {D : Ends} {a : XE} (h : tS K (evS C (.ex a)) D σ H) : tDrop (tEx K C a) D σ H := by
  obtain ⟨B, ρ, e, s, R, rs, o, s', h, k⟩ := h
  unfold evS at h
  refine tE_scp ?_
  cases q : scp (evE C a e) s with
  | none => simp only [q] at h; cases h
  | some r =>
    simp only [q] at h
    cases h
    exact ⟨B, ρ, e, s, R, rs, r.1, r.2, q, fun ρ1 H1 u R1 G1 v1 => k ρ1 H1 R1 G1 σ (rs.mono G1)⟩
theorem s_ret {D : Ends} {a : XE} (h : tS K (evS C (.ret a)) D σ H) : tRet (tEx K C a) D σ H := by
  obtain ⟨B, ρ, e, s, R, rs, o, s', h, k⟩ := h
  unfold evS at h
  cases q : evE C a e s with
  | none => simp only [q] at h; cases h
  | some r =>
    simp only [q] at h
    cases h
    exact ⟨B, ρ, e, s, R, rs, r.1, r.2, q, fun ρ1 H1 u R1 G1 v1 => k ρ1 H1 R1 G1 u v1⟩
theorem s_retN {D : Ends} (h : tS K (evS C .retN) D σ H) : tRetN D σ H := by
  obtain ⟨B, ρ, e, s, R, rs, o, s', h, k⟩ := h
  unfold evS at h
  cases h
  exact k ρ H R Grow.refl .non rv_non'
theorem s_brk {D : Ends} (h : tS K (evS C .brk) D σ H) : tBreak D σ H := by
  obtain ⟨B, ρ, e, s, R, rs, o, s', h, k⟩ := h
  unfold evS at h
  cases h
  exact k ρ H R Grow.refl σ rs
theorem s_cnt {D : Ends} (h : tS K (evS C .cnt) D σ H) : tCont D σ H := by
  obtain ⟨B, ρ, e, s, R, rs, o, s', h, k⟩ := h
  unfold evS at h
  cases h
  exact k ρ H R Grow.refl σ rs
theorem s_pass {D : Ends} (h : tS K (evS C .pass) D σ H) : tNext D σ H := by
  obtain ⟨B, ρ, e, s, R, rs, o, s', h, k⟩ := h
  unfold evS at h
  cases h
  exact k ρ H R Grow.refl σ rs
theorem s_never {D : Ends} (h : tS K (evS C .never) D σ H) : tNever D σ H := by
  obtain ⟨B, ρ, e, s, R, rs, o, s', h, k⟩ := h
  unfold evS at h
  cases h
theorem tT_scp {f : Env → S → Option (PV × S)} {Q : Bool → Hp → Prop} (h : tT K (fun e s => scp (f e) s) σ H Q) : tT K f σ H Q := by
  obtain ⟨B, ρ, e, s, R, rs, v, s', h, k⟩ := h
  unfold scp at h
  cases q : f e ⟨s.g, s.size⟩ with
  | none => simp only [q] at h; cases h
  | some r =>
    simp only [q] at h
    have eq := Option.some.inj h
    have ev : r.1 = .bl v := by
      unfold tidy at eq
      split at eq
      · split at eq
        · exact (Prod.mk.inj eq).1
        · split at eq
          · split at eq
            · split at eq
              · exact absurd (Prod.mk.inj eq).1 (by simp)
              · exact (Prod.mk.inj eq).1
            · split at eq
              · exact absurd (Prod.mk.inj eq).1 (by simp)
              · exact (Prod.mk.inj eq).1
            · exact (Prod.mk.inj eq).1
          · exact (Prod.mk.inj eq).1
      · exact (Prod.mk.inj eq).1
    refine ⟨inB B s, ρ, e, ⟨s.g, s.size⟩, R.enter, rs, v, r.2, by rw [q, ← ev], fun ρ' H' R' G => ?_⟩
    obtain ⟨ρ2, R2, G2, _⟩ := tidy_ok R R' G (v := r.1) (u := .bl v) (by rw [ev]; exact rv_bl' v)
    rw [eq] at R2
    exact k ρ2 H' R2 G2
theorem s_if {D : Ends} {t : XE} {a b : XB} (h : tS K (evS C (.iff t a b)) D σ H) : tIfS (tTx K C t) (tS K (evB C a)) (tS K (evB C b)) D σ H := by
  obtain ⟨B, ρ, e, s, R, rs, o, s', h, k⟩ := h
  unfold evS at h
  refine tT_scp ?_
  cases q : scp (evE C t e) s with
  | none => simp only [q] at h; cases h
  | some r =>
    obtain ⟨p, s1⟩ := r
    cases p with
    | bl d =>
      refine ⟨B, ρ, e, s, R, rs, d, s1, q, fun ρ1 H1 R1 G1 => ?_⟩
      cases d with
      | true =>
        simp only [q] at h
        rw [if_pos rfl]
        exact ⟨B, ρ1, e, s1, R1, rs.mono G1, o, s', h, fun ρ2 H2 R2 G2 => k ρ2 H2 R2 (G1.trans G2)⟩
      | false =>
        simp only [q] at h
        rw [if_neg Bool.false_ne_true]
        exact ⟨B, ρ1, e, s1, R1, rs.mono G1, o, s', h, fun ρ2 H2 R2 G2 => k ρ2 H2 R2 (G1.trans G2)⟩
    | _ => simp only [q] at h; cases h
end
end Ev

set_option linter.all false
set_option autoImplicit false
set_option maxRecDepth 100000
/-! Ev16: loops, comprehensions. -/
namespace Ev
open PySem PySem.Spec PyProof.Rows L2
section
variable {K : PySem.W.Frag} {C : Nat → List PV → S → Option (PV × S)} {σ : L2.St} {H H1 : Hp} {ρ ρ1 : List Addr} {B : Nat → Option Nat} {s : S} {e : Env}
theorem Grow.len (g : Grow K ρ H ρ1 H1) : ρ.length ≤ ρ1.length := by
  rcases Nat.lt_or_ge ρ1.length ρ.length with z | z
  · have q := g.pre ρ1.length _ (List.getElem?_eq_getElem z)
    have := lt_of_get q
    omega
  · exact z
/-- behind a turn -/
theorem tidyE_ok {s0 s1 : S} {e1 : Env} {σ1 : L2.St} (R0 : Rel K B ρ s0 H) (R1 : Rel K (inB B s0) ρ1 s1 H1) (G : Grow K ρ H ρ1 H1) (rs : RS K ρ1 H1 e1 σ1) :
    ∃ ρ2, Rel K B ρ2 (tidyE s0.size s0.lo e1 s1) H1 ∧ Grow K ρ H ρ2 H1 ∧ RS K ρ2 H1 e1 σ1 := by
  have hl : s0.lo ≤ s0.size := R0.lo
  have el : ρ.length = s0.size := R0.len
  unfold tidyE
  by_cases c : s0.size ≤ s1.lo
  · rw [if_pos c]
    by_cases d : envBlw s0.size e1 = true
    · rw [if_pos d]
      refine ⟨_, R1.cut hl c, ?_, rs.cut d⟩
      have := G.drop G.len
      rw [el] at this
      exact this
    · rw [if_neg d]
      exact ⟨ρ1, R1.leaveLo (Nat.le_trans hl c), G, rs⟩
  · rw [if_neg c]
    exact ⟨ρ1, R1.leave, G, rs⟩
theorem s_wh {D : Ends} {t : XE} {b : XB} {kills : List Nat} (h : tS K (evS C (.wh t b kills)) D σ H) : tWhile (tTx K C t) (tS K (evB C b)) D σ H := by
  obtain ⟨B, ρ, e, s, R, rs, o, s', h, k⟩ := h
  unfold evS at h
  refine ⟨fun m σ' H' => ∃ ρ' e' t', Rel K B ρ' t' H' ∧ Grow K ρ H ρ' H' ∧ RS K ρ' H' e' σ' ∧ whL (fun σ s => scp (evE C t σ) s) (whTurn kills (fun σ s => evB C b σ s)) m e' t' = some (o, s'),
    ⟨fuel, ρ, e, s, R, Grow.refl, rs, h⟩, ?_⟩
  intro m σ1 H1 w
  obtain ⟨ρ1, e1, t1, R1, G1, rs1, h1⟩ := w
  cases m with
  | zero => unfold whL at h1; cases h1
  | succ f =>
    unfold whL at h1
    refine tT_scp ?_
    cases q : scp (evE C t e1) t1 with
    | none => simp only [q] at h1; cases h1
    | some r =>
      obtain ⟨p, t2⟩ := r
      cases p with
      | bl d =>
        refine ⟨B, ρ1, e1, t1, R1, rs1, d, t2, q, fun ρ2 H2 R2 G2 => ?_⟩
        cases d with
        | false =>
          simp only [q] at h1
          cases h1
          rw [if_neg Bool.false_ne_true]
          exact k ρ2 H2 R2 (G1.trans G2) σ1 (rs1.mono G2)
        | true =>
          simp only [q] at h1
          rw [if_pos rfl]
          refine ⟨_, fun σ' H' n => ⟨f, Nat.lt_succ_self f, n⟩, ?_⟩
          cases qb : evB C b e1 ⟨t2.g, t2.size⟩ with
          | none => simp only [whTurn, qb, done] at h1; cases h1
          | some r3 =>
            obtain ⟨o3, t3⟩ := r3
            refine ⟨inB B t2, ρ2, e1, ⟨t2.g, t2.size⟩, R2.enter, rs1.mono G2, o3, t3, qb, fun ρ3 H3 R3 G3 => ?_⟩
            have G13 := (G1.trans G2).trans G3
            cases o3 with
            | nx e3 =>
              simp only [whTurn, qb, done] at h1
              intro σ3 rs3
              obtain ⟨ρ4, R4, G4, rs4⟩ := tidyE_ok R2 R3 G3 (rs3.wipe kills)
              exact ⟨ρ4, _, _, R4, (G1.trans G2).trans G4, rs4, h1⟩
            | ct e3 =>
              simp only [whTurn, qb, done] at h1
              intro σ3 rs3
              obtain ⟨ρ4, R4, G4, rs4⟩ := tidyE_ok R2 R3 G3 (rs3.wipe kills)
              exact ⟨ρ4, _, _, R4, (G1.trans G2).trans G4, rs4, h1⟩
            | bk e3 =>
              simp only [whTurn, qb, done] at h1
              cases h1
              exact fun σ3 rs3 => k ρ3 H3 R3.leave G13 σ3 rs3
            | rt v =>
              simp only [whTurn, qb, done] at h1
              cases h1
              exact fun u rv => k ρ3 H3 R3.leave G13 u rv
      | _ => simp only [q] at h1; cases h1
theorem s_for {D : Ends} {tg : TgE} {it : XI} {b : XB} {kills : List Nat} (h : tS K (evS C (.for tg it b kills)) D σ H) : tFor (tI K (evI C it)) (gV K tg) (tS K (evB C b)) D σ H := by
  obtain ⟨B, ρ, e, s, R, rs, o, s', h, k⟩ := h
  unfold evS at h
  cases q : evI C it e ⟨s.g, s.size⟩ with
  | none => simp only [q] at h; cases h
  | some r =>
    obtain ⟨iter, sI⟩ := r
    simp only [q] at h
    refine ⟨inB B s, ρ, e, ⟨s.g, s.size⟩, R.enter, rs, iter, sI, q, fun ρI HI J RI GI jr => ?_⟩
    cases ql : forL (fun s i => iter.get s i) (forTurn tg kills (fun σ s => evB C b σ s)) fuel 0 e sI with
    | none => simp only [ql] at h; cases h
    | some ol =>
      obtain ⟨o2, s2⟩ := ol
      simp only [ql] at h
      -- the end of the loop
      have fin : ∀ ρ' H', Rel K (inB B s) ρ' s2 H' → Grow K ρ H ρ' H' → EndOk K D ρ' H' o2 := by
        intro ρ' H' R' G'
        cases o2 with
        | nx e2 =>
          simp only at h
          cases h
          intro σ2 rs2
          obtain ⟨ρ3, R3, G3, rs3⟩ := tidyE_ok R R' G' rs2
          exact k ρ3 H' R3 G3 σ2 rs3
        | rt v =>
          simp only at h
          cases h
          exact k ρ' H' R'.leave G'
        | bk e2 =>
          simp only at h
          cases h
          exact k ρ' H' R'.leave G'
        | ct e2 =>
          simp only at h
          cases h
          exact k ρ' H' R'.leave G'
      refine ⟨fun i m σ' H' => ∃ ρ' e' t', Rel K (inB B s) ρ' t' H' ∧ Grow K ρI HI ρ' H' ∧ RS K ρ' H' e' σ' ∧ forL (fun s i => iter.get s i) (forTurn tg kills (fun σ s => evB C b σ s)) m i e' t' = some (o2, s2), ⟨fuel, ρI, e, sI, RI, Grow.refl, rs.mono GI, ql⟩, ?_⟩
      intro i m σ1 H1 w
      obtain ⟨ρ1, e1, t1, R1, G1, rs1, h1⟩ := w
      cases m with
      | zero => unfold forL at h1; cases h1
      | succ f =>
        unfold forL at h1
        cases qg : iter.get t1 i with
        | none => simp only [qg] at h1; cases h1
        | some ov =>
          cases ov with
          | none =>
            simp only [qg] at h1
            cases h1
            exact .inl ⟨jr.stop i _ ρ1 H1 _ G1.toGr R1 qg, fin ρ1 H1 R1 (GI.trans G1) σ1 rs1⟩
          | some v =>
            simp only [qg] at h1
            obtain ⟨g1, g2⟩ := jr.go i _ ρ1 H1 t1 v G1.toGr R1 qg
            refine .inr ⟨g1, _, fun σ' H' n => ⟨f, Nat.lt_succ_self f, n⟩, fun x H2 hy => ?_⟩
            obtain ⟨R2, G2, rv2⟩ := g2 x H2 hy
            cases qa : asn tg v e1 with
            | none => simp only [qa, forTurn] at h1; cases h1
            | some e2 =>
              simp only [qa, forTurn] at h1
              refine ⟨_, ρ1, e1, t1, v, e2, R2, rs1.mono G2, rv2, qa, fun σ2 rs2 _ _ => ?_⟩
              cases qb : evB C b e2 ⟨t1.g, t1.size⟩ with
              | none => simp only [forTurn, qa, qb, done] at h1; cases h1
              | some r3 =>
                obtain ⟨o3, t3⟩ := r3
                refine ⟨inB (inB B s) t1, ρ1, e2, ⟨t1.g, t1.size⟩, R2.enter, rs2, o3, t3, qb, fun ρ3 H3 R3 G3 => ?_⟩
                have G12 := G1.trans G2
                cases o3 with
                | nx e3 =>
                  simp only [forTurn, qa, qb, done] at h1
                  intro σ3 rs3
                  obtain ⟨ρ4, R4, G4, rs4⟩ := tidyE_ok R2 R3 G3 (rs3.wipe kills)
                  exact ⟨ρ4, _, _, R4, G12.trans G4, rs4, h1⟩
                | ct e3 =>
                  simp only [forTurn, qa, qb, done] at h1
                  intro σ3 rs3
                  obtain ⟨ρ4, R4, G4, rs4⟩ := tidyE_ok R2 R3 G3 (rs3.wipe kills)
                  exact ⟨ρ4, _, _, R4, G12.trans G4, rs4, h1⟩
                | bk e3 =>
                  simp only [forTurn, qa, qb, done] at h1
                  cases h1
                  exact fun σ3 rs3 => fin ρ3 H3 R3.leave (GI.trans (G12.trans G3)) σ3 rs3
                | rt v =>
                  simp only [forTurn, qa, qb, done] at h1
                  cases h1
                  exact fun u rv => fin ρ3 H3 R3.leave (GI.trans (G12.trans G3)) u rv
end
end Ev

set_option linter.all false
set_option autoImplicit false
set_option maxRecDepth 100000
/-! Ev17: comprehensions. -/
namespace Ev
open PySem PySem.Spec PyProof.Rows L2
section
variable {K : PySem.W.Frag} {C : Nat → List PV → S → Option (PV × S)} {σ : L2.St} {H H1 H2 : Hp} {ρ ρ1 : List Addr} {B : Nat → Option Nat} {s : S} {e : Env}
theorem ite_f {P Q : Prop} (q : Q) : if false = true then P else Q := by rw [if_neg Bool.false_ne_true]; exact q
theorem ite_t {P Q : Prop} (q : P) : if true = true then P else Q := by rw [if_pos rfl]; exact q
theorem yes_t {σ : L2.St} {H : Hp} {P Q : Hp → Prop} (h : P H) : tYes σ H (fun b H3 => if b = true then P H3 else Q H3) := by show (if true = true then P H else Q H); rw [if_pos rfl]; exact h
theorem RS.wipe2 (r : RS K ρ H e σ) (is : List Nat) : RS K ρ H (wipeE e is) (L2.wipe σ is) := by
  induction is with
  | nil => exact r
  | cons i is ih =>
    refine ⟨by unfold wipeE L2.wipe; rw [List.length_set, List.length_set]; exact ih.len, fun j p h => ?_⟩
    unfold wipeE at h
    unfold L2.wipe
    rw [List.getElem?_set] at h ⊢
    by_cases z : i = j
    · subst z
      rw [if_pos rfl] at h
      split at h <;> cases h
    · rw [if_neg z] at h ⊢
      exact ih.val j p h
/-- slots outside vs are the same: the same when wiped -/
theorem wipe_eq {σ2 σ0 : L2.St} {is : List Nat} (hl : σ2.length = σ0.length) (h : ∀ j, j ∉ is → σ2[j]? = σ0[j]?) : L2.wipe σ2 is = L2.wipe σ0 is := by
  apply List.ext_getElem?
  intro j
  have key : ∀ (τ : L2.St) (is : List Nat), (L2.wipe τ is)[j]? = if j ∈ is then (if j < τ.length then some none else none) else τ[j]? := by
    intro τ is
    induction is with
    | nil => simp [L2.wipe]
    | cons i is ih =>
      unfold L2.wipe
      rw [List.getElem?_set, L2.wipe_length, ih]
      by_cases z : i = j
      · subst z; simp
      · have z' : ¬ j = i := fun q => z q.symm
        rw [if_neg z]
        simp only [List.mem_cons, z', false_or]
  rw [key, key, hl]
  by_cases z : j ∈ is
  · rw [if_pos z, if_pos z]
  · rw [if_neg z, if_neg z, h j z]
theorem wipe_idem {σ0 : L2.St} (is : List Nat) : L2.wipe (L2.wipe σ0 is) is = L2.wipe σ0 is := by
  refine wipe_eq (L2.wipe_length _ _) fun j hj => ?_
  induction is with
  | nil => rfl
  | cons i is ih =>
    unfold L2.wipe
    rw [List.getElem?_set_ne fun z => hj (by rw [z]; exact List.mem_cons_self)]
    exact ih fun z => hj (List.mem_cons_of_mem _ z)
theorem Rel.keepG (R : Rel K B ρ s H) (h : ∀ (n : Nat) (a : Addr), ρ[n]? = some a → H1 a = H a) (g : Gr K ρ H ρ H1) : Rel K B ρ s H1 :=
  ⟨R.len, R.nd, R.lo, fun n o a h1 h2 => (R.ob n o a h1 h2).mo g (h n a h2), R.cl⟩
theorem upd_self {a : Addr} {o : HO} (h : H a = some o) : upd H a o = H := by
  funext b
  by_cases e : b = a
  · rw [e, upd_same, h]
  · exact upd_ne e
/-- a hidden list changes -/
theorem Grow.hid (g : Grow K ρ H ρ1 H1) {D : Addr} {xs : List V} {o : HO} (h0 : H D = none) (h : H1 D = some (.lst xs)) : Grow K ρ H ρ1 (upd H1 D o) := by
  have gr : Gr K ρ1 H1 ρ1 (upd H1 D o) := Gr.at (a := D) (fun b hb => upd_ne hb) (by rw [h]; exact NoTup.lst)
  refine ⟨⟨g.pre, fun a vs q => gr.tup a vs (g.tup a vs q)⟩, g.fresh, fun b o' h1 h2 => ?_⟩
  have ne : b ≠ D := fun z => by rw [z, h0] at h2; cases h2
  rw [upd_ne ne]
  exact g.keep b o' h1 h2
theorem Rel.hid (R : Rel K B ρ s H) {D : Addr} {xs : List V} {o : HO} (hD : D ∉ ρ) (h : H D = some (.lst xs)) : Rel K B ρ s (upd H D o) :=
  R.keepG (fun n a ha => upd_ne fun z => hD (z ▸ List.mem_of_getElem? ha)) (Gr.at (a := D) (fun b hb => upd_ne hb) (by rw [h]; exact NoTup.lst))
theorem RVs.hid {xs : List PV} {vs : List V} (r : RVs K ρ H xs vs) {D : Addr} {ys : List V} {o : HO} (h : H D = some (.lst ys)) : RVs K ρ (upd H D o) xs vs :=
  r.mo (Gr.at (a := D) (fun b hb => upd_ne hb) (by rw [h]; exact NoTup.lst)) _ _
theorem lcL_len {get : S → Nat → Option (Option PV)} {turn : PV → S → Option (List PV × S)} : ∀ (m i : Nat) (acc : List PV) (s : S) (o : List PV × S), lcL get turn m i acc s = some o → acc.length ≤ o.1.length
  | 0, _, _, _, _, h => by unfold lcL at h; cases h
  | m + 1, i, acc, s, o, h => by
    unfold lcL at h
    cases q : get s i with
    | none => simp only [q] at h; cases h
    | some ov =>
      cases ov with
      | none => simp only [q] at h; cases h; exact Nat.le_refl _
      | some v =>
        simp only [q] at h
        cases q2 : turn v s with
        | none => simp only [q2] at h; cases h
        | some r =>
          simp only [q2] at h
          have := lcL_len m _ _ _ _ h
          rw [List.length_append] at this
          omega
/-- the state in a comprehension: the new list is hidden -/
structure Hid (K : PySem.W.Frag) (B : Nat → Option Nat) (ρI : List Addr) (HI : Hp) (D : Addr) (ρ' : List Addr) (t : S) (H' : Hp) (acc : List PV) (av : List V) : Prop where
  rel : Rel K B ρ' t H'
  grow : Grow K ρI HI ρ' H'
  hD : H' D = some (.lst av)
  out : D ∉ ρ'
  rv : RVs K ρ' H' acc av
section
variable {ρI ρ' ρ2 : List Addr} {HI H' : Hp} {D : Addr} {t t' : S} {acc : List PV} {av : List V}
theorem Hid.step (h : Hid K B ρI HI D ρ' t H' acc av) (R : Rel K B ρ2 t' H2) (G : Grow K ρ' H' ρ2 H2) : Hid K B ρI HI D ρ2 t' H2 acc av := by
  have hD := G.keep D _ h.out h.hD
  refine ⟨R, h.grow.trans G, hD, fun z => ?_, h.rv.mono G _ _⟩
  rcases G.fresh D z with q | q
  · exact h.out q
  · rw [h.hD] at q; cases q
theorem Hid.add (h : Hid K B ρI HI D ρ' t H' acc av) (h0 : HI D = none) {p : PV} {v : V} (hv : RV K ρ' H' p v) : Hid K B ρI HI D ρ' t (upd H' D (.lst (av ++ [v]))) (acc ++ [p]) (av ++ [v]) :=
  ⟨h.rel.hid h.out h.hD, h.grow.hid h0 h.hD, upd_same, h.out, (h.rv.append (.cons hv .nil)).hid h.hD⟩
theorem Hid.start (R : Rel K B ρI t HI) (h0 : HI D = none) : Hid K B ρI HI D ρI t (upd HI D (.lst [])) [] [] :=
  ⟨R.keepG (fun n a ha => upd_ne fun z => R.fresh h0 (z ▸ List.mem_of_getElem? ha)) (Gr.at (a := D) (fun b hb => upd_ne hb) (noTup h0)), Grow.new0 h0, upd_same, R.fresh h0, .nil⟩
theorem Hid.fin (h : Hid K B ρI HI D ρ' t H' acc av) (h0 : HI D = none) : Rel K B (ρ' ++ [D]) (t.push (.lst acc)) H' ∧ Grow K ρI HI (ρ' ++ [D]) H' ∧ RV K (ρ' ++ [D]) H' (.ref t.size) (.ref D) := by
  have e : upd H' D (.lst av) = H' := upd_self h.hD
  have P := h.rel.push (o := .lst acc) h.out (by rw [h.hD]; exact NoTup.lst) (ho := .lst av) (by
    rw [e]
    exact ⟨av, h.hD, h.rv.mo (Gr.more Gr.refl) _ _⟩)
  rw [e] at P
  exact ⟨P, h.grow.one (.inr h0), Rel.end h.rel⟩
end
/-- the tests of a clause -/
def tTs (K : PySem.W.Frag) (f : Env → S → Option (Bool × S)) : TT := fun σ H Q => ∃ B ρ e s, Rel K B ρ s H ∧ RS K ρ H e σ ∧ ∃ b s', f e s = some (b, s') ∧
  ∀ ρ' H', Rel K B ρ' s' H' → Grow K ρ H ρ' H' → Q b H'
theorem x_none {Q : Bool → Hp → Prop} (h : tTs K (evT C .none) σ H Q) : tYes σ H Q := by
  obtain ⟨B, ρ, e, s, R, rs, v, s', h, k⟩ := h
  unfold evT at h
  cases h
  exact k ρ H R Grow.refl
theorem x_some {a : XE} {Q : Bool → Hp → Prop} (h : tTs K (evT C (.some a)) σ H Q) : tTx K C a σ H Q := by
  refine tT_scp ?_
  obtain ⟨B, ρ, e, s, R, rs, v, s', h, k⟩ := h
  unfold evT at h
  cases q : scp (evE C a e) s with
  | none => simp only [q] at h; cases h
  | some r =>
    obtain ⟨p, s1⟩ := r
    cases p with
    | bl d =>
      simp only [q] at h
      cases h
      exact ⟨B, ρ, e, s, R, rs, _, _, q, k⟩
    | _ => simp only [q] at h; cases h
theorem w_lc {a : XE} {tg : TgE} {it : XI} {ifs : XO} {Q : VK} (h : tEx K C (.lc a tg it ifs) σ H Q) : tLc (tI K (evI C it)) (gV K tg) (tTs K (evT C ifs)) (tEx K C a) tg.slots σ H Q := by
  obtain ⟨B, ρ, e, s, R, rs, w, s', h, k⟩ := h
  unfold evE at h
  cases q : evI C it e s with
  | none => simp only [q] at h; cases h
  | some r =>
    obtain ⟨iter, sI⟩ := r
    simp only [q] at h
    refine ⟨B, ρ, e, s, R, rs, iter, sI, q, fun ρI HI J RI GI jr D hD => ?_⟩
    cases ql : lcL (fun s i => iter.get s i) (lcTurn tg (wipeE e tg.slots) (fun σ s => evT C ifs σ s) (fun σ s => evE C a σ s)) fuel 0 [] sI with
    | none => simp only [ql] at h; cases h
    | some ol =>
      simp only [ql] at h
      by_cases c : ol.1.length ≤ line
      · rw [if_pos c] at h
        cases h
        have rsI := rs.mono GI
        refine ⟨fun i m H' => ∃ ρ' t acc av, Hid K B ρI HI D ρ' t H' acc av ∧ lcL (fun s i => iter.get s i) (lcTurn tg (wipeE e tg.slots) (fun σ s => evT C ifs σ s) (fun σ s => evE C a σ s)) m i acc t = some ol,
          ⟨fuel, ρI, sI, [], [], Hid.start RI hD, ql⟩, ?_⟩
        intro i m H1 wh
        obtain ⟨ρ1, t1, acc, av, hd, h1⟩ := wh
        cases m with
        | zero => unfold lcL at h1; cases h1
        | succ f =>
          unfold lcL at h1
          cases qg : iter.get t1 i with
          | none => simp only [qg] at h1; cases h1
          | some ov =>
            cases ov with
            | none =>
              simp only [qg] at h1
              cases h1
              obtain ⟨f1, f2, f3⟩ := hd.fin hD
              exact .inl ⟨jr.stop i _ ρ1 H1 _ hd.grow.toGr hd.rel qg, k _ _ _ f1 (GI.trans f2) f3⟩
            | some v =>
              simp only [qg] at h1
              obtain ⟨g1, g2⟩ := jr.go i _ ρ1 H1 t1 v hd.grow.toGr hd.rel qg
              refine .inr ⟨g1, _, fun H' n => ⟨f, Nat.lt_succ_self f, n⟩, fun x H2 hy => ?_⟩
              obtain ⟨R2, G2, rv2⟩ := g2 x H2 hy
              have hd2 := hd.step R2 G2
              cases qt : lcTurn tg (wipeE e tg.slots) (fun σ s => evT C ifs σ s) (fun σ s => evE C a σ s) v t1 with
              | none => simp only [qt] at h1; cases h1
              | some rt =>
                simp only [qt] at h1
                unfold lcTurn at qt
                cases qa : asn tg v (wipeE e tg.slots) with
                | none => simp only [qa] at qt; cases qt
                | some e2 =>
                  simp only [qa] at qt
                  refine ⟨_, ρ1, wipeE e tg.slots, t1, v, e2, R2, ((rsI.mono hd2.grow).wipe2 tg.slots), rv2, qa, fun σ2 rs2 l2 f2 => ⟨?_, ?_⟩⟩
                  · rw [wipe_eq l2 f2, wipe_idem]
                  · cases qT : evT C ifs e2 t1 with
                    | none => simp only [qT] at qt; cases qt
                    | some rT =>
                      obtain ⟨b, t3⟩ := rT
                      simp only [qT] at qt
                      refine ⟨_, ρ1, e2, t1, R2, rs2, b, t3, qT, fun ρ3 H3 R3 G3 => ?_⟩
                      have hd3 := hd2.step R3 G3
                      cases b with
                      | false =>
                        refine ite_f ?_
                        rw [if_neg Bool.false_ne_true] at qt
                        cases qt
                        rw [List.append_nil] at h1
                        exact ⟨ρ3, _, acc, av, hd3, h1⟩
                      | true =>
                        refine ite_t ?_
                        rw [if_pos rfl] at qt
                        refine tE_scp ?_
                        cases qe : scp (evE C a e2) t3 with
                        | none => simp only [qe] at qt; cases qt
                        | some re =>
                          simp only [qe] at qt
                          cases qt
                          refine ⟨_, ρ3, e2, t3, R3, rs2.mono G3, re.1, re.2, qe, fun ρ4 H4 u R4 G4 rv4 => ?_⟩
                          have hd4 := hd3.step R4 G4
                          have ll := lcL_len _ _ _ _ _ h1
                          rw [List.length_append] at ll
                          refine ⟨av, hd4.hD, ?_, ρ4, re.2, acc ++ [re.1], av ++ [u], hd4.add hD rv4, h1⟩
                          rw [← hd4.rv.length]
                          have : (1 : Nat) = [re.1].length := rfl
                          have c2 : ol.1.length ≤ line := c
                          have e3 : line = sizeLine := rfl
                          simp only [List.length_cons, List.length_nil] at ll
                          omega
      · rw [if_neg c] at h; cases h
theorem wipe_append (σ : L2.St) : ∀ a b : List Nat, L2.wipe σ (a ++ b) = L2.wipe (L2.wipe σ b) a
  | [], _ => rfl
  | x :: a, b => by
    show (L2.wipe σ (a ++ b)).set x none = (L2.wipe (L2.wipe σ b) a).set x none
    rw [wipe_append σ a b]
theorem Gr.trans {ρ2 : List Addr} (a : Gr K ρ H ρ1 H1) (b : Gr K ρ1 H1 ρ2 H2) : Gr K ρ H ρ2 H2 :=
  ⟨fun n x h => b.pre n x (a.pre n x h), fun x vs h => b.tup x vs (a.tup x vs h)⟩
theorem w_lc2 {a : XE} {tg tg2 : TgE} {it it2 : XI} {Q : VK} (h : tEx K C (.lc2 a tg it tg2 it2) σ H Q) :
    tLc2 (tI K (evI C it)) (gV K tg) tYes (tI K (evI C it2)) (gV K tg2) tYes (tEx K C a) (tg.slots ++ tg2.slots) tg2.slots σ H Q := by
  obtain ⟨B, ρ, e, s, R, rs, w, s', h, k⟩ := h
  unfold evE at h
  cases q : evI C it e s with
  | none => simp only [q] at h; cases h
  | some r =>
    obtain ⟨iter, sI⟩ := r
    simp only [q] at h
    refine ⟨B, ρ, e, s, R, rs, iter, sI, q, fun ρI HI J RI GI jr D hD => ?_⟩
    cases ql : lcL (fun s i => iter.get s i) (lcTurn2 tg tg2 (wipeE (wipeE e tg2.slots) tg.slots) (fun σ s => evI C it2 σ s) (fun σ s => evE C a σ s)) fuel 0 [] sI with
    | none => simp only [ql] at h; cases h
    | some ol =>
      simp only [ql] at h
      by_cases c : ol.1.length ≤ line
      · rw [if_pos c] at h
        cases h
        have rsI := rs.mono GI
        refine ⟨fun i m H' => ∃ ρ' t acc av, Hid K B ρI HI D ρ' t H' acc av ∧ lcL (fun s i => iter.get s i) (lcTurn2 tg tg2 (wipeE (wipeE e tg2.slots) tg.slots) (fun σ s => evI C it2 σ s) (fun σ s => evE C a σ s)) m i acc t = some ol,
          ⟨fuel, ρI, sI, [], [], Hid.start RI hD, ql⟩, ?_⟩
        intro i m H1 wh
        obtain ⟨ρ1, t1, acc, av, hd, h1⟩ := wh
        cases m with
        | zero => unfold lcL at h1; cases h1
        | succ f =>
          unfold lcL at h1
          cases qg : iter.get t1 i with
          | none => simp only [qg] at h1; cases h1
          | some ov =>
            cases ov with
            | none =>
              simp only [qg] at h1
              cases h1
              obtain ⟨f1, f2, f3⟩ := hd.fin hD
              exact .inl ⟨jr.stop i _ ρ1 H1 _ hd.grow.toGr hd.rel qg, k _ _ _ f1 (GI.trans f2) f3⟩
            | some v =>
              simp only [qg] at h1
              obtain ⟨g1, g2⟩ := jr.go i _ ρ1 H1 t1 v hd.grow.toGr hd.rel qg
              refine .inr ⟨g1, _, fun H' n => ⟨f, Nat.lt_succ_self f, n⟩, fun x H2 hy => ?_⟩
              obtain ⟨R2, G2, rv2⟩ := g2 x H2 hy
              have hd2 := hd.step R2 G2
              cases qt : lcTurn2 tg tg2 (wipeE (wipeE e tg2.slots) tg.slots) (fun σ s => evI C it2 σ s) (fun σ s => evE C a σ s) v t1 with
              | none => simp only [qt] at h1; cases h1
              | some rt =>
                simp only [qt] at h1
                unfold lcTurn2 at qt
                cases qa : asn tg v (wipeE (wipeE e tg2.slots) tg.slots) with
                | none => simp only [qa] at qt; cases qt
                | some e2 =>
                  simp only [qa] at qt
                  have rsw : RS K ρ1 H2 (wipeE (wipeE e tg2.slots) tg.slots) (L2.wipe σ (tg.slots ++ tg2.slots)) := by
                    rw [wipe_append]
                    exact ((rsI.mono hd2.grow).wipe2 tg2.slots).wipe2 tg.slots
                  refine ⟨_, ρ1, _, t1, v, e2, R2, rsw, rv2, qa, fun σ2 rs2 l2 f2 => ⟨?_, ?_⟩⟩
                  · rw [wipe_eq l2 fun j hj => f2 j fun z => hj (List.mem_append_left _ z), wipe_idem]
                  · cases qI : evI C it2 e2 t1 with
                    | none => simp only [qI] at qt; cases qt
                    | some rI =>
                      obtain ⟨iter2, t3⟩ := rI
                      simp only [qI] at qt
                      refine yes_t ?_
                      refine ⟨_, ρ1, e2, t1, R2, rs2, iter2, t3, qI, fun ρ3 H3 J1 R3 G3 jr1 => ?_⟩
                      have hd3 := hd2.step R3 G3
                      refine ⟨fun j m2 H' => ∃ ρ' t acc2 av2, Hid K B ρI HI D ρ' t H' (acc ++ acc2) av2 ∧ Gr K ρ3 H3 ρ' H' ∧ lcL (fun s i => iter2.get s i) (lcTurn tg2 (wipeE e2 tg2.slots) yes (fun σ s => evE C a σ s)) m2 j acc2 t = some rt,
                        ⟨fuel, ρ3, t3, [], av, by rw [List.append_nil]; exact hd3, Gr.refl, qt⟩, ?_⟩
                      intro j m2 H4 wh2
                      obtain ⟨ρ4, t4, acc2, av2, hd4, gr4, h4⟩ := wh2
                      cases m2 with
                      | zero => unfold lcL at h4; cases h4
                      | succ f2' =>
                        unfold lcL at h4
                        cases qg2 : iter2.get t4 j with
                        | none => simp only [qg2] at h4; cases h4
                        | some ov2 =>
                          cases ov2 with
                          | none =>
                            simp only [qg2] at h4
                            cases h4
                            exact .inl ⟨jr1.stop j _ ρ4 H4 _ gr4 hd4.rel qg2, ρ4, _, _, av2, hd4, h1⟩
                          | some v2 =>
                            simp only [qg2] at h4
                            obtain ⟨g3, g4⟩ := jr1.go j _ ρ4 H4 t4 v2 gr4 hd4.rel qg2
                            refine .inr ⟨g3, _, fun H' n => ⟨f2', Nat.lt_succ_self f2', n⟩, fun x2 H5 hy2 => ?_⟩
                            obtain ⟨R5, G5, rv5⟩ := g4 x2 H5 hy2
                            have hd5 := hd4.step R5 G5
                            cases qt2 : lcTurn tg2 (wipeE e2 tg2.slots) yes (fun σ s => evE C a σ s) v2 t4 with
                            | none => simp only [qt2] at h4; cases h4
                            | some rt2 =>
                              simp only [qt2] at h4
                              unfold lcTurn yes at qt2
                              cases qa2 : asn tg2 v2 (wipeE e2 tg2.slots) with
                              | none => simp only [qa2] at qt2; cases qt2
                              | some e3 =>
                                simp only [qa2] at qt2
                                have rsw2 : RS K ρ4 H5 (wipeE e2 tg2.slots) (L2.wipe σ2 tg2.slots) :=
                                  RS.wipe2 ⟨rs2.len, fun i p hp => by
                                    obtain ⟨y, y1, y2⟩ := rs2.val i p hp
                                    exact ⟨y, y1, ((y2.mono G3 _ _).mo gr4 _ _).mono G5 _ _⟩⟩ _
                                refine ⟨_, ρ4, _, t4, v2, e3, R5, rsw2, rv5, qa2, fun σ3 rs3 l3 f3 => ⟨?_, ?_⟩⟩
                                · rw [wipe_eq l3 f3, wipe_idem]
                                · refine yes_t ?_
                                  rw [if_pos trivial] at qt2
                                  refine tE_scp ?_
                                  cases qe : scp (evE C a e3) t4 with
                                  | none => simp only [qe] at qt2; cases qt2
                                  | some re =>
                                    simp only [qe] at qt2
                                    cases qt2
                                    refine ⟨_, ρ4, e3, t4, R5, rs3, re.1, re.2, qe, fun ρ6 H6 u R6 G6 rv6 => ?_⟩
                                    have hd6 := hd5.step R6 G6
                                    have ll := lcL_len _ _ _ _ _ h4
                                    have ll2 := lcL_len _ _ _ _ _ h1
                                    rw [List.length_append] at ll ll2
                                    have hadd := hd6.add hD rv6
                                    rw [List.append_assoc] at hadd
                                    refine ⟨av2, hd6.hD, ?_, ρ6, re.2, acc2 ++ [re.1], av2 ++ [u], hadd, ?_, h4⟩
                                    · rw [← hd6.rv.length, List.length_append]
                                      have e3 : line = sizeLine := rfl
                                      simp only [List.length_cons, List.length_nil] at ll
                                      omega
                                    · exact ((gr4.trans G5.toGr).trans G6.toGr).trans (Gr.at (a := D) (fun b hb => upd_ne hb) (by rw [hd6.hD]; exact NoTup.lst))
      · rw [if_neg c] at h; cases h
end
end Ev

set_option linter.all false
set_option autoImplicit false
set_option maxRecDepth 100000
/-! Ev18: fused sets, augmented and parallel assignments. -/
namespace Ev
open PySem PySem.Spec PyProof.Rows L2
section
variable {K : PySem.W.Frag} {C : Nat → List PV → S → Option (PV × S)} {σ : L2.St} {H H1 : Hp} {ρ ρ1 : List Addr} {B : Nat → Option Nat} {s : S} {e : Env}
theorem Rel.newX (R : Rel K B ρ s H) {p : Addr} {o : HO} (h : H p = none) : Rel K B ρ s (upd H p o) :=
  R.keep (fun n a ha => upd_ne fun z => R.fresh h (z ▸ List.mem_of_getElem? ha)) (Grow.new0 h)
theorem seqOf_keys {p : PV} {xs : List PV} {t : S} {v : V} (R : Rel K B ρ t H) (h : seqOf t p = some xs) (sb : setable xs = true) (r : RV K ρ H p v) :
    ∃ a, v = .ref a ∧ (SqL K H a ((xs.map pK).map kV) ∨ SqT K H a ((xs.map pK).map kV)) ∧ (xs.map pK).length < 64 := by
  obtain ⟨a, vs, rfl, sq, rv⟩ := R.seq h r
  obtain ⟨k1, k2, k3⟩ := setable_ok sb
  have e := keyVs k1 rv
  subst e
  exact ⟨a, rfl, sq, by rw [List.length_map]; exact k3⟩
theorem pK_back {xs : List PV} (k : ∀ p ∈ xs, KeyV p) : (xs.map pK).map kP = xs := by
  induction xs with
  | nil => rfl
  | cons x xs ih => rw [List.map_cons, List.map_cons, pK_kP (k x List.mem_cons_self), ih fun p hp => k p (List.mem_cons_of_mem _ hp)]
theorem insU_le (x : PV) : ∀ l : List PV, (insU x l).length ≤ l.length + 1
  | [] => Nat.le_refl _
  | y :: ys => by
    unfold insU
    split
    · exact Nat.le_refl _
    · split
      · rw [List.length_cons, List.length_cons]
        have := insU_le x ys
        omega
      · exact Nat.le_succ _
theorem usort_le {xs : List PV} : (usort xs).length ≤ xs.length := by
  have key : ∀ (xs acc : List PV), (xs.foldl (fun acc x => insU x acc) acc).length ≤ acc.length + xs.length := by
    intro xs
    induction xs with
    | nil => intro acc; exact Nat.le_refl _
    | cons x xs ih =>
      intro acc
      have := ih (insU x acc)
      have := insU_le x acc
      rw [List.foldl_cons, List.length_cons]
      omega
  have := key xs []
  rw [List.length_nil, Nat.zero_add] at this
  exact this
theorem keys_set {xs : List PV} {L : List Key} (sb : setable xs = true) (m : ∀ k, k ∈ L ↔ k ∈ xs.map pK) (nd : L.Nodup) : AlkL (L.map kP) ∧ (∀ y, y ∈ L.map kP ↔ y ∈ xs) ∧ (L.map kP).Nodup ∧ L.length ≤ xs.length := by
  obtain ⟨k1, k2, k3⟩ := setable_ok sb
  have mm : ∀ y, y ∈ L.map kP ↔ y ∈ xs := fun y => by
    constructor
    · intro h
      obtain ⟨k, hk, e⟩ := List.mem_map.mp h
      have := List.mem_map_of_mem (f := kP) ((m k).mp hk)
      rw [pK_back k1, e] at this
      exact this
    · intro h
      have : pK y ∈ xs.map pK := List.mem_map_of_mem h
      have := List.mem_map_of_mem (f := kP) ((m _).mpr this)
      rw [pK_kP (k1 y h)] at this
      exact this
  refine ⟨fun u hu v hv => k2 u ((mm u).mp hu) v ((mm v).mp hv), mm, ?_, ?_⟩
  · exact List.Pairwise.map kP (fun a b h z => h (kP_inj z)) nd
  · have h1 : (L.map kP).Nodup := List.Pairwise.map kP (fun a b h z => h (kP_inj z)) nd
    have := usort_length k2 (blws_mem.mpr fun y hy => keyV_rf (k1 y hy)) mm h1
    rw [List.length_map] at this
    rw [this]
    exact usort_le
theorem w_sortedSet {w : World} {a : XE} {Q : VK} (h : tEx K C (.blt .sortedSet (.cons a .nil)) σ H Q) : tCB (rSortM w) (tCons (tCB (rSetM K w) (tCons (tEx K C a) tNil)) tNil) σ H Q := by
  obtain ⟨B, ρ, e, s, R, rs, w', s', h, k⟩ := h
  unfold evE evL evL at h
  cases q : evE C a e s with
  | none => simp only [q] at h; cases h
  | some r =>
    simp only [q] at h
    unfold blt bSortedSet at h
    simp only at h
    cases q2 : seqOf r.2 r.1 with
    | none => simp only [q2] at h; cases h
    | some xs =>
      simp only [q2] at h
      by_cases sb : setable xs = true
      · rw [if_pos sb] at h
        cases h
        refine ⟨B, ρ, e, s, R, rs, r.1, r.2, q, fun ρ1 H1 u1 R1 G1 v1 => ?_⟩
        obtain ⟨a, rfl, sq, l64⟩ := seqOf_keys R1 q2 sb v1
        refine ⟨a, xs.map pK, rfl, sq, l64, fun p L hp m nd => ?_⟩
        obtain ⟨al, mm, nd2, ll⟩ := keys_set sb m nd
        obtain ⟨k1, k2, k3⟩ := setable_ok sb
        have rf : rfs xs = true := blws_mem.mpr fun y hy => keyV_rf (k1 y hy)
        refine ⟨p, L, rfl, upd_same, al, by omega, fun p2 ks hp2 e2 => ?_⟩
        have hR1 := R1.newX (o := SetM w p L) hp
        have G2 : Grow K ρ1 H1 ρ1 (upd H1 p (SetM w p L)) := Grow.new0 hp
        rw [usort_of k2 rf mm nd2] at e2
        have rvk : RVs K ρ1 (upd H1 p (SetM w p L)) (usort xs) (ks.map kV) := by
          rw [← e2]
          clear e2
          induction ks with
          | nil => exact .nil
          | cons x ks ih =>
            refine .cons ?_ ih
            cases x with
            | inl i => exact rv_int' i
            | inr y => exact rv_str' _
        exact k (ρ1 ++ [p2]) _ _ (hR1.newL hp2 rvk) ((G1.trans G2).trans (Grow.new hp2)) (Rel.end hR1)
      · rw [if_neg sb] at h; cases h
theorem w_lenSet {w : World} {a : XE} {Q : VK} (h : tEx K C (.blt .lenSet (.cons a .nil)) σ H Q) : tCB (rLenM w) (tCons (tCB (rSetM K w) (tCons (tEx K C a) tNil)) tNil) σ H Q := by
  obtain ⟨B, ρ, e, s, R, rs, w', s', h, k⟩ := h
  unfold evE evL evL at h
  cases q : evE C a e s with
  | none => simp only [q] at h; cases h
  | some r =>
    simp only [q] at h
    unfold blt bLenSet at h
    simp only at h
    cases q2 : seqOf r.2 r.1 with
    | none => simp only [q2] at h; cases h
    | some xs =>
      simp only [q2] at h
      by_cases sb : setable xs = true
      · rw [if_pos sb] at h
        cases h
        refine ⟨B, ρ, e, s, R, rs, r.1, r.2, q, fun ρ1 H1 u1 R1 G1 v1 => ?_⟩
        obtain ⟨a, rfl, sq, l64⟩ := seqOf_keys R1 q2 sb v1
        refine ⟨a, xs.map pK, rfl, sq, l64, fun p L hp m nd => ?_⟩
        obtain ⟨al, mm, nd2, ll⟩ := keys_set sb m nd
        obtain ⟨k1, k2, k3⟩ := setable_ok sb
        have rf : rfs xs = true := blws_mem.mpr fun y hy => keyV_rf (k1 y hy)
        refine ⟨p, L, rfl, upd_same, ?_⟩
        have hR1 := R1.newX (o := SetM w p L) hp
        have e3 := usort_length k2 rf mm nd2
        rw [List.length_map] at e3
        rw [e3]
        exact k ρ1 _ _ hR1 (G1.trans (Grow.new0 hp)) (rv_int' _)
      · rw [if_neg sb] at h; cases h

/-! ### op= -/
theorem s_aug {D : Ends} {i : Nat} {op : Bop} {a : XE} {f : Int → Int → Int} (hop : ∀ x y t, bop op (.int x) (.int y) t = some (.int (f x y), t)) (h : tS K (evS C (.aug i op a)) D σ H) : tAug i (tEx K C a) (ipI f) D σ H := by
  obtain ⟨B, ρ, e, s, R, rs, o, s', h, k⟩ := h
  unfold evS at h
  cases q : e[i]? with
  | none => simp only [q] at h; cases h
  | some ov =>
    cases ov with
    | none => simp only [q] at h; cases h
    | some v =>
      simp only [q] at h
      obtain ⟨x, hx, rx⟩ := rs.val i v q
      refine ⟨x, hx, ?_⟩
      cases q2 : evE C a e s with
      | none => simp only [q2] at h; cases h
      | some r =>
        obtain ⟨p, t⟩ := r
        simp only [q2] at h
        refine ⟨B, ρ, e, s, R, rs, _, _, q2, fun ρ1 H1 u1 R1 G1 v1 => ?_⟩
        cases v with
        | int j =>
          cases p with
          | int j2 =>
            simp only [hop, Option.map_some] at h
            cases h
            cases rv_int rx
            cases rv_int v1
            exact ⟨j, j2, rfl, rfl, k ρ1 H1 R1 G1 _ ((rs.mono G1).set i (rv_int' _))⟩
          | _ => simp only at h; cases h
        | _ => cases p <;> (simp only at h; cases h)

/-! ### a, b = x, y -/
theorem tidy_tup {n lo : Nat} {xs : List PV} {s : S} : (tidy n lo (.tup xs) s).1 = .tup xs := by
  unfold tidy
  split
  · split <;> rfl
  · rfl
theorem tidy_tup_ok {s0 s1 : S} (R0 : Rel K B ρ s0 H) {xs : List PV} {us : List V} (R1 : Rel K (inB B s0) ρ1 s1 H1) (G : Grow K ρ H ρ1 H1) (r : RVs K ρ1 H1 xs us) :
    ∃ ρ2, Rel K B ρ2 (tidy s0.size s0.lo (.tup xs) s1).2 H1 ∧ Grow K ρ H ρ2 H1 ∧ RVs K ρ2 H1 xs us := by
  have hl : s0.lo ≤ s0.size := R0.lo
  have el : ρ.length = s0.size := R0.len
  unfold tidy
  by_cases c : s0.size ≤ s1.lo
  · rw [if_pos c]
    by_cases d : (PV.tup xs).blw s0.size = true
    · rw [if_pos d]
      refine ⟨_, R1.cut hl c, ?_, r.cut _ _ _ (by unfold PV.blw at d; exact d)⟩
      have := G.drop G.len
      rw [el] at this
      exact this
    · rw [if_neg d]
      exact ⟨ρ1, R1.leaveLo (Nat.le_trans hl c), G, r⟩
  · rw [if_neg c]
    exact ⟨ρ1, R1.leave, G, r⟩
theorem s_parA {D : Ends} {tg : TgE} {es : XL} (h : tS K (evS C (.asg tg (.tup es))) D σ H) : tA K (evL C es) σ H fun us H1 => ∃ ρ2 xs e e', RS K ρ2 H1 e σ ∧ RVs K ρ2 H1 xs us ∧ asn tg (.tup xs) e = some e' ∧ ∀ σ', RS K ρ2 H1 e' σ' → D.nx σ' H1 := by
  obtain ⟨B, ρ, e, s, R, rs, o, s', h, k⟩ := h
  unfold evS at h
  cases q : scp (evE C (.tup es) e) s with
  | none => simp only [q] at h; cases h
  | some r =>
    simp only [q] at h
    obtain ⟨e', q2, e3⟩ := Option.map_eq_some_iff.mp h
    cases e3
    unfold scp at q
    cases q3 : evE C (.tup es) e ⟨s.g, s.size⟩ with
    | none => simp only [q3] at q; cases q
    | some r3 =>
      simp only [q3] at q
      unfold evE at q3
      cases q4 : evL C es e ⟨s.g, s.size⟩ with
      | none => simp only [q4] at q3; cases q3
      | some r4 =>
        simp only [q4] at q3
        by_cases c : r4.1.length ≤ line
        · rw [if_pos c] at q3
          cases q3
          have e5 := Option.some.inj q
          refine ⟨inB B s, ρ, e, ⟨s.g, s.size⟩, R.enter, rs, r4.1, r4.2, q4, fun ρ1 H1 us R1 G1 v1 => ?_⟩
          obtain ⟨ρ2, R2, G2, v2⟩ := tidy_tup_ok R R1 G1 v1
          rw [e5] at R2
          have e6 : r.1 = .tup r4.1 := by rw [← e5]; exact tidy_tup
          rw [e6] at q2
          exact ⟨ρ2, r4.1, e, e', rs.mono G2, v2, q2, fun σ' rs' => k ρ2 H1 R2 G2 σ' rs'⟩
        · rw [if_neg c] at q3; cases q3
theorem evL2 {a b : XE} {Q : List V → Hp → Prop} (h : tA K (evL C (.cons a (.cons b .nil))) σ H Q) : tCons (tEx K C a) (tCons (tEx K C b) tNil) σ H Q := by
  obtain ⟨B, ρ, e, s, R, rs, v, s', h, k⟩ := w_cons _ h
  refine ⟨B, ρ, e, s, R, rs, v, s', h, fun ρ' H' u R' G r => ?_⟩
  obtain ⟨B, ρ, e, s, R, rs, v, s', h, k⟩ := w_cons _ (k ρ' H' u R' G r)
  exact ⟨B, ρ, e, s, R, rs, v, s', h, fun ρ' H' u R' G r => w_nil _ (k ρ' H' u R' G r)⟩
theorem s_par2 {D : Ends} {i j : Nat} {es : XL} (h : tS K (evS C (.asg (.tp [.nm i, .nm j]) (.tup es))) D σ H) : tPar i j (tA K (evL C es)) D σ H := by
  obtain ⟨B, ρ, e, s, R, rs, v, s', h, k⟩ := s_parA h
  refine ⟨B, ρ, e, s, R, rs, v, s', h, fun ρ' H' u R' G r => ?_⟩
  obtain ⟨ρ2, xs, e, e', rs2, rv, ha, k2⟩ := k ρ' H' u R' G r
  unfold asn at ha
  cases xs with
  | nil => unfold asns at ha; cases ha
  | cons x xs =>
    cases xs with
    | nil => unfold asns asn asns at ha; cases ha
    | cons y xs =>
      cases xs with
      | cons z xs => unfold asns asn asns asn asns at ha; cases ha
      | nil =>
        unfold asns asn asns asn asns at ha
        cases ha
        obtain ⟨v1, ws, rfl, h1, r1⟩ := rv.inv
        obtain ⟨v2, ws, rfl, h2, r2⟩ := r1.inv
        cases r2.inv0
        exact ⟨v1, v2, rfl, k2 _ ((rs2.set i h1).set j h2)⟩
theorem s_par3 {D : Ends} {i j l : Nat} {es : XL} (h : tS K (evS C (.asg (.tp [.nm i, .nm j, .nm l]) (.tup es))) D σ H) : tPar3 i j l (tA K (evL C es)) D σ H := by
  obtain ⟨B, ρ, e, s, R, rs, v, s', h, k⟩ := s_parA h
  refine ⟨B, ρ, e, s, R, rs, v, s', h, fun ρ' H' u R' G r => ?_⟩
  obtain ⟨ρ2, xs, e, e', rs2, rv, ha, k2⟩ := k ρ' H' u R' G r
  unfold asn at ha
  cases xs with
  | nil => unfold asns at ha; cases ha
  | cons x xs =>
    cases xs with
    | nil => unfold asns asn asns at ha; cases ha
    | cons y xs =>
      cases xs with
      | nil => unfold asns asn asns asn asns at ha; cases ha
      | cons z xs =>
        cases xs with
        | cons z xs => unfold asns asn asns asn asns asn asns at ha; cases ha
        | nil =>
          unfold asns asn asns asn asns asn asns at ha
          cases ha
          obtain ⟨v1, ws, rfl, h1, r1⟩ := rv.inv
          obtain ⟨v2, ws, rfl, h2, r2⟩ := r1.inv
          obtain ⟨v3, ws, rfl, h3, r3⟩ := r2.inv
          cases r3.inv0
          exact ⟨v1, v2, v3, rfl, k2 _ (((rs2.set i h1).set j h2).set l h3)⟩
end
end Ev

set_option linter.all false
set_option autoImplicit false
set_option maxRecDepth 100000
/-! EvD: dicts. -/
namespace Ev
open PySem PySem.Spec PyProof.Rows L2
theorem eqv_kP (a b : Key) : eqv (kP a) (kP b) = decide (a = b) := by
  cases a <;> cases b <;> unfold kP eqv
  · rename_i i j
    by_cases h : i = j
    · subst h; simp
    · have : ¬ (Sum.inl i : Key) = Sum.inl j := fun z => h (Sum.inl.inj z)
      simp [h, this]
  · simp
  · simp
  · rename_i x y
    obtain ⟨⟨x⟩⟩ := x
    obtain ⟨⟨y⟩⟩ := y
    by_cases h : x = y
    · subst h; simp
    · have : ¬ (Sum.inr ⟨⟨x⟩⟩ : Key) = Sum.inr ⟨⟨y⟩⟩ := fun z => h (by
        have := Sum.inr.inj z
        cases this
        rfl)
      simp [h, this]
theorem eqvs_kP : ∀ a b : List Key, eqvs (a.map kP) (b.map kP) = decide (a = b)
  | [], [] => by unfold eqvs; simp
  | [], _ :: _ => by rw [List.map_cons, List.map_nil]; unfold eqvs; simp
  | _ :: _, [] => by rw [List.map_cons, List.map_nil]; unfold eqvs; simp
  | a :: as, b :: bs => by
    rw [List.map_cons, List.map_cons]
    unfold eqvs
    rw [eqv_kP, eqvs_kP as bs]
    by_cases h1 : a = b <;> by_cases h2 : as = bs <;> simp [h1, h2]
theorem eqv_kPs (a b : List Key) : eqv (kPs a) (kPs b) = decide (a = b) := by
  unfold kPs eqv
  exact eqvs_kP a b
def OptR (K : PySem.W.Frag) (ρ : List Addr) (H : Hp) (ov : Option V) (o : Option PV) : Prop := (o = none ∧ ov = none) ∨ ∃ p v, o = some p ∧ ov = some v ∧ RV K ρ H p v
section
variable {K : PySem.W.Frag} {ρ : List Addr} {H : Hp} {κ : Type} [DecidableEq κ] {f : κ → PV}
theorem KR.length : ∀ {ps : List (PV × PV)} {l : List (κ × V)}, KR f K ρ H ps l → ps.length = l.length
  | [], _, h => by rw [show _ = [] from h]; rfl
  | p :: ps, _, h => by
    obtain ⟨a, v, r, rfl, _, _, e⟩ := h
    rw [List.length_cons, List.length_cons, KR.length e]
theorem KR.get (hf : ∀ a b, eqv (f a) (f b) = decide (a = b)) (k : κ) : ∀ {ps : List (PV × PV)} {l : List (κ × V)}, KR f K ρ H ps l → OptR K ρ H (valV l k) (dget (f k) ps)
  | [], _, h => by rw [show _ = [] from h]; exact .inl ⟨rfl, rfl⟩
  | p :: ps, _, h => by
    obtain ⟨a, v, r, rfl, e2, e3, e4⟩ := h
    unfold dget
    rw [e2, hf]
    by_cases c : a = k
    · rw [if_pos (decide_eq_true c), valV_pos c]
      exact .inr ⟨p.2, v, rfl, rfl, e3⟩
    · rw [if_neg (by simp [c]), valV_neg c]
      exact KR.get hf k e4
theorem KR.map (hf : ∀ a b, eqv (f a) (f b) = decide (a = b)) (k : κ) {p : PV} {v : V} (hp : RV K ρ H p v) : ∀ {ps : List (PV × PV)} {l : List (κ × V)}, KR f K ρ H ps l →
    KR f K ρ H (ps.map fun q => if eqv q.1 (f k) then (q.1, p) else q) (l.map fun kv => if kv.1 = k then (kv.1, v) else kv)
  | [], _, h => by rw [show _ = [] from h]; rfl
  | q :: ps, _, h => by
    obtain ⟨a, u, r, rfl, e2, e3, e4⟩ := h
    rw [List.map_cons, List.map_cons]
    refine ⟨a, if a = k then v else u, _, ?_, ?_, ?_, KR.map hf k hp e4⟩
    · by_cases c : a = k <;> simp [c]
    · show (if eqv q.1 (f k) = true then (q.1, p) else q).1 = f a
      by_cases c : eqv q.1 (f k) = true
      · rw [if_pos c]; exact e2
      · rw [if_neg c]; exact e2
    · rw [e2, hf]
      by_cases c : a = k
      · simp only [c, decide_true, if_true]; exact hp
      · simp only [c, decide_false, if_false]; exact e3
theorem KR.app : ∀ {ps qs : List (PV × PV)} {l m : List (κ × V)}, KR f K ρ H ps l → KR f K ρ H qs m → KR f K ρ H (ps ++ qs) (l ++ m)
  | [], _, _, _, h, g => by rw [show _ = [] from h]; exact g
  | q :: ps, _, _, _, h, g => by
    obtain ⟨a, u, r, rfl, e2, e3, e4⟩ := h
    exact ⟨a, u, _, rfl, e2, e3, KR.app e4 g⟩
theorem KR.put (hf : ∀ a b, eqv (f a) (f b) = decide (a = b)) (k : κ) {p : PV} {v : V} (hp : RV K ρ H p v) {ps : List (PV × PV)} {l : List (κ × V)} (h : KR f K ρ H ps l) : KR f K ρ H (dput (f k) p ps) (putK l k v) := by
  have g := h.get hf k
  unfold dput putK
  rw [valV_any]
  have e : (dget (f k) ps).isSome = (valV l k).isSome := by
    rcases g with ⟨g1, g2⟩ | ⟨q, w, g1, g2, _⟩ <;> rw [g1, g2] <;> rfl
  rw [e]
  by_cases c : (valV l k).isSome = true
  · rw [if_pos c, if_pos c]
    exact h.map hf k hp
  · rw [if_neg c, if_neg c]
    exact h.app ⟨k, v, [], rfl, rfl, hp, rfl⟩
end
theorem blwKV_app {m : Nat} : ∀ {a b : List (PV × PV)}, blwKV m a = true → blwKV m b = true → blwKV m (a ++ b) = true
  | [], _, _, h => h
  | p :: ps, _, h, g => by
    show blwKV m (p :: (ps ++ _)) = true
    unfold blwKV at h ⊢
    obtain ⟨b1, b2⟩ := Bool.and_eq_true_iff.mp h
    obtain ⟨b3, b4⟩ := Bool.and_eq_true_iff.mp b2
    rw [b1, b3, blwKV_app b4 g]
    rfl
theorem blwKV_map {m : Nat} {k p : PV} (bp : p.blw m = true) {kvs : List (PV × PV)} (h : blwKV m kvs = true) : blwKV m (kvs.map fun q => if eqv q.1 k then (q.1, p) else q) = true := by
  induction kvs with
  | nil => rfl
  | cons q qs ih =>
    unfold blwKV at h
    obtain ⟨b1, b2⟩ := Bool.and_eq_true_iff.mp h
    obtain ⟨b3, b4⟩ := Bool.and_eq_true_iff.mp b2
    rw [List.map_cons]
    unfold blwKV
    rw [ih b4]
    by_cases c : eqv q.1 k = true
    · rw [if_pos c, b1, bp]; rfl
    · rw [if_neg c, b1, b3]; rfl
theorem blwKV_put {m : Nat} {k p : PV} (hk : k.rf = true) (hp : p.rf = true) {kvs : List (PV × PV)} (h : blwKV m kvs = true) : blwKV m (dput k p kvs) = true := by
  have bp := PV.blw_mono (Nat.zero_le m) _ hp
  unfold dput
  split
  · exact blwKV_map bp h
  · refine blwKV_app h ?_
    unfold blwKV blwKV
    rw [PV.blw_mono (Nat.zero_le m) _ hk, bp]
    rfl
section
variable {K : PySem.W.Frag} {ρ : List Addr} {H : Hp} {B : Nat → Option Nat} {s : S}
theorem keyK_ok {k : PV} (h : keyK k = true) : ∃ q, k = kP q := by
  cases k with
  | int i => exact ⟨.inl i, rfl⟩
  | str x => exact ⟨.inr ⟨⟨x⟩⟩, rfl⟩
  | _ => cases h
theorem rv_kP {q : Key} {y : V} (h : RV K ρ H (kP q) y) : y = kV q := by
  cases q with
  | inl i => exact rv_int h
  | inr x => obtain ⟨⟨x⟩⟩ := x; exact rv_str h
theorem keys_ok : ∀ {xs : List PV}, xs.all keyK = true → ∃ ks : List Key, xs = ks.map kP
  | [], _ => ⟨[], rfl⟩
  | x :: xs, h => by
    rw [List.all_cons, Bool.and_eq_true] at h
    obtain ⟨k, e⟩ := keyK_ok h.1
    obtain ⟨ks, es⟩ := keys_ok h.2
    exact ⟨k :: ks, by rw [e, es]; rfl⟩
theorem rvs_kP : ∀ {ks : List Key} {ys : List V}, RVs K ρ H (ks.map kP) ys → ys = ks.map kV
  | [], _, h => h.inv0
  | k :: ks, _, h => by
    obtain ⟨w, ws, rfl, a, b⟩ := h.inv
    rw [rv_kP a, rvs_kP b]
    rfl
theorem keyOk_f {k : PV} (h : keyOk false k = true) : keyK k = true := by
  cases k with
  | int i => rfl
  | str i => rfl
  | tup xs => unfold keyOk at h; simp at h
  | non => unfold keyOk keyK at h; simp at h
  | bl b => unfold keyOk keyK at h; simp at h
  | ref n => unfold keyOk keyK at h; simp at h
  | lv xs => unfold keyOk keyK at h; simp at h
theorem keyOk_t {k : PV} (h : keyOk true k = true) : ∃ ks : List Key, k = kPs ks := by
  cases k with
  | tup xs =>
    have h : (true && xs.all keyK) = true := h
    rw [Bool.true_and] at h
    obtain ⟨ks, rfl⟩ := keys_ok h
    exact ⟨ks, rfl⟩
  | _ => unfold keyOk at h; simp at h
theorem keyOk_rf {t : Bool} {k : PV} (h : keyOk t k = true) : k.rf = true := by
  cases k with
  | tup xs =>
    obtain ⟨ks, rfl⟩ := keys_ok (Bool.and_eq_true_iff.mp h).2
    exact kPs_rf ks
  | int i => unfold PV.rf PV.blw; rfl
  | str i => unfold PV.rf PV.blw; rfl
  | _ =>
    have := (Bool.and_eq_true_iff.mp h).2
    cases this
theorem dctAt_ok {o k : PV} {x y : V} {n : Nat} {t : Bool} {kvs : List (PV × PV)} (R : Rel K B ρ s H) (h : dctAt s o k = some (n, t, kvs)) (ro : RV K ρ H o x) (rk : RV K ρ H k y) :
    ∃ a, x = .ref a ∧ IsD H a ∧ (∃ ov, DGet H a y ov ∧ OptR K ρ H ov (dget k kvs)) ∧
      (∀ p v, RV K ρ H p v → kvs.length < line → ∃ H', DPut H a y v H' ∧ Rel K B ρ (s.wr n (.dct t (dput k p kvs)) p.rf) H' ∧ Grow K ρ H ρ H') ∧
      (t = false → ∃ l q, H a = some (.dK l) ∧ y = kV q ∧ l.length = kvs.length ∧ OptR K ρ H (valV l q) (dget k kvs) ∧
        ∀ p v, RV K ρ H p v → Rel K B ρ (s.wr n (.dct t (dput k p kvs)) p.rf) (upd H a (.dK (putK l q v))) ∧ Grow K ρ H ρ (upd H a (.dK (putK l q v)))) := by
  unfold dctAt at h
  cases o with
  | ref m =>
    simp only at h
    cases q : s.g[m]? with
    | none => simp only [q] at h; cases h
    | some u =>
      cases u with
      | dct t' kvs' =>
        simp only [q] at h
        by_cases ck : keyOk t' k = true
        · rw [if_pos ck] at h
          cases h
          obtain ⟨a, rfl, ha⟩ := rv_ref ro
          have ob := R.ob n _ a q ha
          have mem := List.mem_of_getElem? ha
          have krf := keyOk_rf ck
          cases t with
          | false =>
            obtain ⟨l, hl, kr⟩ := ob
            have kk : keyK k = true := keyOk_f ck
            obtain ⟨qk, rfl⟩ := keyK_ok kk
            have ey := rv_kP rk
            have nt : NoTup (H a) := by rw [hl]; exact ⟨fun _ z => (by cases z), fun _ _ z => (by cases z)⟩
            have len := kr.length
            have wr : ∀ p v, RV K ρ H p v → Rel K B ρ (s.wr n (.dct false (dput (kP qk) p kvs)) p.rf) (upd H a (.dK (putK l qk v))) ∧ Grow K ρ H ρ (upd H a (.dK (putK l qk v))) := fun p v hp => by
              have g : Grow K ρ H ρ (upd H a (.dK (putK l qk v))) := Grow.at (a := a) (fun b hb => upd_ne hb) nt (.inl mem)
              refine ⟨R.wr q ha (fun b hb => upd_ne hb) nt ⟨_, upd_same, (kr.put eqv_kP qk hp).mo g.toGr⟩ fun hc b hb => blwKV_put krf hc hb, g⟩
            refine ⟨a, rfl, .inl ⟨l, .inl hl⟩, ⟨_, .inl ⟨l, qk, .inl hl, ey, rfl⟩, kr.get eqv_kP qk⟩, fun p v hp hlt => ?_, fun _ => ⟨l, qk, hl, ey, len.symm, kr.get eqv_kP qk, wr⟩⟩
            obtain ⟨w1, w2⟩ := wr p v hp
            exact ⟨_, .inl ⟨l, qk, hl, ey, by rw [← len]; exact hlt, rfl⟩, w1, w2⟩
          | true =>
            obtain ⟨l, hl, kr⟩ := ob
            obtain ⟨ks, rfl⟩ := keyOk_t ck
            obtain ⟨b, vs, rfl, hb, rv⟩ := rv_tupH rk
            cases rvs_kP rv
            have nt : NoTup (H a) := by rw [hl]; exact ⟨fun _ z => (by cases z), fun _ _ z => (by cases z)⟩
            have len := kr.length
            refine ⟨a, rfl, .inr ⟨l, .inl hl⟩, ⟨_, .inr ⟨l, ks, b, .inl hl, rfl, hb, rfl⟩, kr.get eqv_kPs ks⟩, fun p v hp hlt => ?_, fun z => by cases z⟩
            have g : Grow K ρ H ρ (upd H a (.dT (putK l ks v))) := Grow.at (a := a) (fun b hb => upd_ne hb) nt (.inl mem)
            exact ⟨_, .inr ⟨l, ks, b, hl, rfl, hb, by rw [← len]; exact hlt, rfl⟩, R.wr q ha (fun b hb => upd_ne hb) nt ⟨_, upd_same, (kr.put eqv_kPs ks hp).mo g.toGr⟩ (fun hc b hb => blwKV_put krf hc hb), g⟩
        · rw [if_neg ck] at h; cases h
      | _ => simp only [q] at h; cases h
  | _ => cases h
end
section
variable {K : PySem.W.Frag} {C : Nat → List PV → S → Option (PV × S)} {σ : L2.St} {H : Hp} {Q : VK}
theorem w_dnewK (h : tEx K C (.dnew false) σ H Q) : tDNewK σ H Q := by
  obtain ⟨B, ρ, e, s, R, rs, w, s', h, k⟩ := h
  unfold evE alloc at h
  cases h
  intro p hp
  refine k (ρ ++ [p]) _ _ (R.push (R.fresh hp) (noTup hp) ⟨[], upd_same, rfl⟩) (Grow.new hp) (Rel.end R)
theorem w_dnewT (h : tEx K C (.dnew true) σ H Q) : tDNewT σ H Q := by
  obtain ⟨B, ρ, e, s, R, rs, w, s', h, k⟩ := h
  unfold evE alloc at h
  cases h
  intro p hp
  refine k (ρ ++ [p]) _ _ (R.push (R.fresh hp) (noTup hp) ⟨[], upd_same, rfl⟩) (Grow.new hp) (Rel.end R)
theorem w_dget {o i : XE} (h : tEx K C (.dget o i) σ H Q) : tDGet (tEx K C o) (tEx K C i) σ H Q := by
  obtain ⟨B, ρ, e, s, R, rs, w, s', h, k⟩ := h
  unfold evE at h
  cases q1 : evE C o e s with
  | none => simp only [q1] at h; cases h
  | some r =>
    simp only [q1] at h
    cases q2 : evE C i e r.2 with
    | none => simp only [q2] at h; cases h
    | some q =>
      simp only [q2] at h
      cases q3 : dctAt q.2 r.1 q.1 with
      | none => simp only [q3] at h; cases h
      | some d =>
        obtain ⟨n, t, kvs⟩ := d
        simp only [q3] at h
        cases q4 : dget q.1 kvs with
        | none => simp only [q4] at h; cases h
        | some v =>
          simp only [q4] at h
          cases h
          refine ⟨B, ρ, e, s, R, rs, _, _, q1, fun ρ1 H1 u1 R1 G1 v1 => ⟨B, ρ1, e, r.2, R1, rs.mono G1, _, _, q2, fun ρ2 H2 u2 R2 G2 v2 => ?_⟩⟩
          obtain ⟨a, ea, _, ⟨ov, g, og⟩, _⟩ := dctAt_ok R2 q3 (v1.mono G2 _ _) v2
          rw [q4] at og
          rcases og with ⟨z, _⟩ | ⟨p, u, z, z2, ru⟩
          · cases z
          · cases z
            subst z2
            exact ⟨a, u, ea, g, k ρ2 H2 u R2 (G1.trans G2) ru⟩
theorem w_din {neg : Bool} {i o : XE} (h : tEx K C (.din neg i o) σ H Q) : (if neg = true then tDNotIn (tEx K C i) (tEx K C o) σ H Q else tDIn (tEx K C i) (tEx K C o) σ H Q) := by
  obtain ⟨B, ρ, e, s, R, rs, w, s', h, k⟩ := h
  unfold evE at h
  cases q1 : evE C i e s with
  | none => simp only [q1] at h; cases h
  | some r =>
    simp only [q1] at h
    cases q2 : evE C o e r.2 with
    | none => simp only [q2] at h; cases h
    | some q =>
      simp only [q2] at h
      cases q3 : dctAt q.2 q.1 r.1 with
      | none => simp only [q3] at h; cases h
      | some d =>
        obtain ⟨n, t, kvs⟩ := d
        simp only [q3] at h
        cases h
        have key : ∀ ρ1 H1 u1, Rel K B ρ1 r.2 H1 → Grow K ρ H ρ1 H1 → RV K ρ1 H1 r.1 u1 → ∀ ρ2 H2 u2, Rel K B ρ2 q.2 H2 → Grow K ρ1 H1 ρ2 H2 → RV K ρ2 H2 q.1 u2 → ∃ a ov, u2 = .ref a ∧ DGet H2 a u1 ov ∧ Q (.bl (neg != ov.isSome)) H2 := by
          intro ρ1 H1 u1 R1 G1 v1 ρ2 H2 u2 R2 G2 v2
          obtain ⟨a, ea, _, ⟨ov, g, og⟩, _⟩ := dctAt_ok R2 q3 v2 (v1.mono G2 _ _)
          have e3 : (dget r.1 kvs).isSome = ov.isSome := by
            rcases og with ⟨z, z2⟩ | ⟨p, u, z, z2, _⟩ <;> rw [z, z2] <;> rfl
          refine ⟨a, ov, ea, g, k ρ2 H2 _ R2 (G1.trans G2) ?_⟩
          rw [e3]
          exact rv_bl' _
        cases neg with
        | true =>
          rw [if_pos rfl]
          refine ⟨B, ρ, e, s, R, rs, _, _, q1, fun ρ1 H1 u1 R1 G1 v1 => ⟨B, ρ1, e, r.2, R1, rs.mono G1, _, _, q2, fun ρ2 H2 u2 R2 G2 v2 => ?_⟩⟩
          obtain ⟨a, ov, h1, h2, h3⟩ := key ρ1 H1 u1 R1 G1 v1 ρ2 H2 u2 R2 G2 v2
          refine ⟨a, ov, h1, h2, ?_⟩
          have : (true != ov.isSome) = !ov.isSome := by cases ov.isSome <;> rfl
          rw [this] at h3
          exact h3
        | false =>
          rw [if_neg Bool.false_ne_true]
          refine ⟨B, ρ, e, s, R, rs, _, _, q1, fun ρ1 H1 u1 R1 G1 v1 => ⟨B, ρ1, e, r.2, R1, rs.mono G1, _, _, q2, fun ρ2 H2 u2 R2 G2 v2 => ?_⟩⟩
          obtain ⟨a, ov, h1, h2, h3⟩ := key ρ1 H1 u1 R1 G1 v1 ρ2 H2 u2 R2 G2 v2
          refine ⟨a, ov, h1, h2, ?_⟩
          have : (false != ov.isSome) = ov.isSome := by cases ov.isSome <;> rfl
          rw [this] at h3
          exact h3
theorem dctAt_isD {B : Nat → Option Nat} {ρ : List Addr} {s : S} {o k : PV} {x : V} {d : Nat × Bool × List (PV × PV)} (R : Rel K B ρ s H) (h : dctAt s o k = some d) (ro : RV K ρ H o x) : ∃ a, x = .ref a ∧ IsD H a := by
  unfold dctAt at h
  cases o with
  | ref m =>
    simp only at h
    cases q : s.g[m]? with
    | none => simp only [q] at h; cases h
    | some u =>
      cases u with
      | dct t' kvs' =>
        obtain ⟨a, rfl, ha⟩ := rv_ref ro
        have ob := R.ob m _ a q ha
        cases t' with
        | false =>
          obtain ⟨l, hl, _⟩ := ob
          exact ⟨a, rfl, .inl ⟨l, .inl hl⟩⟩
        | true =>
          obtain ⟨l, hl, _⟩ := ob
          exact ⟨a, rfl, .inr ⟨l, .inl hl⟩⟩
      | _ => simp only [q] at h; cases h
  | _ => cases h
theorem w_dgetD {o i d : XE} (h : tEx K C (.dgetD o i d) σ H Q) : tDGet2 (tEx K C o) (tEx K C i) (tEx K C d) σ H Q := by
  obtain ⟨B, ρ, e, s, R, rs, w, s', h, k⟩ := h
  unfold evE at h
  cases q1 : evE C o e s with
  | none => simp only [q1] at h; cases h
  | some r =>
    simp only [q1] at h
    cases q2 : evE C i e r.2 with
    | none => simp only [q2] at h; cases h
    | some q =>
      simp only [q2] at h
      cases q3 : evE C d e q.2 with
      | none => simp only [q3] at h; cases h
      | some p =>
        simp only [q3] at h
        cases q4 : dctAt r.2 r.1 q.1 with
        | none => simp only [q4] at h; cases h
        | some d0 =>
          cases q5 : dctAt p.2 r.1 q.1 with
          | none => simp only [q4, q5] at h; cases h
          | some d1 =>
            obtain ⟨n, t, kvs⟩ := d1
            simp only [q4, q5] at h
            cases h
            refine ⟨B, ρ, e, s, R, rs, _, _, q1, fun ρ1 H1 u1 R1 G1 v1 => ?_⟩
            obtain ⟨a0, e0, isd⟩ := dctAt_isD R1 q4 v1
            refine ⟨a0, e0, isd, B, ρ1, e, r.2, R1, rs.mono G1, _, _, q2, fun ρ2 H2 u2 R2 G2 v2 => ⟨B, ρ2, e, q.2, R2, (rs.mono G1).mono G2, _, _, q3, fun ρ3 H3 u3 R3 G3 v3 => ?_⟩⟩
            obtain ⟨a, ea, _, ⟨ov, g, og⟩, _⟩ := dctAt_ok R3 q5 (v1.mono (G2.trans G3) _ _) (v2.mono G3 _ _)
            rw [ea] at e0
            cases e0
            refine ⟨ov, g, k ρ3 H3 _ R3 ((G1.trans G2).trans G3) ?_⟩
            rcases og with ⟨z, z2⟩ | ⟨p2, u, z, z2, ru⟩
            · rw [z, z2]; exact v3
            · rw [z, z2]; exact ru
theorem w_dsetd {o i d : XE} (h : tEx K C (.dsetd o i d) σ H Q) : tDSetd (tEx K C o) (tEx K C i) (tEx K C d) σ H Q := by
  obtain ⟨B, ρ, e, s, R, rs, w, s', h, k⟩ := h
  unfold evE at h
  cases q1 : evE C o e s with
  | none => simp only [q1] at h; cases h
  | some r =>
    simp only [q1] at h
    cases q2 : evE C i e r.2 with
    | none => simp only [q2] at h; cases h
    | some q =>
      simp only [q2] at h
      cases q3 : evE C d e q.2 with
      | none => simp only [q3] at h; cases h
      | some p =>
        simp only [q3] at h
        cases q4 : dctAt r.2 r.1 q.1 with
        | none => simp only [q4] at h; cases h
        | some d0 =>
          cases q5 : dctAt p.2 r.1 q.1 with
          | none => simp only [q4, q5] at h; cases h
          | some d1 =>
            obtain ⟨n, t, kvs⟩ := d1
            cases t with
            | true => simp only [q4, q5] at h; cases h
            | false =>
              simp only [q4, q5] at h
              refine ⟨B, ρ, e, s, R, rs, _, _, q1, fun ρ1 H1 u1 R1 G1 v1 => ?_⟩
              obtain ⟨a0, e0, isd⟩ := dctAt_isD R1 q4 v1
              refine ⟨a0, e0, isd, B, ρ1, e, r.2, R1, rs.mono G1, _, _, q2, fun ρ2 H2 u2 R2 G2 v2 => ⟨B, ρ2, e, q.2, R2, (rs.mono G1).mono G2, _, _, q3, fun ρ3 H3 u3 R3 G3 v3 => ?_⟩⟩
              obtain ⟨a, ea, _, _, _, hF⟩ := dctAt_ok R3 q5 (v1.mono (G2.trans G3) _ _) (v2.mono G3 _ _)
              rw [ea] at e0
              cases e0
              obtain ⟨l, qk, hl, ey, len, og, wr⟩ := hF rfl
              have G13 := (G1.trans G2).trans G3
              by_cases c : kvs.length < line
              · rw [if_pos c] at h
                cases q6 : dget q.1 kvs with
                | some v =>
                simp only [q6] at h
                cases h
                rw [q6] at og
                rcases og with ⟨z, _⟩ | ⟨p2, u, z, z2, ru⟩
                · cases z
                · cases z
                  have small : l.length < sizeLine := by rw [len]; exact c
                  refine ⟨l, qk, hl, ey, small, fun v hv => ?_, fun hn => by rw [z2] at hn; cases hn⟩
                  rw [z2] at hv
                  cases hv
                  exact k ρ3 H3 _ R3 G13 ru
                | none =>
                simp only [q6] at h
                cases h
                rw [q6] at og
                rcases og with ⟨_, z2⟩ | ⟨p2, u, z, _, _⟩
                · refine ⟨l, qk, hl, ey, (by rw [len]; exact c), (fun v hv => (by rw [z2] at hv; cases hv)), fun _ => ?_⟩
                  obtain ⟨w1, w2⟩ := wr _ _ v3
                  exact k ρ3 _ _ w1 (G13.trans w2) (v3.mono w2 _ _)
                · cases z
              · rw [if_neg c] at h; cases h
theorem s_dput {D : Ends} {o i a : XE} (h : tS K (evS C (.dput o i a)) D σ H) : sDPut (tEx K C o) (tEx K C i) (tEx K C a) D σ H := by
  obtain ⟨B, ρ, e, s, R, rs, o', s', h, k⟩ := h
  unfold evS at h
  refine tE_scp ?_
  cases q : scp (evE C a e) s with
  | none => simp only [q] at h; cases h
  | some r =>
    simp only [q] at h
    cases q1 : evE C o e r.2 with
    | none => simp only [q1] at h; cases h
    | some r1 =>
      simp only [q1] at h
      cases q2 : evE C i e r1.2 with
      | none => simp only [q2] at h; cases h
      | some r2 =>
        simp only [q2] at h
        cases q3 : dctAt r2.2 r1.1 r2.1 with
        | none => simp only [q3] at h; cases h
        | some d =>
          obtain ⟨n, t, kvs⟩ := d
          simp only [q3] at h
          by_cases c : kvs.length < line
          · rw [if_pos c] at h
            cases h
            refine ⟨B, ρ, e, s, R, rs, r.1, r.2, q, fun ρ1 H1 u R1 G1 v1 => ⟨B, ρ1, e, r.2, R1, rs.mono G1, r1.1, r1.2, q1, fun ρ2 H2 u2 R2 G2 v2 => ?_⟩⟩
            refine ⟨B, ρ2, e, r1.2, R2, (rs.mono G1).mono G2, r2.1, r2.2, q2, fun ρ3 H3 u3 R3 G3 v3 => ?_⟩
            obtain ⟨a, ea, _, _, put, _⟩ := dctAt_ok R3 q3 (v2.mono G3 _ _) v3
            obtain ⟨H4, p1, p2, p3⟩ := put _ _ (v1.mono (G2.trans G3) _ _) c
            exact ⟨a, H4, ea, p1, k ρ3 H4 p2 ((G1.trans G2).trans (G3.trans p3)) σ (((rs.mono G1).mono (G2.trans G3)).mono p3)⟩
          · rw [if_neg c] at h; cases h
end
end Ev

set_option linter.all false
set_option autoImplicit false
set_option maxRecDepth 100000
/-! Ev19: does a text say what the evaluator's syntax says? Destructors, side conditions. -/
namespace Ev
open PySem PySem.Spec PyProof.Rows L2
abbrev PStr := PySem.Str
/-! ### reading a text -/
def asName : Expr → Option PStr
  | .Name x _ => some x
  | _ => none
def asTup : Expr → Option (List Expr)
  | .Tuple l _ _ => some l
  | _ => none
def asLst : Expr → Option (List Expr)
  | .List l _ => some l
  | _ => none
def asBin : Expr → Option (Expr × Operator × Expr)
  | .BinOp a op b _ => some (a, op, b)
  | _ => none
def asUn : Expr → Option (UnaryOp × Expr)
  | .UnaryOp op a _ => some (op, a)
  | _ => none
def asCmp : Expr → Option (Expr × CmpOp × Expr)
  | .Compare a [op] [b] _ => some (a, op, b)
  | _ => none
def asCmp2 : Expr → Option (Expr × CmpOp × CmpOp × Expr × Expr)
  | .Compare a [o1, o2] [b, c] _ => some (a, o1, o2, b, c)
  | _ => none
/-- the first operand; the rest, an expression again, and the same with one less -/
def asBool : Expr → Option (BoolOp × Expr × Expr)
  | .BoolOp op [a, b] pos => some (op, a, b)
  | .BoolOp op (a :: b :: c :: r) pos => some (op, a, .BoolOp op (b :: c :: r) pos)
  | _ => none
def asIf : Expr → Option (Expr × Expr × Expr)
  | .IfExp t a b _ => some (t, a, b)
  | _ => none
def asCall : Expr → Option (PStr × List Expr)
  | .Call (.Name x _) l [] _ => some (x, l)
  | _ => none
def asMeth : Expr → Option (Expr × PStr × List Expr)
  | .Call (.Attribute o m ap) l [] cp => if ap.endLine == cp.line then some (o, m, l) else none
  | _ => none
def asSub : Expr → Option (Expr × Expr)
  | .Subscript a b _ => some (a, b)
  | _ => none
def asSlice : Expr → Option (Expr × Option Expr × Option Expr)
  | .Subscript a (.Slice lo hi none _) _ => some (a, lo, hi)
  | _ => none
def asRev : Expr → Option Expr
  | .Subscript a (.Slice none none (some (.UnaryOp .USub (.Constant (.int i) _ _) _)) _) _ => if i = 1 then some a else none
  | _ => none
def noStar : Expr → Bool
  | .Starred _ _ => false
  | _ => true
def noSlice : Expr → Bool
  | .Slice _ _ _ _ => false
  | _ => true
def noSup : Expr → Bool
  | .Call _ _ _ _ => false
  | _ => true
def noComp : Expr → Bool
  | .ListComp _ _ _ _ => false
  | .SetComp _ _ _ _ => false
  | .DictComp _ _ _ _ _ => false
  | _ => true
def noSet : Expr → Bool
  | .Set _ _ _ => false
  | _ => true
/-- a test that is not looked into -/
def plainT : Expr → Bool
  | .BoolOp _ _ _ => false
  | .UnaryOp _ _ _ => false
  | .Compare _ _ _ _ => false
  | .Name _ _ => true
  | .Call _ _ _ _ => true
  | .Subscript _ _ _ => true
  | .IfExp _ _ _ _ => false
  | .Constant (.bool _) _ _ => true
  | _ => false

section
variable {X : Cx} {e : Expr}
theorem asName_ok {x : PStr} (h : asName e = some x) : ∃ p, e = .Name x p := by
  unfold asName at h
  split at h
  · cases h; exact ⟨_, rfl⟩
  · cases h
theorem asTup_ok {x : List Expr} (h : asTup e = some x) : ∃ k p, e = .Tuple x k p := by
  unfold asTup at h
  split at h
  · cases h; exact ⟨_, _, rfl⟩
  · cases h
theorem asLst_ok {x : List Expr} (h : asLst e = some x) : ∃ p, e = .List x p := by
  unfold asLst at h
  split at h
  · cases h; exact ⟨_, rfl⟩
  · cases h
theorem asBin_ok {a b : Expr} {op : Operator} (h : asBin e = some (a, op, b)) : ∃ p, e = .BinOp a op b p := by
  unfold asBin at h
  split at h
  · cases h; exact ⟨_, rfl⟩
  · cases h
theorem asUn_ok {a : Expr} {op : UnaryOp} (h : asUn e = some (op, a)) : ∃ p, e = .UnaryOp op a p := by
  unfold asUn at h
  split at h
  · cases h; exact ⟨_, rfl⟩
  · cases h
theorem asCmp_ok {a b : Expr} {op : CmpOp} (h : asCmp e = some (a, op, b)) : ∃ p, e = .Compare a [op] [b] p := by
  unfold asCmp at h
  split at h
  · cases h; exact ⟨_, rfl⟩
  · cases h
theorem asCmp2_ok {a b c : Expr} {o1 o2 : CmpOp} (h : asCmp2 e = some (a, o1, o2, b, c)) : ∃ p, e = .Compare a [o1, o2] [b, c] p := by
  unfold asCmp2 at h
  split at h
  · cases h; exact ⟨_, rfl⟩
  · cases h
theorem asBool_ok {a b : Expr} {op : BoolOp} (h : asBool e = some (op, a, b)) : ∃ p, e = .BoolOp op [a, b] p ∨ ∃ c d r, e = .BoolOp op (a :: c :: d :: r) p ∧ b = .BoolOp op (c :: d :: r) p := by
  unfold asBool at h
  split at h
  · cases h; exact ⟨_, .inl rfl⟩
  · cases h; exact ⟨_, .inr ⟨_, _, _, rfl, rfl⟩⟩
  · cases h
theorem asIf_ok {a b c : Expr} (h : asIf e = some (c, a, b)) : ∃ p, e = .IfExp c a b p := by
  unfold asIf at h
  split at h
  · cases h; exact ⟨_, rfl⟩
  · cases h
theorem asCall_ok {x : PStr} {l : List Expr} (h : asCall e = some (x, l)) : ∃ p q, e = .Call (.Name x p) l [] q := by
  unfold asCall at h
  split at h
  · cases h; exact ⟨_, _, rfl⟩
  · cases h
theorem asMeth_ok {o : Expr} {x : PStr} {l : List Expr} (h : asMeth e = some (o, x, l)) : ∃ p q, e = .Call (.Attribute o x p) l [] q ∧ (p.endLine == q.line) = true := by
  unfold asMeth at h
  split at h
  · split at h
    · cases h; exact ⟨_, _, rfl, by assumption⟩
    · cases h
  · cases h
theorem asSub_ok {a b : Expr} (h : asSub e = some (a, b)) : ∃ p, e = .Subscript a b p := by
  unfold asSub at h
  split at h
  · cases h; exact ⟨_, rfl⟩
  · cases h
theorem asRev_ok {a : Expr} (h : asRev e = some a) : ∃ k p1 p2 p3 p, e = .Subscript a (.Slice none none (some (.UnaryOp .USub (.Constant (.int 1) k p1) p2)) p3) p := by
  unfold asRev at h
  split at h
  · split at h
    · rename_i z
      subst z
      cases h
      exact ⟨_, _, _, _, _, rfl⟩
    · cases h
  · cases h
theorem asSlice_ok {a : Expr} {lo hi : Option Expr} (h : asSlice e = some (a, lo, hi)) : ∃ p q, e = .Subscript a (.Slice lo hi none p) q := by
  unfold asSlice at h
  split at h
  · cases h; exact ⟨_, _, rfl⟩
  · cases h
theorem star_ok (h : noStar e = true) (es : List Expr) : starEach (e :: es) X.env = (false, eval e X.env) :: starEach es X.env := by
  cases e <;> first | rfl | cases h
theorem back_any : ∀ (l : List (Bool × Sem Value)) (pos : Pos), (backTo pos l).any (·.1) = l.any (·.1)
  | [], _ => rfl
  | (b, m) :: r, pos => by
    have ih := back_any r pos
    unfold backTo at ih ⊢
    rw [List.map_cons, List.any_cons, List.any_cons, ih]
theorem plain_ok {es : List Expr} (pos : Pos) (h : es.all noStar = true) : (backTo pos (starEach es X.env)).any (·.1) = false := by
  rw [back_any]
  induction es with
  | nil => rfl
  | cons e es ih =>
    rw [List.all_cons, Bool.and_eq_true] at h
    rw [star_ok h.1, List.any_cons, ih h.2] <;> rfl
theorem few_ok {es : List Expr} (pos : Pos) (h : es.all noStar = true) (hl : decide (es.length < 30) = true) : ((backTo pos (starEach es X.env)).all (fun x => !x.1) && (backToKw pos (keywordEach [] X.env)).all (fun x => x.1.isSome)
      && decide (es.length + ([] : List Keyword).length + (if ([] : List Keyword).isEmpty then 0 else 1) < 30)) = true := by
  have p := plain_ok (X := X) pos h
  have q : ∀ l : List (Bool × Sem Value), l.any (·.1) = false → l.all (fun x => !x.1) = true := by
    intro l hl
    induction l with
    | nil => rfl
    | cons x r ih =>
      rw [List.any_cons, Bool.or_eq_false_iff] at hl
      rw [List.all_cons, ih hl.2, hl.1] <;> rfl
  rw [q _ p]
  have k : (backToKw pos (keywordEach [] X.env)).all (fun x => x.1.isSome) = true := rfl
  rw [k]
  exact hl
theorem ix_ok (h : noSlice e = true) : PlainIx e := by
  intro o i
  cases e <;> first | rfl | cases h
theorem base_ok (h : noSup e = true) (name : PStr) : attributeBase e name X.env (eval e X.env) = eval e X.env := by
  cases e <;> first | rfl | cases h
theorem swap_ok (h : noComp e = true) (t : Option Expr) (l : Nat) : swapsWith e t l X.env = pure false := by
  cases e <;> first | rfl | cases h
theorem set_fold (h : noSet e = true) : ∀ (env : PySem.Env) (x : Value), foldedSetIterable e env x = pure x := by
  intro env x
  cases e <;> first | rfl | cases h
theorem plainT_ok (h : plainT e = true) : ∀ whole, isTrue e X.env whole = (do let v ← whole; standAt e.pos; holding [v] (truthy v)) := by
  intro whole
  unfold plainT at h
  split at h <;> first | rfl | cases h
end
end Ev

set_option linter.all false
set_option autoImplicit false
set_option maxRecDepth 100000
set_option maxHeartbeats 4000000
/-! EvG: what a def promises where it is known which containers are being shown (none): repr wants it. -/
namespace Ev
open PySem PySem.Spec PyProof.Rows L2
abbrev XC : CXT := L2.CX0
abbrev XE0 : XK := L2.E0
structure FnG (P : Program) (w : World) (K : PySem.W.Frag) (mg : Str → Option Value) (base : Heap) (k : Nat) (f : Addr) (fd : FuncData) (ps : List Str) (sp : Sp) : Prop where
  len : ∀ vs H Q, sp vs H Q XE0 → vs.length = ps.length
  run : ∀ (A : Around) (outer : List PySem.Env) (s : Shared) (H : Hp) (args : Args) (us : List Value) (vs : List V) (Q : VK), A.guards = some [] → Room k A → Env0 P w K mg base A outer s H → BindsTo s fd args (ps.zip us) → Vals vs us → sp vs H Q XE0 →
    codeAny (model P w) A (.call (.ref f) args) (CR XC outer P w H s Q XE0) s
section
variable {X : Cx} {k : Nat} {f : Addr} {fd : FuncData} {ps : List Str} {sp : Sp} {x : Str} {p pos : Pos} {e : Expr} {es : List Expr} {t : TA}
theorem run_g {pins : List (Addr × Obj)} {σ : L2.St} {H : Hp} {s : Shared} {Q : VK} {us : List Value} {vs : List V} (F : FnG X.prog X.w X.K X.mg X.base k f fd ps sp) (hG : X.A.guards = some []) (hr : Room k X.A) (hb : Binds X.K fd ps [])
    (I : L2.Inv X pins σ H s) (r : Vals vs us) (h : sp vs H Q XE0) : wpAny (model X.prog X.w) X.A (call (.ref f) us) (EP X pins σ Q) X.xe s := by
  have hl : (us ++ []).length = ps.length := by rw [List.append_nil, ← r.length]; exact F.len _ _ _ h
  have b := hb s us I.kIn hl
  rw [List.append_nil] at b
  refine wpAny_call (codeAny_mono (F.run X.A X.stack s H ⟨us, []⟩ us vs Q hG hr I.env0 b r h) fun r s' hq => ?_)
  cases r with
  | error e => exact False.elim hq
  | ok fl =>
    cases fl with
    | ret u => exact I.after hq
    | next => exact False.elim hq
    | brk => exact False.elim hq
    | cont => exact False.elim hq
def tCallG (sp : Sp) (t : TA) : TE := fun σ H Q => t σ H fun vs H1 => sp vs H1 Q XE0
theorem pe_callG (F : FnG X.prog X.w X.K X.mg X.base k f fd ps sp) (hG : X.A.guards = some []) (hr : Room k X.A) (hg : Gl X x) (hm : X.mg x = some (.ref f)) (hk : PySem.W.keepIn X.K (.ref f) = true) (hb : Binds X.K fd ps [])
    (ha : PA X (e :: es) t) (hdb : (x == ("__debug__" : Str)) = false) (he : starEach (e :: es) X.env = (false, eval e X.env) :: starEach es X.env) (hpl : (backTo pos (starEach es X.env)).any (·.1) = false) :
    PE X (.Call (.Name x p) (e :: es) [] pos) (tCallG sp t) := by
  refine ⟨fun pins s σ H Q I h => ?_⟩
  refine wpAny_Call_Name_kw (ld_glob I hg hm ?_ hdb)
  exact PySem.W.callWith_K (h₀ := X.base) I.ok.mod.kin hk (thn (ha.run pos pins s σ H _ I h) fun us s1 ⟨vs, H1, I1, r, q⟩ => ⟨I1.kIn, run_g F hG hr hb I1 r q⟩) he hpl
theorem pe_callG0 (F : FnG X.prog X.w X.K X.mg X.base k f fd ps sp) (hG : X.A.guards = some []) (hr : Room k X.A) (hg : Gl X x) (hm : X.mg x = some (.ref f)) (hk : PySem.W.keepIn X.K (.ref f) = true) (hb : Binds X.K fd ps [])
    (hdb : (x == ("__debug__" : Str)) = false) : PE X (.Call (.Name x p) [] [] pos) (tCallG sp tNil) := by
  refine ⟨fun pins s σ H Q I h => ?_⟩
  refine wpAny_Call_Name_kw (ld_glob I hg hm ?_ hdb)
  exact PySem.W.callWith_K0 I.kIn hk (run_g (us := []) F hG hr hb I .nil h)
end
section
variable {P : Program} {w : World} {K : PySem.W.Frag} {mg : Str → Option Value} {base : Heap} {x qual : Str} {params : Arguments} {body : List Stmt} {scope : Scope} {f : Addr} {fd : FuncData}
/-- a def by its body -/
theorem fnG_of {N ps : List Str} {k : Nat} {sp : Sp} (F : FunD K x qual params body scope [] [] f fd) (S : FnScope N ps scope) (len : ∀ vs H Q, sp vs H Q XE0 → vs.length = ps.length)
    (hbody : ∀ (cdv : Value) (A : Around) (outer : List PySem.Env) (s : Shared) (H : Hp) (vs : List V) (Q : VK), A.guards = some [] → Room k (A.deeper (envOfC qual scope s.heap.objs.size f cdv)) → sp vs H Q XE0 →
      ∃ t, PSs (cxOf XC P w K mg base N qual scope f cdv A outer s H XE0) body t ∧ t { nx := fun _ H' => Q .non H', rt := Q } (L2.start N vs) H) : FnG P w K mg base (k + 1) f fd ps sp := by
  obtain ⟨oc, od, dV, kV, doc, pm, an, cdv, ct, osl, rfl, lk, hcd, _, _⟩ := F.ex
  refine ⟨len, fun A outer s H args us vs Q hG hr e0 hb r hsp => ?_⟩
  have keep := fun (b : Addr) (o : Obj) (e : base.get? b = some o) => (e0.bs b o e).1
  have KX : K.In s.heap := e0.mod.kin.keeps keep
  have lim : s.heap.NoLimit := e0.mod.nolimit.keeps keep
  have where_ : ∀ y ∈ ps.zip us, scope.names.lookup y.1 = some .local ∨ (scope.names.lookup y.1 = some .cell ∧ ((cellsFrom (s.heap.objs.size + 1) scope.names []).lookup y.1).isSome = true) := fun y hy => by
    rcases S.par y.1 (List.of_mem_zip hy).1 with q | q
    · exact .inl q
    · exact .inr ⟨q, PySem.W.cellsFrom_some _ _ _ (.inl q)⟩
  refine codeAny_call_function hr.depth (KX _ _ lk) rfl S.co S.gen rfl (PySem.W.codeRec_of KX hcd) (hb _ _ _ _ (wpAny_newFunctionEnv_cells S.kind where_ fun env he s1 y => ?_))
  subst he
  refine ⟨lim.keeps y.toInCall.keep, codeAny_func ?_⟩
  obtain ⟨t, ht, hq⟩ := hbody cdv A outer s H vs Q hG (hr.deeper _) hsp
  have I := inv_start (CX := XC) (E := XE0) S hr.hd e0 (len _ _ _ hsp) r y
  refine wpAny_mono (ht.run [] s1 (L2.start N vs) H _ I hq) (fun fl s' hs => ?_) fun _ _ hs => hs
  cases fl with
  | ret u =>
    obtain ⟨v, σ', H', J, rv, q⟩ := hs
    exact ⟨v, H', J.os, J.bare, J.base, J.hok, rv, q⟩
  | next =>
    obtain ⟨σ', H', J, q⟩ := hs
    exact ⟨.non, H', J.os, J.bare, J.base, J.hok, rfl, q⟩
  | brk =>
    obtain ⟨_, _, _, q⟩ := hs
    exact False.elim q
  | cont =>
    obtain ⟨_, _, _, q⟩ := hs
    exact False.elim q
end
/-- the law's call, where K holds no list -/
theorem lawG {P : Program} {w : World} {K : PySem.W.Frag} {mg mb : Str → Option Value} {k : Nat} {fa a : Addr} {fd : FuncData} {x : Str} {sp : Sp} {s₁ : Shared} {vs : List Value} {ns : List Int}
    (KX : K.In s₁.heap) (nl : ∀ a o, K.lookup a = some o → o.cls ≠ .type "list") (hns : s₁.heap.Ns mainGlobals mg) (hb : s₁.heap.Ns builtinsNs mb) (hbb : ∀ x : Str, x ≠ "__name__" → mb x = bootBuiltins x) (hlim : s₁.heap.NoLimit) (hg : s₁.gens = #[])
    (ha : s₁.heap.get? a = some { cls := .type "list", data := .seq vs.toArray }) (hi : IntsAre vs ns) (hl : ns.length ≤ sizeLine) (hr : Room k callerA)
    (F : ∀ base : Heap, K.In base → base.Ns mainGlobals mg → FnG P w K mg base k fa fd [x] sp) (hbind : ∀ (s : Shared) (u : Value), BindsTo s fd ⟨[u], []⟩ [(x, u)])
    (hsp : ∀ H : Hp, Rd H a (.lst (ns.map V.int)) → sp [.ref a] H (fun v _ => v = .bl true) XE0) :
    codeAny (model P w) callerA (.call (.ref fa) ⟨[.ref a], []⟩) (fun r s' => r = .ok (.ret (.bool true)) ∧ OldK s₁.heap s'.heap ∧ s'.os = s₁.os ∧ AllBare s'.gens) s₁ := by
  have rv := vals_ints hi
  have nk : K.lookup a = none := by
    cases q : K.lookup a with
    | none => rfl
    | some o =>
      have e := KX a o q
      rw [ha] at e
      cases e
      exact absurd rfl (nl a _ q)
  let o : Obj := { cls := .type "list", data := .seq vs.toArray }
  let H : Hp := fun b => if b = a then some (.frz o (.lst (ns.map V.int))) else none
  have Ha : H a = some (.frz o (.lst (ns.map V.int))) := if_pos rfl
  have Hn : ∀ b, b ≠ a → H b = none := fun b h => if_neg h
  have Hs : ∀ {b u}, H b = some u → b = a := fun {b u} h => by
    by_cases e : b = a
    · exact e
    · rw [Hn b e] at h; cases h
  have hok : HOk P w H s₁.heap := fun b u h => by
    have e := Hs h
    subst e
    rw [Ha] at h
    cases h
    exact ⟨ha, by rw [List.length_map]; exact hl, vs, _, rv, ha⟩
  have apart : ∀ {b : Addr} {ob : Obj} {es : Array DictEntry} {ep : Nat}, s₁.heap.get? b = some ob → ob.data = .dict es ep → H b = none := fun {b ob es ep} e d => Hn b fun z => by
    subst z
    rw [ha] at e
    cases e
    cases (show Data.seq vs.toArray _ = Data.dict es ep from d)
  have nsK : ∀ {b : Addr} {m : Str → Option Value}, s₁.heap.Ns b m → (hidT s₁.heap H).Ns b m := fun {b m} ⟨ob, es, ep, e, d, r⟩ => ⟨ob, es, ep, hidT_get e (apart e d), d, r⟩
  have hKb : K.In (hidT s₁.heap H) := fun b ob e => hidT_get (KX b ob e) (Hn b fun z => by rw [z, nk] at e; cases e)
  have hM : Mod K mg (hidT s₁.heap H) := ⟨hKb, nsK hns, ⟨mb, nsK hb, hbb⟩, let ⟨mc, h1, h2⟩ := hlim; ⟨mc, nsK h1, h2⟩⟩
  have e0 : Env0 P w K mg (hidT s₁.heap H) callerA [] s₁ H := ⟨rfl, hM, fun b o e => of_hidT e, Nat.le_of_eq (hidT_size _ _), trivial, fun b hb => absurd (show b ∈ ([] : List Addr) from hb) (by simp), hok, .of_eq hg⟩
  refine codeAny_mono ((F _ hKb (nsK hns)).run callerA [] s₁ H ⟨[.ref a], []⟩ [.ref a] [.ref a] _ rfl hr e0 (hbind s₁ (.ref a)) (.cons rfl .nil) (hsp H (.inr ⟨o, Ha⟩))) fun r s' h => ?_
  cases r with
  | error e => exact False.elim h
  | ok fl =>
    cases fl with
    | next => exact False.elim h
    | brk => exact False.elim h
    | cont => exact False.elim h
    | ret u =>
      obtain ⟨v, H', os, bare, un, hok', r', q⟩ := h
      have q' : v = .bl true := q
      subst q'
      obtain rfl : u = Value.bool true := r'
      refine ⟨rfl, OldK.of_keep fun b ob e => ?_, os, bare⟩
      by_cases eb : b = a
      · subst eb
        obtain ⟨e2, _⟩ := hok' b _ (un.frzs b o _ Ha)
        rw [ha] at e
        cases e
        exact e2
      · exact un.keep b ob e (Hn b eb) (by intro z; exact absurd (show b ∈ ([] : List Addr) from z) (by simp)) (by simp)
/-- a law behind the head -/
theorem walkG {l : PySem.W.OpenLaw} {n k : Nat} {q : Program} {loose : List Str} {XP : (Str → Option Value) → Heap → Prop} {YP : World → Heap → Prop} {d : DefRec} {x : Str}
    (hn : l.most = some n) (hn2 : n ≤ sizeLine) (hdf : d.params.defaults = []) (hr : Room k callerA)
    (F : ∀ (w : World) (mg : Str → Option Value) (fa : Addr) (h : Heap), YP w h → h.Ns mainGlobals mg → mg d.name = some (.ref fa) →
      ∃ (K : PySem.W.Frag) (fd : FuncData) (sp : Sp), K.In h ∧ (∀ a o, K.lookup a = some o → o.cls ≠ .type "list") ∧ (∀ (s : Shared) (u : Value), BindsTo s fd ⟨[u], []⟩ [(x, u)]) ∧
        (∀ (H : Hp) (a : Addr) (ns : List Int), ns.length ≤ n → Rd H a (.lst (ns.map V.int)) → sp [.ref a] H (fun v _ => v = .bl true) XE0) ∧
        ∀ base : Heap, K.In base → base.Ns mainGlobals mg → FnG l.prog w K mg base k fa fd [x] sp) :
    PySem.W.WalkO q loose XP YP l.row.toRowW d [] (fun f vs => PySem.call f vs) := by
  refine Att.attach_call hn hdf fun w s₀ s₁ mg mb fa o pm cd doc a vs ns G Y ho hd hcd hmg hobj hints hlen hg => ?_
  obtain ⟨K, fd, sp, KX, nl, hb, hsp, hF⟩ := F w mg fa _ Y G.T.g hmg
  exact lawG KX nl G.T.g G.T.b G.T.builtins G.T.nolimit hg hobj hints (Nat.le_trans hlen hn2) hr hF hb fun H h => hsp H a ns hlen h
end Ev

set_option linter.all false
set_option autoImplicit false
set_option maxRecDepth 100000
/-! Ev20: the checker of expressions. -/
namespace Ev
open PySem PySem.Spec PyProof.Rows L2
structure Ctx where
  N : List PStr
  sc : Scope
  fn : PStr → Bool
  fns : List (PStr × Nat)
  free : List PStr
  cst : List (PStr × PV)
structure Fits (C : Nat → List PV → S → Option (PV × S)) (c : Ctx) (X : Cx) : Prop where
  N : X.N = c.N
  nd : X.N.Nodup
  sc : X.env.scope = c.sc
  kind : c.sc.kind = .function
  fn : X.fn = c.fn
  calm : X.calm = true
  units : X.A.units + 64 < cLine
  calls : ∀ x i, c.fns.lookup x = some i → ∃ f fd ps k, X.mg x = some (.ref f) ∧ FnG X.prog X.w X.K X.mg X.base k f fd ps (spF X.K (C i)) ∧ Room k X.A ∧ PySem.W.keepIn X.K (.ref f) = true ∧ Binds X.K fd ps []
  free : ∀ x, x ∈ c.free → X.mg x = none
  guards : X.A.guards = some []
  cst : ∀ x v, c.cst.lookup x = some v → ∃ u val, X.mg x = some val ∧ RelV u val ∧ ∀ ρ H, RV X.K ρ H v u
def Ctx.at (c : Ctx) (i : Nat) (x : PStr) : Bool := decide (c.N[i]? = some x)
def visB (c : Ctx) (x : PStr) : Bool := match c.sc.names.lookup x with
  | some .local => true
  | some .cell => true
  | some .free => true
  | _ => false
def locB (c : Ctx) (x : PStr) : Bool := match c.sc.names.lookup x with
  | some .local => true
  | some .cell => c.fn x
  | _ => false
def glB (c : Ctx) (x : PStr) : Bool := match c.sc.names.lookup x with
  | some .globalImplicit => true
  | _ => false
def bltB (c : Ctx) (x : PStr) : Bool := glB c x && decide (x ∈ c.free)
def okName (x : PStr) : Bool := decide (¬ x = ("__debug__" : PStr)) && decide (¬ x = ("__classdict__" : PStr))
def sameC : PV → PV → Bool
  | .int i, .int j => decide (i = j)
  | .str x, .str y => decide (x = y)
  | _, _ => false
/-- a constant of the module -/
def gcB (c : Ctx) (v : PV) (e : Expr) : Bool := match asName e with
  | some x => glB c x && (okName x && (match c.cst.lookup x with
    | some u => sameC u v
    | none => false))
  | none => false
def opB : Bop → Operator → Bool
  | .add, .Add => true | .sub, .Sub => true | .mul, .Mult => true | .mod, .Mod => true | .fdiv, .FloorDiv => true | .pow, .Pow => true
  | _, _ => false
def copB : Cop → CmpOp → Bool
  | .eq, .Eq => true | .ne, .NotEq => true | .lt, .Lt => true | .le, .LtE => true | .gt, .Gt => true | .ge, .GtE => true
  | .isin, .In => true | .notin, .NotIn => true | .is, .Is => true | .isnot, .IsNot => true
  | _, _ => false
theorem opB_ok {b : Bop} {o : Operator} (h : opB b o = true) : o = opOf b := by cases b <;> cases o <;> first | rfl | cases h
theorem copB_ok {b : Cop} {o : CmpOp} (h : copB b o = true) : o = copOf b := by cases b <;> cases o <;> first | rfl | cases h
def constB : PV → Expr → Bool
  | .int i, .Constant (.int j) _ _ => decide (i = j)
  | .bl a, .Constant (.bool b) _ _ => a == b
  | .non, .Constant .none _ _ => true
  | .str x, .Constant (.str y) _ _ => decide (x = y.cps.toList)
  | _, _ => false
/-- in: the right side is no display of constants -/
def noMarks (op : CmpOp) (b : Expr) : Bool := !behindInMarks op b
def bltName : Blt → String
  | .len => "len" | .list => "list" | .tuple => "tuple" | .sorted => "sorted" | .sortedSet => "sorted" | .lenSet => "len"
  | .isTuple => "tuple" | .isInt => "int" | .isStr => "str" | .isBool => "bool" | .isList => "list"
  | .all => "all" | .any => "any" | .int => "int" | .min => "min" | .max => "max" | .repr => "repr"
def mthName : Mth → String
  | .append => "append" | .extend => "extend" | .insert => "insert" | .pop => "pop" | .index => "index" | .reverse => "reverse" | .join => "join"
mutual
def chkTg (c : Ctx) : TgE → Expr → Bool
  | .nm i, .Name x _ => c.at i x && locB c x
  | .tp l, .Tuple es _ _ => chkTgs c l es
  | _, _ => false
def chkTgs (c : Ctx) : List TgE → List Expr → Bool
  | [], [] => true
  | t :: ts, e :: es => noStar e && (chkTg c t e && chkTgs c ts es)
  | _, _ => false
end
def blkCtx (c : Ctx) (scope : Scope) : Ctx := { c with sc := relS scope c.sc, fn := fun x => scope.names.lookup x == some .cell }
mutual
def tgNames : TgE → Expr → List (PStr × Nat)
  | .nm i, .Name x _ => [(x, i)]
  | .tp l, .Tuple es _ _ => tgsNames l es
  | _, _ => []
def tgsNames : List TgE → List Expr → List (PStr × Nat)
  | t :: ts, e :: es => tgNames t e ++ tgsNames ts es
  | _, _ => []
end
def dinOp : Bool → CmpOp → Bool
  | false, .In => true
  | true, .NotIn => true
  | _, _ => false
/-- as a test: only what has no test of its own -/
def grd (t : Bool) (e : Expr) : Bool := !t || plainT e
mutual
def chkE (c : Ctx) (t : Bool) : XE → Expr → Bool
  | .c v, e => grd t e && (constB v e || gcB c v e)
  | .v i, e => grd t e && match asName e with
    | some x => c.at i x && (visB c x && okName x)
    | none => false
  | .tup es, e => grd t e && match asTup e with
    | some l => chkL c es l
    | none => false
  | .lst es, e => grd t e && match asLst e with
    | some l => chkL c es l
    | none => false
  | .bin op a b, e => grd t e && match asBin e with
    | some (x, o, y) => opB op o && (chkE c false a x && chkE c false b y)
    | none => false
  | .neg a, e => grd t e && match asUn e with
    | some (.USub, x) => chkE c false a x
    | _ => false
  | .cmp op a b, e => match asCmp e with
    | some (x, o, y) => copB op o && (noMarks o y && (chkE c false a x && chkE c false b y))
    | none => false
  | .cmp2 o1 o2 a b d, e => match asCmp2 e with
    | some (x, p1, p2, y, z) => copB o1 p1 && (copB o2 p2 && (!lastMarks [p1, p2] [y, z] && (chkE c false a x && (chkE c false b y && chkE c false d z))))
    | none => false
  | .and a b, e => match asBool e with
    | some (.And, x, y) => chkE c t a x && chkE c t b y
    | _ => false
  | .or a b, e => match asBool e with
    | some (.Or, x, y) => chkE c t a x && chkE c t b y
    | _ => false
  | .not a, e => match asUn e with
    | some (.Not, x) => chkE c t a x
    | _ => false
  | .ite tt a b, e => grd t e && match asIf e with
    | some (z, x, y) => chkE c true tt z && (chkE c false a x && chkE c false b y)
    | none => false
  | .call f es, e => grd t e && match asCall e with
    | some (x, l) => glB c x && (okName x && (decide (c.fns.lookup x = some f) && chkL c es l))
    | none => false
  | .blt f es, e => grd t e && match asCall e with
    | some (x, l) => match f, es, l with
      | .sortedSet, .cons a .nil, [y] => bltB c "sorted" && (bltB c "set" && (decide (x = ("sorted" : PStr)) && (match asCall y with
        | some (x2, [z]) => decide (x2 = ("set" : PStr)) && (noStar y && (noStar z && chkE c false a z))
        | _ => false)))
      | .lenSet, .cons a .nil, [y] => bltB c "len" && (bltB c "set" && (decide (x = ("len" : PStr)) && (match asCall y with
        | some (x2, [z]) => decide (x2 = ("set" : PStr)) && (noStar y && (noStar z && chkE c false a z))
        | _ => false)))
      | .isTuple, .cons a .nil, [y, ty] => bltB c "isinstance" && (bltB c "tuple" && (decide (x = ("isinstance" : PStr)) && (decide (asName ty = some ("tuple" : PStr)) && (noStar y && chkE c false a y))))
      | .isInt, .cons a .nil, [y, ty] => bltB c "isinstance" && (bltB c "int" && (decide (x = ("isinstance" : PStr)) && (decide (asName ty = some ("int" : PStr)) && (noStar y && chkE c false a y))))
      | .isStr, .cons a .nil, [y, ty] => bltB c "isinstance" && (bltB c "str" && (decide (x = ("isinstance" : PStr)) && (decide (asName ty = some ("str" : PStr)) && (noStar y && chkE c false a y))))
      | .isBool, .cons a .nil, [y, ty] => bltB c "isinstance" && (bltB c "bool" && (decide (x = ("isinstance" : PStr)) && (decide (asName ty = some ("bool" : PStr)) && (noStar y && chkE c false a y))))
      | .isList, .cons a .nil, [y, ty] => bltB c "isinstance" && (bltB c "list" && (decide (x = ("isinstance" : PStr)) && (decide (asName ty = some ("list" : PStr)) && (noStar y && chkE c false a y))))
      | .len, .cons a .nil, [y] => bltB c "len" && (decide (x = ("len" : PStr)) && (noStar y && chkE c false a y))
      | .list, .cons a .nil, [y] => bltB c "list" && (decide (x = ("list" : PStr)) && (noStar y && chkE c false a y))
      | .tuple, .cons a .nil, [y] => bltB c "tuple" && (decide (x = ("tuple" : PStr)) && (noStar y && chkE c false a y))
      | .sorted, .cons a .nil, [y] => bltB c "sorted" && (decide (x = ("sorted" : PStr)) && (noStar y && chkE c false a y))
      | .all, .cons a .nil, [y] => bltB c "all" && (decide (x = ("all" : PStr)) && (noStar y && chkE c false a y))
      | .any, .cons a .nil, [y] => bltB c "any" && (decide (x = ("any" : PStr)) && (noStar y && chkE c false a y))
      | .int, .cons a .nil, [y] => bltB c "int" && (decide (x = ("int" : PStr)) && (noStar y && chkE c false a y))
      | .min, .cons a .nil, [y] => bltB c "min" && (decide (x = ("min" : PStr)) && (noStar y && chkE c false a y))
      | .repr, .cons a .nil, [y] => bltB c "repr" && (decide (x = ("repr" : PStr)) && (noStar y && chkE c false a y))
      | .max, .cons a .nil, [y] => bltB c "max" && (decide (x = ("max" : PStr)) && (noStar y && chkE c false a y))
      | _, _, _ => false
    | none => false
  | .mth m o es, e => grd t e && match asMeth e with
    | some (x, n, l) => (match m with
      | .append => decide (n = ("append" : PStr))
      | .extend => decide (n = ("extend" : PStr))
      | .insert => decide (n = ("insert" : PStr))
      | .pop => decide (n = ("pop" : PStr))
      | .index => decide (n = ("index" : PStr))
      | .reverse => decide (n = ("reverse" : PStr))
      | .join => false) && (noSup x && (decide (l.length < 30) && (chkE c false o x && chkL c es l)))
    | none => false
  | .idx o i, e => grd t e && match asSub e with
    | some (x, y) => noSlice y && (chkE c false o x && chkE c false i y)
    | none => false
  | .sl o lo hi, e => grd t e && match asSlice e with
    | some (x, y, z) => chkE c false o x && (chkO c lo y && chkO c hi z)
    | none => false
  | .rev o, e => grd t e && (match asRev e with
    | some x => chkE c false o x
    | none => false)
  | .lc a tg it ifs, e => grd t e && match e with
    | .ListComp elt [⟨tge, iter, ifl, 0⟩] scope _ => blkC c.N c.sc scope (tgNames tg tge) && (decide ((tgNames tg tge).map (·.2) = tg.slots) && (noSet iter && (chkI c it tge iter &&
        (chkTg (blkCtx c scope) tg tge && (chkTs (blkCtx c scope) ifs ifl && chkE (blkCtx c scope) false a elt)))))
    | _ => false
  | .lc2 a tg it tg2 it2, e => grd t e && match e with
    | .ListComp elt [⟨tge, iter, [], 0⟩, ⟨tge2, iter2, [], 0⟩] scope _ => blkC c.N c.sc scope (tgNames tg tge ++ tgNames tg2 tge2) && (decide ((tgNames tg tge ++ tgNames tg2 tge2).map (·.2) = tg.slots ++ tg2.slots) && (noSet iter && (noSet iter2 && (chkI c it tge iter &&
        (chkTg (blkCtx c scope) tg tge && (chkI (blkCtx c scope) it2 tge2 iter2 && (chkTg (blkCtx c scope) tg2 tge2 && chkE (blkCtx c scope) false a elt)))))))
    | _ => false
  | .dnew _, e => grd t e && (match e with
    | .Dict [] [] _ => true
    | _ => false)
  | .dget o i, e => grd t e && (match asSub e with
    | some (x, y) => noSlice y && (chkE c false o x && chkE c false i y)
    | none => false)
  | .din neg k o, e => match asCmp e with
    | some (x, op, y) => dinOp neg op && (noMarks op y && (chkE c false k x && chkE c false o y))
    | none => false
  | .dgetD o k d, e => grd t e && (match asMeth e with
    | some (x, n, [y, z]) => decide (n = ("get" : PStr)) && (noSup x && (noStar y && (noStar z && (chkE c false o x && (chkE c false k y && chkE c false d z)))))
    | _ => false)
  | .dsetd o k d, e => grd t e && (match asMeth e with
    | some (x, n, [y, z]) => decide (n = ("setdefault" : PStr)) && (noSup x && (noStar y && (noStar z && (chkE c false o x && (chkE c false k y && chkE c false d z)))))
    | _ => false)
def chkL (c : Ctx) : XL → List Expr → Bool
  | .nil, [] => true
  | .cons a r, e :: es => noStar e && (chkE c false a e && chkL c r es)
  | _, _ => false
def chkO (c : Ctx) : XO → Option Expr → Bool
  | .none, none => true
  | .some a, some e => chkE c false a e
  | _, _ => false
def chkTs (c : Ctx) : XO → List Expr → Bool
  | .none, [] => true
  | .some a, [e] => chkE c true a e
  | _, _ => false
def chkI (c : Ctx) : XI → Expr → Expr → Bool
  | .seq a, _, e => chkE c false a e
  | .rng a, _, e => match asCall e with
    | some (x, [y]) => bltB c "range" && (decide (x = ("range" : PStr)) && (noStar y && chkE c false a y))
    | _ => false
  | .rng2 a b, _, e => match asCall e with
    | some (x, [y, z]) => bltB c "range" && (decide (x = ("range" : PStr)) && (noStar y && (noStar z && (chkE c false a y && chkE c false b z))))
    | _ => false
  | .enum a, t, e => (asTup t).isSome && (match asCall e with
    | some (x, [y]) => bltB c "enumerate" && (decide (x = ("enumerate" : PStr)) && (noStar y && chkE c false a y))
    | _ => false)
  | .zip a b, t, e => (asTup t).isSome && (match asCall e with
    | some (x, [y, z]) => bltB c "zip" && (decide (x = ("zip" : PStr)) && (noStar y && (noStar z && (chkE c false a y && chkE c false b z))))
    | _ => false)
end
example (c : Ctx) : chkE c false (.c .non) (.Constant .none 0 ⟨1,1,1,1⟩) = true := rfl
end Ev

set_option linter.all false
set_option autoImplicit false
set_option maxRecDepth 100000
set_option maxHeartbeats 4000000
/-! Ev21: what the checker of expressions lets pass is right. -/
namespace Ev
open PySem PySem.Spec PyProof.Rows L2
section
variable {C : Nat → List PV → S → Option (PV × S)} {c : Ctx} {X : Cx} {e : Expr}
theorem dec {p : Prop} [Decidable p] (h : decide p = true) : p := of_decide_eq_true h
theorem and2 {a b : Bool} (h : (a && b) = true) : a = true ∧ b = true := Bool.and_eq_true_iff.mp h
theorem Fits.at (F : Fits C c X) {i : Nat} {x : PStr} (h : c.at i x = true) : X.N[i]? = some x := by
  rw [F.N]; exact dec h
theorem Fits.vis (F : Fits C c X) {x : PStr} (h : visB c x = true) : Vis X.env.scope x := by
  rw [F.sc]
  unfold visB at h
  split at h
  · exact .inl (by assumption)
  · exact .inr (.inl (by assumption))
  · exact .inr (.inr (by assumption))
  · cases h
theorem Fits.loc (F : Fits C c X) {x : PStr} (h : locB c x = true) : Loc X.env.scope x ∧ (X.fn x = true ∨ X.env.scope.names.lookup x = some .local) := by
  rw [F.sc, F.fn]
  unfold locB at h
  split at h
  · exact ⟨.inl (by assumption), .inr (by assumption)⟩
  · exact ⟨.inr (by assumption), .inl h⟩
  · cases h
theorem Fits.gl (F : Fits C c X) {x : PStr} (h : glB c x = true) : Gl X x := by
  show X.env.scope.names.lookup x = _
  rw [F.sc]
  unfold glB at h
  split at h
  · assumption
  · cases h
theorem Fits.blt (F : Fits C c X) {x : PStr} (h : bltB c x = true) : Gl X x ∧ X.mg x = none := by
  obtain ⟨a, b⟩ := and2 h
  exact ⟨F.gl a, F.free x (dec b)⟩
theorem okName_ok {x : PStr} (h : okName x = true) : (x == ("__debug__" : PStr)) = false ∧ (x == ("__classdict__" : PStr)) = false := by
  obtain ⟨a, b⟩ := and2 h
  exact ⟨beq_eq_false_iff_ne.mpr (dec a), beq_eq_false_iff_ne.mpr (dec b)⟩
theorem const_ok {v : PV} (h : constB v e = true) : PE X e (tEx X.K C (.c v)) := by
  unfold constB at h
  split at h
  · have := dec h
    subst this
    exact PE.imp pe_int fun σ H Q => w_c fun _ _ => rv_int' _
  · have := beq_iff_eq.mp h
    subst this
    exact PE.imp pe_bl fun σ H Q => w_c fun _ _ => rv_bl' _
  · exact PE.imp pe_non fun σ H Q => w_c fun _ _ => rv_non'
  · rename_i y _ _
    have := dec h
    subst this
    obtain ⟨⟨y⟩⟩ := y
    exact PE.imp pe_str fun σ H Q => w_c fun _ _ => rv_str' _
  · cases h
/-- as a value, as a test -/
abbrev Both (C : Nat → List PV → S → Option (PV × S)) (c : Ctx) (X : Cx) (x : XE) (e : Expr) : Prop :=
  (chkE c false x e = true → PE X e (tEx X.K C x)) ∧ (chkE c true x e = true → PT X e (tTx X.K C x))
theorem both {f : Env → S → Option (PV × S)} {F : Bool} (h : F = true → PE X e (tE X.K f)) : ((grd false e && F) = true → PE X e (tE X.K f)) ∧ ((grd true e && F) = true → PT X e (tT X.K f)) := by
  refine ⟨fun g => h (and2 g).2, fun g => ?_⟩
  obtain ⟨g1, g2⟩ := and2 g
  have p : plainT e = true := by
    unfold grd at g1
    exact g1
  exact PT.imp (pt_val (h g2) (plainT_ok p)) fun σ H Q => tT_B
theorem tTest_of {f : Env → S → Option (PV × S)} {K : PySem.W.Frag} {σ : L2.St} {H : Hp} {Q : Bool → Hp → Prop} (h : tT K f σ H Q) : tE K f σ H fun x H' => ∃ k, x = .bl k ∧ Q k H' := tT_B h
theorem Fits.block (F : Fits C c X) {scope : Scope} (hk : scope.kind = .function) (s : Shared) (H : Hp) (A : Addr) (cl : List (Str × Addr)) (fp : List Addr) : Fits C (blkCtx c scope) (X.blk s H scope (compEnvC scope cl A X.env) fp) where
  N := F.N
  nd := F.nd
  sc := by
    show relS scope X.env.scope = relS scope c.sc
    rw [F.sc]
  kind := hk
  fn := rfl
  calm := F.calm
  units := F.units
  calls := F.calls
  free := F.free
  guards := F.guards
  cst := F.cst
mutual
theorem okTg (F : Fits C c X) : ∀ (tg : TgE) (e : Expr), chkTg c tg e = true → PG X e (gV X.K tg)
  | .nm i, e, h => by
    cases e with
    | Name x p =>
      unfold chkTg at h
      obtain ⟨h1, h2⟩ := and2 h
      obtain ⟨l1, l2⟩ := F.loc h2
      exact ⟨fun pins s σ H v u Q I r q => (pg_name F.nd (F.at h1) l1 l2).run pins s σ H v u Q I r (g_nm q)⟩
    | _ => unfold chkTg at h; cases h
  | .tp l, e, h => by
    cases e with
    | Tuple es k p =>
      unfold chkTg at h
      obtain ⟨g1, g2, g3, g4⟩ := okTgs F l es h
      exact ⟨fun pins s σ H v u Q I r q => (pg_tup F.calm g1 (n := l.length) g2 g3).run pins s σ H v u Q I r (g_tp rfl q)⟩
    | _ => unfold chkTg at h; cases h
theorem okTgs (F : Fits C c X) : ∀ (l : List TgE) (es : List Expr), chkTgs c l es = true → PGs X es (gVs X.K l) ∧ (assignEach es X.env).length = l.length ∧ (assignEach es X.env).findIdx? (·.1) = none ∧ es.all noStar = true
  | [], es, h => by
    cases es with
    | nil => exact ⟨⟨fun pins s σ H v u Q I r q => pgs_nil.run pins s σ H v u Q I r (g_nil q)⟩, rfl, rfl, rfl⟩
    | cons _ _ => unfold chkTgs at h; cases h
  | t :: ts, es, h => by
    cases es with
    | nil => unfold chkTgs at h; cases h
    | cons e es =>
      unfold chkTgs at h
      obtain ⟨h0, h1⟩ := and2 h
      obtain ⟨h1, h2⟩ := and2 h1
      have a := okTg F t e h1
      obtain ⟨b1, b2, b3, b4⟩ := okTgs F ts es h2
      have st : assignEach (e :: es) X.env = (false, assign e X.env) :: assignEach es X.env := by
        cases e <;> first | rfl | cases h0
      refine ⟨⟨fun pins s σ H v u Q I r q => (pgs_cons a b1 (by rw [st] <;> rfl)).run pins s σ H v u Q I r (g_cons q)⟩, ?_, ?_, ?_⟩
      · rw [st, List.length_cons, List.length_cons, b2]
      · rw [st, List.findIdx?_cons, b3] <;> rfl
      · rw [List.all_cons, h0, b4] <;> rfl
end
theorem wOf {op : BoolOp} {a b : Expr} {r : List Expr} {p : Pos} {t : TT} (h : PT X (.BoolOp op (a :: b :: r) p) t) : PW X (.BoolOp op (a :: b :: r) p) t := by
  refine ⟨fun wh pins s σ H Q I q => ?_⟩
  exact h.run pins s σ H Q I q

theorem w_callG {K : PySem.W.Frag} {σ : L2.St} {H : Hp} {Q : VK} {f : Nat} {es : XL} (h : tEx K C (.call f es) σ H Q) : tCallG (spF K (C f)) (tA K (evL C es)) σ H Q := by
  have z : tCB (rN K (C f)) (tA K (evL C es)) σ H Q := by
    refine tA_op ?_
    obtain ⟨B, ρ, e, s, R, rs, w, s', h, k⟩ := h
    unfold evE at h
    exact ⟨B, ρ, e, s, R, rs, w, s', h, k⟩
  exact z
theorem PAone {f : TE} {y : Expr} (h : PE X y f) (hs : noStar y = true) : PA X [y] (tCons f tNil) := pa_cons h pa_nil (star_ok hs [])
/-- f(y), f a built-in function, a type -/
theorem b1 {f : Blt} {id : String} {x : PStr} {y : Expr} {a : XE} {p q : Pos} (hc : CallR X (.builtin id) (rB X.K f)) (hg : Gl X x ∧ X.mg x = none) (hv : bootBuiltins x = some (.builtin id)) (hn : x ≠ "__name__") (hd : (x == ("__debug__" : Str)) = false)
    (hy : PE X y (tEx X.K C a)) (hs : noStar y = true) : PE X (.Call (.Name x p) [y] [] q) (tEx X.K C (.blt f (.cons a .nil))) :=
  PE.imp (pe_callB hc hg.1 hg.2 hv (pa_cons hy pa_nil (star_ok hs [])) hn hd (star_ok hs []) rfl) fun σ H Q h => by
    obtain ⟨B, ρ, e, s, R, rs, v, s', h, k⟩ := w_blt h
    obtain ⟨B, ρ, e, s, R, rs, v, s', h, k⟩ := w_cons _ ⟨B, ρ, e, s, R, rs, v, s', h, k⟩
    exact ⟨B, ρ, e, s, R, rs, v, s', h, fun ρ' H' u R' G r => w_nil _ (k ρ' H' u R' G r)⟩
theorem t1 {f : Blt} {id : String} {x : PStr} {y : Expr} {a : XE} {p q : Pos} (hc : CallR X (.type id) (rB X.K f)) (hg : Gl X x ∧ X.mg x = none) (hv : bootBuiltins x = some (.type id)) (hn : x ≠ "__name__") (hd : (x == ("__debug__" : Str)) = false)
    (hy : PE X y (tEx X.K C a)) (hs : noStar y = true) : PE X (.Call (.Name x p) [y] [] q) (tEx X.K C (.blt f (.cons a .nil))) :=
  PE.imp (pe_callTy hc hg.1 hg.2 hv (pa_cons hy pa_nil (star_ok hs [])) hn hd (star_ok hs []) rfl) fun σ H Q h => by
    obtain ⟨B, ρ, e, s, R, rs, v, s', h, k⟩ := w_blt h
    obtain ⟨B, ρ, e, s, R, rs, v, s', h, k⟩ := w_cons _ ⟨B, ρ, e, s, R, rs, v, s', h, k⟩
    exact ⟨B, ρ, e, s, R, rs, v, s', h, fun ρ' H' u R' G r => w_nil _ (k ρ' H' u R' G r)⟩
theorem i1 {f : Blt} {ks : List Nat} {T : String} {xt : PStr} {y : Expr} {a : XE} {p p2 q : Pos} (hf : blt f = bIs ks) (hk : ∀ n, n ≤ 5 → kitB (kindTy n) T = some (ks.contains n)) (hg : Gl X "isinstance" ∧ X.mg "isinstance" = none)
    (ht : Gl X xt ∧ X.mg xt = none) (hv : bootBuiltins xt = some (.type T)) (hn : xt ≠ "__name__") (hd : (xt == ("__debug__" : Str)) = false)
    (hy : PE X y (tEx X.K C a)) (hs : noStar y = true) : PE X (.Call (.Name "isinstance" p) [y, .Name xt p2] [] q) (tEx X.K C (.blt f (.cons a .nil))) :=
  PE.imp (pe_callB (cb_is hk) hg.1 hg.2 PyProof.Rows.boot_isinstance (pa_cons hy (pa_cons (pe_bltn (v := V.ty T) ht.1 ht.2 hv rfl hn hd) pa_nil) (star_ok hs _)) (by decide) (by decide) (star_ok hs _) rfl) fun σ H Q h => w_is hf h
/-- sorted(set(y)), len(set(y)) -/
theorem set1 {y : Expr} {a : XE} {p q : Pos} (F : Fits C c X) (ht : Gl X "set" ∧ X.mg "set" = none) (hy : PE X y (tEx X.K C a)) (hs : noStar y = true) :
    PE X (.Call (.Name "set" p) [y] [] q) (tCB (rSetM X.K X.w) (tCons (tEx X.K C a) tNil)) :=
  pe_callTy (cb_setM F.calm F.units) ht.1 ht.2 PyProof.Rows.boot_set (pa_cons hy pa_nil (star_ok hs [])) (by decide) (by decide) (star_ok hs []) rfl
theorem m1 {m : Mth} {n : PStr} {id : String} {o : Expr} {xo : XE} {es : XL} {l : List Expr} {p q : Pos} (slot : Slot "list" n id) (hty : typeOf (.builtin id) = pure (.type "method_descriptor")) (hm : MtR X id (rM X.K m)) (hj : m ≠ .join)
    (ho : PE X o (tEx X.K C xo)) (hb : noSup o = true) (hl : (p.endLine == q.line) = true) (h30 : decide (l.length < 30) = true) (hns : l.all noStar = true) (ha : PA X l (tA X.K (evL C es))) (hnil : l = [] → es = .nil) :
    PE X (.Call (.Attribute o n p) l [] q) (tEx X.K C (.mth m xo es)) := by
  cases l with
  | nil =>
    cases hnil rfl
    exact PE.imp (pe_bm0 PySem.F.plainAttrs_list slot hty hm ho (base_ok hb n) hl) fun σ H Q h => w_mth0 hj h
  | cons e es' =>
    have h2 := hns
    rw [List.all_cons, Bool.and_eq_true] at h2
    exact PE.imp (pe_bm PySem.F.plainAttrs_list slot hty hm ho ha (base_ok hb n) (few_ok q hns h30) hl (star_ok h2.1 es') (plain_ok q h2.2)) fun σ H Q h => w_mth hj h
theorem Fits.unit1 (F : Fits C c X) : X.A.units + 1 < cLine := by have := F.units; omega
theorem m2_ok {o e f : Expr} {n : PStr} {p q : Pos} (h1 : noSup o = true) (h2 : noStar e = true) (h3 : noStar f = true) (hl : (p.endLine == q.line) = true) : M2 X o n p e f q := by
  have s1 := star_ok (X := X) h2 [f]
  have s2 := star_ok (X := X) h3 []
  refine ⟨base_ok h1 n, few_ok (X := X) q (es := [e, f]) (by rw [List.all_cons, List.all_cons, h2, h3] <;> rfl) (by rfl), hl, ?_⟩
  rw [s1, s2] <;> rfl
theorem PTs_none {ifs : List Expr} (h : chkTs c .none ifs = true) : PTs X ifs (tTs X.K (evT C .none)) := by
  cases ifs with
  | nil => exact ⟨fun pins s σ H Q I q => pts_nil.run pins s σ H Q I (x_none q)⟩
  | cons _ _ => unfold chkTs at h; cases h
theorem notB {a : Bool} (h : (!a) = true) : a = false := by cases a <;> first | rfl | cases h
theorem blkKind {N : List Str} {sc scope : Scope} {own : List (Str × Nat)} (h : blkC N sc scope own = true) : scope.kind = .function := (blkOk_by h).kind
mutual
theorem okE : ∀ (x : XE) (c : Ctx) (X : Cx) (e : Expr), Fits C c X → Both C c X x e
  | .c v, c, X, e, F => by
    unfold Both chkE
    refine both fun h => ?_
    rcases Bool.or_eq_true_iff.mp h with hk | hk
    · exact const_ok hk
    · clear h
      unfold gcB at hk
      split at hk
      · rename_i x q
        obtain ⟨p, rfl⟩ := asName_ok q
        obtain ⟨h1, h2⟩ := and2 hk
        replace h2 := and2 h2; obtain ⟨h2, h3⟩ := h2
        split at h3
        · rename_i u q2
          have eu : u = v := by
            unfold sameC at h3
            split at h3
            · rw [dec h3]
            · rw [dec h3]
            · cases h3
          subst eu
          obtain ⟨y, val, m1, m2, m3⟩ := F.cst x _ q2
          exact PE.imp (pe_glob (F.gl h1) m1 m2 (okName_ok h2).1) fun σ H Q => w_c m3
        · cases h3
      · cases hk
  | .v i, c, X, e, F => by
    unfold Both chkE
    refine both fun h => ?_
    split at h
    · rename_i x q
      obtain ⟨p, rfl⟩ := asName_ok q
      obtain ⟨h1, h2⟩ := and2 h
      replace h2 := and2 h2; obtain ⟨h2, h3⟩ := h2
      obtain ⟨h4, h5⟩ := okName_ok h3
      exact PE.imp (pe_var (F.at h1) (F.vis h2) h4 h5) fun σ H Q => w_v
    · cases h
  | .tup es, c, X, e, F => by
    unfold Both chkE
    refine both fun h => ?_
    split at h
    · rename_i l q
      obtain ⟨k, p, rfl⟩ := asTup_ok q
      exact PE.imp (pe_tup (okL es c X l F h).2.1) fun σ H Q => w_tup
    · cases h
  | .lst es, c, X, e, F => by
    unfold Both chkE
    refine both fun h => ?_
    split at h
    · rename_i l q
      obtain ⟨p, rfl⟩ := asLst_ok q
      exact PE.imp (pe_lst (okL es c X l F h).2.1) fun σ H Q => w_lst
    · cases h
  | .bin op a b, c, X, e, F => by
    unfold Both chkE
    refine both fun h => ?_
    split at h
    · rename_i x o y q
      obtain ⟨p, rfl⟩ := asBin_ok q
      obtain ⟨h1, h2⟩ := and2 h
      replace h2 := and2 h2; obtain ⟨h2, h3⟩ := h2
      rw [opB_ok h1]
      exact PE.imp (pe_op (or_bop op) ((okE a c X x F).1 h2) ((okE b c X y F).1 h3)) fun σ H Q => w_bin
    · cases h
  | .neg a, c, X, e, F => by
    unfold Both chkE
    refine both fun h => ?_
    split at h
    · rename_i x q
      obtain ⟨p, rfl⟩ := asUn_ok q
      exact PE.imp (pe_un un_neg ((okE a c X x F).1 h)) fun σ H Q => w_neg
    · cases h
  | .cmp op a b, c, X, e, F => by
    unfold Both chkE
    constructor
    · intro h
      split at h
      · rename_i x o y q
        obtain ⟨p, rfl⟩ := asCmp_ok q
        obtain ⟨h1, h2⟩ := and2 h
        obtain ⟨h0, h2⟩ := and2 h2
        replace h2 := and2 h2; obtain ⟨h2, h3⟩ := h2
        rw [copB_ok h1] at h0 ⊢
        exact PE.imp (pe_cmpR (oc_cop F.units op) ((okE a c X x F).1 h2) ((okE b c X y F).1 h3) (notB h0)) fun σ H Q => w_cmp
      · cases h
    · intro h
      split at h
      · rename_i x o y q
        obtain ⟨p, rfl⟩ := asCmp_ok q
        obtain ⟨h1, h2⟩ := and2 h
        obtain ⟨h0, h2⟩ := and2 h2
        replace h2 := and2 h2; obtain ⟨h2, h3⟩ := h2
        rw [copB_ok h1] at h0 ⊢
        exact PT.imp (pt_cmpR (oc_cop F.units op) ((okE a c X x F).1 h2) ((okE b c X y F).1 h3) (notB h0)) fun σ H Q h => w_cmp (tTest_of h)
      · cases h
  | .cmp2 o1 o2 a b d, c, X, e, F => by
    unfold Both chkE
    constructor
    · intro h
      split at h
      · rename_i x p1 p2 y z q
        obtain ⟨p, rfl⟩ := asCmp2_ok q
        obtain ⟨h1, h2⟩ := and2 h
        obtain ⟨h0, h2⟩ := and2 h2
        obtain ⟨h9, h2⟩ := and2 h2
        replace h2 := and2 h2; obtain ⟨h2, h3⟩ := h2
        replace h3 := and2 h3; obtain ⟨h3, h4⟩ := h3
        rw [copB_ok h1, copB_ok h0] at h9 ⊢
        exact PE.imp (pe_chain (oc_cop F.units o1) (oc_cop F.units o2) ((okE a c X x F).1 h2) ((okE b c X y F).1 h3) ((okE d c X z F).1 h4) (notB h9)) fun σ H Q => w_cmp2
      · cases h
    · intro h
      split at h
      · rename_i x p1 p2 y z q
        obtain ⟨p, rfl⟩ := asCmp2_ok q
        obtain ⟨h1, h2⟩ := and2 h
        obtain ⟨h0, h2⟩ := and2 h2
        obtain ⟨h9, h2⟩ := and2 h2
        replace h2 := and2 h2; obtain ⟨h2, h3⟩ := h2
        replace h3 := and2 h3; obtain ⟨h3, h4⟩ := h3
        rw [copB_ok h1, copB_ok h0] at h9 ⊢
        exact PT.imp (pt_chain (oc_cop F.units o1) (oc_cop F.units o2) ((okE a c X x F).1 h2) ((okE b c X y F).1 h3) ((okE d c X z F).1 h4) (notB h9)) fun σ H Q h => w_cmp2 (tTest_of h)
      · cases h
  | .and a b, c, X, e, F => by
    unfold Both chkE
    constructor
    · intro h
      split at h
      · rename_i x y q
        obtain ⟨h1, h2⟩ := and2 h
        obtain ⟨p, q | ⟨u, v, r, q, q2⟩⟩ := asBool_ok q
        · subst q
          exact PE.imp (pe_and ((okE a c X x F).1 h1) (pe_one ((okE b c X y F).1 h2))) fun σ H Q => w_and
        · subst q
          subst q2
          exact PE.imp (pe_and ((okE a c X x F).1 h1) ((okE b c X _ F).1 h2)) fun σ H Q => w_and
      · cases h
    · intro h
      split at h
      · rename_i x y q
        obtain ⟨h1, h2⟩ := and2 h
        obtain ⟨p, q | ⟨u, v, r, q, q2⟩⟩ := asBool_ok q
        · subst q
          exact PT.imp (PW.pt (pw_and ((okE a c X x F).2 h1) (pw_and1 ((okE b c X y F).2 h2)))) fun σ H Q => x_and
        · subst q
          subst q2
          exact PT.imp (PW.pt (pw_and ((okE a c X x F).2 h1) (wOf ((okE b c X _ F).2 h2)))) fun σ H Q => x_and
      · cases h
  | .or a b, c, X, e, F => by
    unfold Both chkE
    constructor
    · intro h
      split at h
      · rename_i x y q
        obtain ⟨h1, h2⟩ := and2 h
        obtain ⟨p, q | ⟨u, v, r, q, q2⟩⟩ := asBool_ok q
        · subst q
          exact PE.imp (pe_or ((okE a c X x F).1 h1) (pe_one ((okE b c X y F).1 h2))) fun σ H Q => w_or
        · subst q
          subst q2
          exact PE.imp (pe_or ((okE a c X x F).1 h1) ((okE b c X _ F).1 h2)) fun σ H Q => w_or
      · cases h
    · intro h
      split at h
      · rename_i x y q
        obtain ⟨h1, h2⟩ := and2 h
        obtain ⟨p, q | ⟨u, v, r, q, q2⟩⟩ := asBool_ok q
        · subst q
          exact PT.imp (PW.pt (pw_or ((okE a c X x F).2 h1) (pw_or1 ((okE b c X y F).2 h2)))) fun σ H Q => x_or
        · subst q
          subst q2
          exact PT.imp (PW.pt (pw_or ((okE a c X x F).2 h1) (wOf ((okE b c X _ F).2 h2)))) fun σ H Q => x_or
      · cases h
  | .not a, c, X, e, F => by
    unfold Both chkE
    constructor
    · intro h
      split at h
      · rename_i x q
        obtain ⟨p, rfl⟩ := asUn_ok q
        exact PE.imp (pe_not ((okE a c X x F).1 h)) fun σ H Q => w_not
      · cases h
    · intro h
      split at h
      · rename_i x q
        obtain ⟨p, rfl⟩ := asUn_ok q
        exact PT.imp (pt_not ((okE a c X x F).2 h)) fun σ H Q => x_not
      · cases h
  | .ite t a b, c, X, e, F => by
    unfold Both chkE
    refine both fun h => ?_
    split at h
    · rename_i z x y q
      obtain ⟨p, rfl⟩ := asIf_ok q
      obtain ⟨h1, h2⟩ := and2 h
      replace h2 := and2 h2; obtain ⟨h2, h3⟩ := h2
      exact PE.imp (pe_ifExp ((okE t c X z F).2 h1) ((okE a c X x F).1 h2) ((okE b c X y F).1 h3)) fun σ H Q => w_ite
    · cases h
  | .call f es, c, X, e, F => by
    unfold Both chkE
    refine both fun h => ?_
    split at h
    · rename_i x l q
      obtain ⟨p, p2, rfl⟩ := asCall_ok q
      obtain ⟨h1, h2⟩ := and2 h
      replace h2 := and2 h2; obtain ⟨h2, h3⟩ := h2
      replace h3 := and2 h3; obtain ⟨h3, h4⟩ := h3
      obtain ⟨g, fd, ps, k, a1, a2, a3, a4, a5⟩ := F.calls x f (dec h3)
      obtain ⟨s1, s2, s3⟩ := okL es c X l F h4
      cases l with
      | nil =>
        cases s3 rfl
        refine PE.imp (pe_callG0 a2 F.guards a3 (F.gl h1) a1 a4 a5 (okName_ok h2).1) fun σ H Q h => ?_
        obtain ⟨B, ρ, e, s, R, rs, v, s', h, k⟩ := w_callG h
        exact w_nil _ ⟨B, ρ, e, s, R, rs, v, s', h, k⟩
      | cons e es' =>
        have s4 := s1
        rw [List.all_cons, Bool.and_eq_true] at s4
        exact PE.imp (pe_callG a2 F.guards a3 (F.gl h1) a1 a4 a5 s2 (okName_ok h2).1 (star_ok s4.1 es') (plain_ok _ s4.2)) fun σ H Q h => w_callG h
    · cases h
  | .blt f es, c, X, e, F => by
    unfold Both chkE
    refine both fun h => ?_
    split at h
    · rename_i x l q
      obtain ⟨p, p2, rfl⟩ := asCall_ok q
      split at h
      · rename_i a y
        replace h := and2 h; obtain ⟨h1, h⟩ := h
        replace h := and2 h; obtain ⟨h2, h⟩ := h
        replace h := and2 h; obtain ⟨h3, h⟩ := h
        cases dec h3
        split at h
        · rename_i x2 z q2
          replace h := and2 h; obtain ⟨h4, h⟩ := h
          replace h := and2 h; obtain ⟨h5, h⟩ := h
          replace h := and2 h; obtain ⟨h6, h⟩ := h
          cases dec h4
          obtain ⟨p3, p4, rfl⟩ := asCall_ok q2
          exact PE.imp (pe_callB (cb_sortM F.calm F.units) (F.blt h1).1 (F.blt h1).2 PyProof.Rows.boot_sorted (pa_cons (set1 F (F.blt h2) ((okE a c X z F).1 h) h6) pa_nil rfl) (by decide) (by decide) rfl rfl) fun σ H Q h => w_sortedSet h
        · cases h
      · rename_i a y
        replace h := and2 h; obtain ⟨h1, h⟩ := h
        replace h := and2 h; obtain ⟨h2, h⟩ := h
        replace h := and2 h; obtain ⟨h3, h⟩ := h
        cases dec h3
        split at h
        · rename_i x2 z q2
          replace h := and2 h; obtain ⟨h4, h⟩ := h
          replace h := and2 h; obtain ⟨h5, h⟩ := h
          replace h := and2 h; obtain ⟨h6, h⟩ := h
          cases dec h4
          obtain ⟨p3, p4, rfl⟩ := asCall_ok q2
          exact PE.imp (pe_callB cb_lenM (F.blt h1).1 (F.blt h1).2 PySem.boot_len (pa_cons (set1 F (F.blt h2) ((okE a c X z F).1 h) h6) pa_nil rfl) (by decide) (by decide) rfl rfl) fun σ H Q h => w_lenSet h
        · cases h
      · rename_i a y ty
        replace h := and2 h; obtain ⟨h1, h⟩ := h
        replace h := and2 h; obtain ⟨h2, h⟩ := h
        replace h := and2 h; obtain ⟨h3, h⟩ := h
        replace h := and2 h; obtain ⟨h4, h⟩ := h
        replace h := and2 h; obtain ⟨h5, h⟩ := h
        cases dec h3
        obtain ⟨p3, rfl⟩ := asName_ok (dec h4)
        exact i1 rfl is_tuple (F.blt h1) (F.blt h2) PyProof.Rows.boot_tuple (by decide) (by decide) ((okE a c X y F).1 h) h5
      · rename_i a y ty
        replace h := and2 h; obtain ⟨h1, h⟩ := h
        replace h := and2 h; obtain ⟨h2, h⟩ := h
        replace h := and2 h; obtain ⟨h3, h⟩ := h
        replace h := and2 h; obtain ⟨h4, h⟩ := h
        replace h := and2 h; obtain ⟨h5, h⟩ := h
        cases dec h3
        obtain ⟨p3, rfl⟩ := asName_ok (dec h4)
        exact i1 rfl is_int (F.blt h1) (F.blt h2) PyProof.Rows.boot_int (by decide) (by decide) ((okE a c X y F).1 h) h5
      · rename_i a y ty
        replace h := and2 h; obtain ⟨h1, h⟩ := h
        replace h := and2 h; obtain ⟨h2, h⟩ := h
        replace h := and2 h; obtain ⟨h3, h⟩ := h
        replace h := and2 h; obtain ⟨h4, h⟩ := h
        replace h := and2 h; obtain ⟨h5, h⟩ := h
        cases dec h3
        obtain ⟨p3, rfl⟩ := asName_ok (dec h4)
        exact i1 rfl is_str (F.blt h1) (F.blt h2) PyProof.Rows.boot_str (by decide) (by decide) ((okE a c X y F).1 h) h5
      · rename_i a y ty
        replace h := and2 h; obtain ⟨h1, h⟩ := h
        replace h := and2 h; obtain ⟨h2, h⟩ := h
        replace h := and2 h; obtain ⟨h3, h⟩ := h
        replace h := and2 h; obtain ⟨h4, h⟩ := h
        replace h := and2 h; obtain ⟨h5, h⟩ := h
        cases dec h3
        obtain ⟨p3, rfl⟩ := asName_ok (dec h4)
        exact i1 rfl is_bool (F.blt h1) (F.blt h2) PyProof.Rows.boot_bool (by decide) (by decide) ((okE a c X y F).1 h) h5
      · rename_i a y ty
        replace h := and2 h; obtain ⟨h1, h⟩ := h
        replace h := and2 h; obtain ⟨h2, h⟩ := h
        replace h := and2 h; obtain ⟨h3, h⟩ := h
        replace h := and2 h; obtain ⟨h4, h⟩ := h
        replace h := and2 h; obtain ⟨h5, h⟩ := h
        cases dec h3
        obtain ⟨p3, rfl⟩ := asName_ok (dec h4)
        exact i1 rfl is_list (F.blt h1) (F.blt h2) PyProof.Rows.boot_list (by decide) (by decide) ((okE a c X y F).1 h) h5
      · rename_i a y
        replace h := and2 h; obtain ⟨h1, h⟩ := h
        replace h := and2 h; obtain ⟨h2, h⟩ := h
        replace h := and2 h; obtain ⟨h3, h⟩ := h
        cases dec h2
        exact b1 cb_len (F.blt h1) PySem.boot_len (by decide) (by decide) ((okE a c X y F).1 h) h3
      · rename_i a y
        replace h := and2 h; obtain ⟨h1, h⟩ := h
        replace h := and2 h; obtain ⟨h2, h⟩ := h
        replace h := and2 h; obtain ⟨h3, h⟩ := h
        cases dec h2
        exact t1 cb_list (F.blt h1) PyProof.Rows.boot_list (by decide) (by decide) ((okE a c X y F).1 h) h3
      · rename_i a y
        replace h := and2 h; obtain ⟨h1, h⟩ := h
        replace h := and2 h; obtain ⟨h2, h⟩ := h
        replace h := and2 h; obtain ⟨h3, h⟩ := h
        cases dec h2
        exact t1 cb_tuple (F.blt h1) PyProof.Rows.boot_tuple (by decide) (by decide) ((okE a c X y F).1 h) h3
      · rename_i a y
        replace h := and2 h; obtain ⟨h1, h⟩ := h
        replace h := and2 h; obtain ⟨h2, h⟩ := h
        replace h := and2 h; obtain ⟨h3, h⟩ := h
        cases dec h2
        exact b1 (cb_sorted F.units) (F.blt h1) PyProof.Rows.boot_sorted (by decide) (by decide) ((okE a c X y F).1 h) h3
      · rename_i a y
        replace h := and2 h; obtain ⟨h1, h⟩ := h
        replace h := and2 h; obtain ⟨h2, h⟩ := h
        replace h := and2 h; obtain ⟨h3, h⟩ := h
        cases dec h2
        exact b1 (cb_all F.calm) (F.blt h1) PyProof.Rows.boot_all (by decide) (by decide) ((okE a c X y F).1 h) h3
      · rename_i a y
        replace h := and2 h; obtain ⟨h1, h⟩ := h
        replace h := and2 h; obtain ⟨h2, h⟩ := h
        replace h := and2 h; obtain ⟨h3, h⟩ := h
        cases dec h2
        exact b1 (cb_any F.calm) (F.blt h1) PyProof.Rows.boot_any (by decide) (by decide) ((okE a c X y F).1 h) h3
      · rename_i a y
        replace h := and2 h; obtain ⟨h1, h⟩ := h
        replace h := and2 h; obtain ⟨h2, h⟩ := h
        replace h := and2 h; obtain ⟨h3, h⟩ := h
        cases dec h2
        exact t1 cb_int (F.blt h1) PyProof.Rows.boot_int (by decide) (by decide) ((okE a c X y F).1 h) h3
      · rename_i a y
        replace h := and2 h; obtain ⟨h1, h⟩ := h
        replace h := and2 h; obtain ⟨h2, h⟩ := h
        replace h := and2 h; obtain ⟨h3, h⟩ := h
        cases dec h2
        exact b1 (cb_min F.calm) (F.blt h1) PyProof.Rows.boot_min (by decide) (by decide) ((okE a c X y F).1 h) h3
      · rename_i a y
        replace h := and2 h; obtain ⟨h1, h⟩ := h
        replace h := and2 h; obtain ⟨h2, h⟩ := h
        replace h := and2 h; obtain ⟨h3, h⟩ := h
        cases dec h2
        exact b1 (cb_repr F.guards F.units) (F.blt h1) PyProof.Rows.boot_repr (by decide) (by decide) ((okE a c X y F).1 h) h3
      · rename_i a y
        replace h := and2 h; obtain ⟨h1, h⟩ := h
        replace h := and2 h; obtain ⟨h2, h⟩ := h
        replace h := and2 h; obtain ⟨h3, h⟩ := h
        cases dec h2
        exact b1 (cb_max F.calm) (F.blt h1) PyProof.Rows.boot_max (by decide) (by decide) ((okE a c X y F).1 h) h3
      · cases h
    · cases h
  | .mth m o es, c, X, e, F => by
    unfold Both chkE
    refine both fun h => ?_
    split at h
    · rename_i x n l q
      obtain ⟨p, p2, rfl, hl⟩ := asMeth_ok q
      replace h := and2 h; obtain ⟨h1, h⟩ := h
      replace h := and2 h; obtain ⟨h2, h⟩ := h
      replace h := and2 h; obtain ⟨h3, h⟩ := h
      replace h := and2 h; obtain ⟨h4, h⟩ := h
      obtain ⟨s1, s2, s3⟩ := okL es c X l F h
      have ho := (okE o c X x F).1 h4
      cases m with
      | append => cases dec h1; exact m1 PySem.F.slot_list_append PySem.F.type_list_append mm_append (by decide) ho h2 hl h3 s1 s2 s3
      | extend => cases dec h1; exact m1 PySem.F.slot_list_extend PySem.F.type_list_extend mm_extend (by decide) ho h2 hl h3 s1 s2 s3
      | insert => cases dec h1; exact m1 PySem.F.slot_list_insert PySem.F.type_list_insert mm_insert (by decide) ho h2 hl h3 s1 s2 s3
      | pop => cases dec h1; exact m1 PySem.F.slot_list_pop PySem.F.type_list_pop mm_pop (by decide) ho h2 hl h3 s1 s2 s3
      | index => cases dec h1; exact m1 PySem.F.slot_list_index PySem.F.type_list_index mm_index (by decide) ho h2 hl h3 s1 s2 s3
      | reverse => cases dec h1; exact m1 PySem.F.slot_list_reverse PySem.F.type_list_reverse mm_reverse (by decide) ho h2 hl h3 s1 s2 s3
      | join => cases h1
    · cases h
  | .idx o i, c, X, e, F => by
    unfold Both chkE
    refine both fun h => ?_
    split at h
    · rename_i x y q
      obtain ⟨p, rfl⟩ := asSub_ok q
      obtain ⟨h1, h2⟩ := and2 h
      replace h2 := and2 h2; obtain ⟨h2, h3⟩ := h2
      exact PE.imp (pe_ix ix_item ((okE o c X x F).1 h2) ((okE i c X y F).1 h3) (ix_ok h1)) fun σ H Q => w_idx
    · cases h
  | .sl o lo hi, c, X, e, F => by
    unfold Both chkE
    refine both fun h => ?_
    split at h
    · rename_i x y z q
      obtain ⟨p, p2, rfl⟩ := asSlice_ok q
      obtain ⟨h1, h2⟩ := and2 h
      replace h2 := and2 h2; obtain ⟨h2, h3⟩ := h2
      exact PE.imp (pe_slice sl_slice ((okE o c X x F).1 h1) (okO lo c X y F h2) (okO hi c X z F h3)) fun σ H Q => w_sl
    · cases h
  | .rev o, c, X, e, F => by
    unfold Both chkE
    refine both fun h => ?_
    split at h
    · rename_i x q
      obtain ⟨k, p1, p2, p3, p, rfl⟩ := asRev_ok q
      exact PE.imp (pe_revT ((okE o c X x F).1 h)) fun σ H Q => w_rev
    · cases h
  | .lc a tg it ifs, c, X, e, F => by
    unfold Both chkE
    refine both fun h => ?_
    split at h
    · rename_i elt tge iter ifl scope pos
      replace h := and2 h; obtain ⟨h1, h⟩ := h
      replace h := and2 h; obtain ⟨h2, h⟩ := h
      replace h := and2 h; obtain ⟨h3, h⟩ := h
      replace h := and2 h; obtain ⟨h4, h⟩ := h
      replace h := and2 h; obtain ⟨h5, h⟩ := h
      replace h := and2 h; obtain ⟨h6, h⟩ := h
      have hk := blkKind h1
      have ok : BlkOk X.N X.env.scope scope (tgNames tg tge) := by rw [F.N, F.sc]; exact blkOk_by h1
      have fb := fun s H A cl fp => F.block hk s H A cl fp
      have r := pe_lc (pos := pos) (g := gV X.K tg) (tt := tTs X.K (evT C ifs)) (te := tEx X.K C a) F.calm F.nd (okI it c X tge iter F h4) ok (fun s H A cl fp => okTg (fb s H A cl fp) tg tge h5) (fun s H A cl fp => okTs ifs _ _ ifl (fb s H A cl fp) h6) (fun s H A cl fp => (okE a _ _ elt (fb s H A cl fp)).1 h) (set_fold h3 _)
      rw [dec h2] at r
      exact PE.imp r fun σ H Q => w_lc
    · cases h
  | .lc2 a tg it tg2 it2, c, X, e, F => by
    unfold Both chkE
    refine both fun h => ?_
    split at h
    · rename_i elt tge iter tge2 iter2 scope pos
      replace h := and2 h; obtain ⟨h1, h⟩ := h
      replace h := and2 h; obtain ⟨h2, h⟩ := h
      replace h := and2 h; obtain ⟨h3, h⟩ := h
      replace h := and2 h; obtain ⟨h3', h⟩ := h
      replace h := and2 h; obtain ⟨h4, h⟩ := h
      replace h := and2 h; obtain ⟨h5, h⟩ := h
      replace h := and2 h; obtain ⟨h6, h⟩ := h
      replace h := and2 h; obtain ⟨h7, h⟩ := h
      have hk := blkKind h1
      have ok : BlkOk X.N X.env.scope scope (tgNames tg tge ++ tgNames tg2 tge2) := by rw [F.N, F.sc]; exact blkOk_by h1
      have fb := fun s H A cl fp => F.block hk s H A cl fp
      have r := pe_lc2 (pos := pos) (vs1 := tg2.slots) (g := gV X.K tg) (wi1 := tI X.K (evI C it2)) (g1 := gV X.K tg2) (tt := tYes) (tt1 := tYes) (te := tEx X.K C a) F.calm F.nd (okI it c X tge iter F h4) ok (fun i hi => by rw [dec h2]; exact List.mem_append_right _ hi) (fun s H A cl fp => okTg (fb s H A cl fp) tg tge h5) (fun s H A cl fp => pts_nil)
        (fun s H A cl fp => okI it2 _ _ tge2 iter2 (fb s H A cl fp) h6) (fun s H A cl fp => okTg (fb s H A cl fp) tg2 tge2 h7) (fun s H A cl fp => pts_nil) (fun s H A cl fp => (okE a _ _ elt (fb s H A cl fp)).1 h) (set_fold h3 _) (set_fold h3')
      rw [dec h2] at r
      exact PE.imp r fun σ H Q => w_lc2
    · cases h
  | .dnew b, c, X, e, F => by
    unfold Both chkE
    refine both fun h => ?_
    split at h
    · cases b with
      | false => exact PE.imp pe_dnewK fun σ H Q => w_dnewK
      | true => exact PE.imp pe_dnewT fun σ H Q => w_dnewT
    · cases h
  | .dget o i, c, X, e, F => by
    unfold Both chkE
    refine both fun h => ?_
    split at h
    · rename_i x y q
      obtain ⟨p, rfl⟩ := asSub_ok q
      obtain ⟨h1, h2⟩ := and2 h
      replace h2 := and2 h2; obtain ⟨h2, h3⟩ := h2
      exact PE.imp (pe_dget F.unit1 ((okE o c X x F).1 h2) ((okE i c X y F).1 h3) (fun ov iv => ix_ok h1 ov iv)) fun σ H Q => w_dget
    · cases h
  | .din neg k o, c, X, e, F => by
    unfold Both chkE
    have key : ∀ (x : Expr) (op : CmpOp) (y : Expr), (dinOp neg op && (noMarks op y && (chkE c false k x && chkE c false o y))) = true → behindInMarks op y = false ∧ PC X op x y (tEx X.K C (.din neg k o)) := by
      intro x op y h
      obtain ⟨h1, h2⟩ := and2 h
      replace h2 := and2 h2; obtain ⟨h2, h3⟩ := h2
      replace h3 := and2 h3; obtain ⟨h3, h4⟩ := h3
      refine ⟨notB h2, ?_⟩
      unfold dinOp at h1
      split at h1
      · exact ⟨fun pins s σ H Q I hw => (pc_din F.unit1 ((okE k c X x F).1 h3) ((okE o c X y F).1 h4)).run pins s σ H Q I (w_din hw)⟩
      · exact ⟨fun pins s σ H Q I hw => (pc_dnotin F.unit1 ((okE k c X x F).1 h3) ((okE o c X y F).1 h4)).run pins s σ H Q I (w_din hw)⟩
      · cases h1
    constructor
    · intro h
      split at h
      · rename_i x op y q
        obtain ⟨p, rfl⟩ := asCmp_ok q
        obtain ⟨m, r⟩ := key x op y h
        exact pe_cmp r m
      · cases h
    · intro h
      split at h
      · rename_i x op y q
        obtain ⟨p, rfl⟩ := asCmp_ok q
        obtain ⟨m, r⟩ := key x op y h
        exact PT.imp (pt_cmp r m) fun σ H Q => tT_B
      · cases h
  | .dgetD o k d, c, X, e, F => by
    unfold Both chkE
    refine both fun h => ?_
    split at h
    · rename_i x n y z q
      obtain ⟨p, p2, rfl, hl⟩ := asMeth_ok q
      replace h := and2 h; obtain ⟨h1, h⟩ := h
      replace h := and2 h; obtain ⟨h2, h⟩ := h
      replace h := and2 h; obtain ⟨h3, h⟩ := h
      replace h := and2 h; obtain ⟨h4, h⟩ := h
      replace h := and2 h; obtain ⟨h5, h⟩ := h
      replace h := and2 h; obtain ⟨h6, h⟩ := h
      cases dec h1
      exact PE.imp (pe_dget2 F.unit1 ((okE o c X x F).1 h5) ((okE k c X y F).1 h6) ((okE d c X z F).1 h) (m2_ok h2 h3 h4 hl)) fun σ H Q => w_dgetD
    · cases h
  | .dsetd o k d, c, X, e, F => by
    unfold Both chkE
    refine both fun h => ?_
    split at h
    · rename_i x n y z q
      obtain ⟨p, p2, rfl, hl⟩ := asMeth_ok q
      replace h := and2 h; obtain ⟨h1, h⟩ := h
      replace h := and2 h; obtain ⟨h2, h⟩ := h
      replace h := and2 h; obtain ⟨h3, h⟩ := h
      replace h := and2 h; obtain ⟨h4, h⟩ := h
      replace h := and2 h; obtain ⟨h5, h⟩ := h
      replace h := and2 h; obtain ⟨h6, h⟩ := h
      cases dec h1
      exact PE.imp (pe_dsetd ((okE o c X x F).1 h5) ((okE k c X y F).1 h6) ((okE d c X z F).1 h) (m2_ok h2 h3 h4 hl)) fun σ H Q => w_dsetd
    · cases h
theorem okL : ∀ (es : XL) (c : Ctx) (X : Cx) (l : List Expr), Fits C c X → chkL c es l = true → l.all noStar = true ∧ PA X l (tA X.K (evL C es)) ∧ (l = [] → es = .nil)
  | .nil, c, X, l, F, h => by
    cases l with
    | nil => exact ⟨rfl, PA.imp pa_nil fun σ H Q => w_nil Q, fun _ => rfl⟩
    | cons _ _ => unfold chkL at h; cases h
  | .cons a r, c, X, l, F, h => by
    cases l with
    | nil => unfold chkL at h; cases h
    | cons e es =>
      unfold chkL at h
      obtain ⟨h1, h2⟩ := and2 h
      replace h2 := and2 h2; obtain ⟨h2, h3⟩ := h2
      obtain ⟨s1, s2, s3⟩ := okL r c X es F h3
      refine ⟨by rw [List.all_cons, h1, s1] <;> rfl, PA.imp (pa_cons ((okE a c X e F).1 h2) s2 (star_ok h1 es)) fun σ H Q => w_cons Q, fun z => by cases z⟩
theorem okO : ∀ (o : XO) (c : Ctx) (X : Cx) (e : Option Expr), Fits C c X → chkO c o e = true → PO X e (tO X.K (evO C o))
  | .none, c, X, e, F, h => by
    cases e with
    | none => exact ⟨fun pins s σ H Q I q => po_none.run pins s σ H Q I (w_onone Q q)⟩
    | some _ => unfold chkO at h; cases h
  | .some a, c, X, e, F, h => by
    cases e with
    | none => unfold chkO at h; cases h
    | some e =>
      unfold chkO at h
      exact ⟨fun pins s σ H Q I q => (po_some ((okE a c X e F).1 h)).run pins s σ H Q I (w_osome Q q)⟩
theorem okTs : ∀ (o : XO) (c : Ctx) (X : Cx) (ifs : List Expr), Fits C c X → chkTs c o ifs = true → PTs X ifs (tTs X.K (evT C o))
  | .none, c, X, ifs, F, h => PTs_none h
  | .some a, c, X, ifs, F, h => by
    cases ifs with
    | nil => unfold chkTs at h; cases h
    | cons e es =>
      cases es with
      | cons _ _ => unfold chkTs at h; cases h
      | nil =>
        unfold chkTs at h
        exact ⟨fun pins s σ H Q I q => (pts_one ((okE a c X e F).2 h)).run pins s σ H Q I (x_some q)⟩
theorem okI : ∀ (i : XI) (c : Ctx) (X : Cx) (t e : Expr), Fits C c X → chkI c i t e = true → PI X t e (tI X.K (evI C i))
  | .seq a, c, X, t, e, F, h => by
    unfold chkI at h
    exact ⟨fun pins s σ H R I q => (pi_seq ((okE a c X e F).1 h)).run pins s σ H R I (wi_seq q)⟩
  | .rng a, c, X, t, e, F, h => by
    unfold chkI at h
    split at h
    · rename_i x y q
      obtain ⟨p, p2, rfl⟩ := asCall_ok q
      replace h := and2 h; obtain ⟨h1, h⟩ := h
      replace h := and2 h; obtain ⟨h2, h⟩ := h
      replace h := and2 h; obtain ⟨h3, h⟩ := h
      cases dec h2
      exact ⟨fun pins s σ H R I q => (pi_range1 (F.blt h1).1 (F.blt h1).2 (pa_cons ((okE a c X y F).1 h) pa_nil (star_ok h3 [])) (star_ok h3 [])).run pins s σ H R I (wi_rng q)⟩
    · cases h
  | .rng2 a b, c, X, t, e, F, h => by
    unfold chkI at h
    split at h
    · rename_i x y z q
      obtain ⟨p, p2, rfl⟩ := asCall_ok q
      replace h := and2 h; obtain ⟨h1, h⟩ := h
      replace h := and2 h; obtain ⟨h2, h⟩ := h
      replace h := and2 h; obtain ⟨h3, h⟩ := h
      replace h := and2 h; obtain ⟨h4, h⟩ := h
      replace h := and2 h; obtain ⟨h5, h⟩ := h
      cases dec h2
      exact ⟨fun pins s σ H R I q => (pi_range2 (F.blt h1).1 (F.blt h1).2 (pa_cons ((okE a c X y F).1 h5) (pa_cons ((okE b c X z F).1 h) pa_nil (star_ok h4 [])) (star_ok h3 _)) (by rw [star_ok h3, star_ok h4] <;> rfl) (star_ok h4 [])).run pins s σ H R I (wi_rng2 q)⟩
    · cases h
  | .enum a, c, X, t, e, F, h => by
    unfold chkI at h
    replace h := and2 h; obtain ⟨h0, h⟩ := h
    split at h
    · rename_i x y q
      obtain ⟨p, p2, rfl⟩ := asCall_ok q
      replace h := and2 h; obtain ⟨h1, h⟩ := h
      replace h := and2 h; obtain ⟨h2, h⟩ := h
      replace h := and2 h; obtain ⟨h3, h⟩ := h
      cases dec h2
      obtain ⟨l, hl⟩ := Option.isSome_iff_exists.mp h0
      obtain ⟨k, p3, rfl⟩ := asTup_ok hl
      exact ⟨fun pins s σ H R I q => (pi_enum (F.blt h1).1 (F.blt h1).2 (pa_cons ((okE a c X y F).1 h) pa_nil (star_ok h3 [])) (star_ok h3 [])).run pins s σ H R I (wi_enum q)⟩
    · cases h
  | .zip a b, c, X, t, e, F, h => by
    unfold chkI at h
    replace h := and2 h; obtain ⟨h0, h⟩ := h
    split at h
    · rename_i x y z q
      obtain ⟨p, p2, rfl⟩ := asCall_ok q
      replace h := and2 h; obtain ⟨h1, h⟩ := h
      replace h := and2 h; obtain ⟨h2, h⟩ := h
      replace h := and2 h; obtain ⟨h3, h⟩ := h
      replace h := and2 h; obtain ⟨h4, h⟩ := h
      replace h := and2 h; obtain ⟨h5, h⟩ := h
      cases dec h2
      obtain ⟨l, hl⟩ := Option.isSome_iff_exists.mp h0
      obtain ⟨k, p3, rfl⟩ := asTup_ok hl
      exact ⟨fun pins s σ H R I q => (RZ.pi_zipA (F.blt h1).1 (F.blt h1).2 (pa_cons ((okE a c X y F).1 h5) (pa_cons ((okE b c X z F).1 h) pa_nil (star_ok h4 [])) (star_ok h3 _)) (star_ok h3 _) (by rw [star_ok h4] <;> rfl)).run pins s σ H R I (wi_zip q)⟩
    · cases h
end
end
end Ev

set_option linter.all false
set_option autoImplicit false
set_option maxRecDepth 100000
set_option maxHeartbeats 4000000
/-! Ev22: the checker of statements. -/
namespace Ev
open PySem PySem.Spec PyProof.Rows L2
/-- are the stores of a, b = x, y swapped -/
def swNames (sc : Scope) (ts : List Expr) : List PStr := ts.filterMap fun
    | .Name id pos => if sc.names.lookup id == some .local && pos.line == (ts.head?.map (·.pos.line)).getD 0 then some id else none
    | _ => none
def swS (sc : Scope) (ts vs : List Expr) : Option (Option (List PStr)) :=
  if !(ts.length == 2 || ts.length == 3) || vs.length != ts.length then some none
  else if !vs.all noStar then some none
  else if (swNames sc ts).length != ts.length || (swNames sc ts).eraseDups.length != (swNames sc ts).length then some none
  else if vs.all (foldedForSure 8) then some none
  else if vs.all (constantsAlone 8) then none
  else some (some (swNames sc ts))
def isStar : Expr → Bool
  | .Starred .. => true
  | _ => false
theorem star_any (vs : List Expr) : vs.any isStar = !vs.all noStar := by
  induction vs with
  | nil => rfl
  | cons v vs ih =>
    rw [List.any_cons, List.all_cons, ih]
    cases v <;> simp [noStar, isStar]
theorem swS_ok {env : PySem.Env} {sc : Scope} {ts vs : List Expr} {k k2 : Nat} {p p2 : Pos} {r : Option (List PStr)} (hk : env.scope.kind = .function) (hsc : env.scope = sc) (h : swS sc ts vs = some r) :
    swappedStores [.Tuple ts k p] (.Tuple vs k2 p2) env = pure r := by
  subst hsc
  have hb : env.blockKind = .function := by unfold Env.blockKind; rw [hk]; rfl
  have hb2 : (env.blockKind != .function) = false := by rw [hb]; rfl
  unfold swS at h
  unfold swappedStores
  simp only [hb2, Bool.or_false]
  change (if (!(ts.length == 2 || ts.length == 3) || vs.length != ts.length) = true then (pure none : Sem (Option (List PStr)))
    else if vs.any isStar = true then pure none
    else if ((swNames env.scope ts).length != ts.length || (swNames env.scope ts).eraseDups.length != (swNames env.scope ts).length) = true then pure none
    else if vs.all (foldedForSure 8) = true then pure none
    else if vs.all (constantsAlone 8) = true then _ else pure (some (swNames env.scope ts))) = pure r
  rw [star_any]
  by_cases c1 : (!(ts.length == 2 || ts.length == 3) || vs.length != ts.length) = true
  · rw [if_pos c1] at h ⊢
    cases h; rfl
  · rw [if_neg c1] at h ⊢
    by_cases c2 : (!vs.all noStar) = true
    · rw [if_pos c2] at h ⊢
      cases h; rfl
    · rw [if_neg c2] at h ⊢
      by_cases c3 : ((swNames env.scope ts).length != ts.length || (swNames env.scope ts).eraseDups.length != (swNames env.scope ts).length) = true
      · rw [if_pos c3] at h ⊢
        cases h; rfl
      · rw [if_neg c3] at h ⊢
        by_cases c4 : vs.all (foldedForSure 8) = true
        · rw [if_pos c4] at h ⊢
          cases h; rfl
        · rw [if_neg c4] at h ⊢
          by_cases c5 : vs.all (constantsAlone 8) = true
          · rw [if_pos c5] at h
            cases h
          · rw [if_neg c5] at h ⊢
            cases h; rfl

def locOnly (c : Ctx) (x : PStr) : Bool := decide (c.sc.names.lookup x = some .local)
def chkPar (c : Ctx) : TgE → Expr → Expr → Bool
  | .tp [.nm i, .nm j], .Tuple [.Name x px, .Name y py] _ _, .Tuple [a, b] _ _ =>
    decide (swS c.sc [.Name x px, .Name y py] [a, b] = some (some [x, y])) && (c.at i x && (c.at j y && (decide (i ≠ j) && (locOnly c x && locOnly c y))))
  | .tp [.nm i, .nm j, .nm l], .Tuple [.Name x px, .Name y py, .Name z pz] _ _, .Tuple [a, b, d] _ _ =>
    decide (swS c.sc [.Name x px, .Name y py, .Name z pz] [a, b, d] = some (some [x, y, z])) && (c.at i x && (c.at j y && (c.at l z && (decide (i ≠ j) && (decide (i ≠ l) && (decide (j ≠ l) && (locOnly c x && (locOnly c y && locOnly c z))))))))
  | _, _, _ => false
def asTupX : XE → Option XL
  | .tup es => some es
  | _ => none
def isLc : XE → Bool
  | .lc _ _ _ _ => true
  | .lc2 _ _ _ _ _ => true
  | _ => false
def swapOk (y : PStr) (py p : Pos) (scope : Scope) : Bool := py.line == p.line && !(scope.names.any fun (n, k) => n == y && (k == .local || k == .cell))
/-- name = [..], written into the name at once -/
def chkLcS (c : Ctx) : TgE → XE → Expr → Expr → Bool
  | .nm i, x, .Name y py, .ListComp _ _ scope p => isLc x && (c.at i y && (locOnly c y && swapOk y py p scope))
  | _, _, _, _ => false
def swFalse (c : Ctx) : Expr → Expr → Bool
  | .ListComp _ _ scope p, .Name y py => !(locOnly c y && swapOk y py p scope)
  | .ListComp _ _ _ _, .Tuple _ _ _ => true
  | .ListComp _ _ _ _, .Subscript _ _ _ => true
  | e, _ => noComp e
def swNone (c : Ctx) : Expr → Expr → Bool
  | .Tuple ts _ _, .Tuple vs _ _ => decide (swS c.sc ts vs = some none)
  | .List _ _, _ => false
  | _, _ => true
def plainA (c : Ctx) (tge e : Expr) : Bool := swFalse c e tge && (swNone c tge e && noStar tge)
def asAsg : Stmt → Option (Expr × Expr)
  | .Assign [t] e _ => some (t, e)
  | _ => none
mutual
def chkS (c : Ctx) : XS → Stmt → Bool
  | .asg tg x, st => match asAsg st with
    | some (tge, e) =>
      (chkPar c tg tge e && (match asTupX x, asTup e with
        | some es, some vs => chkL c es vs
        | _, _ => false)) || ((chkLcS c tg x tge e && chkE c false x e) || (plainA c tge e && (chkTg c tg tge && chkE c false x e)))
    | none => false
  | .setIx o i x, st => match asAsg st with
    | some (.Subscript oe ie p, e) => plainA c (.Subscript oe ie p) e && (noSlice ie && (chkE c false o oe && (chkE c false i ie && chkE c false x e)))
    | _ => false
  | .dput o i x, st => match asAsg st with
    | some (.Subscript oe ie p, e) => noComp e && (chkE c false o oe && (chkE c false i ie && chkE c false x e))
    | _ => false
  | .aug i op x, st => match st with
    | .AugAssign (.Name y _) o e _ => c.at i y && (locB c y && ((match op, o with
      | .add, .Add => true
      | .sub, .Sub => true
      | _, _ => false) && chkE c false x e))
    | _ => false
  | .ex x, st => match st with
    | .Expr e _ => noComp e && chkE c false x e
    | _ => false
  | .iff t a b, st => match st with
    | .If te sa sb _ => chkE c true t te && (chkB c a sa && chkB c b sb)
    | _ => false
  | .for tg it b _, st => match st with
    | .For tge iter body [] _ => noSet iter && (chkTg c tg tge && (chkI c it tge iter && chkB c b body))
    | _ => false
  | .wh t b _, st => match st with
    | .While te body [] _ => chkE c true t te && chkB c b body
    | _ => false
  | .ret x, st => match st with
    | .Return (some e) _ => chkE c false x e
    | _ => false
  | .retN, st => match st with
    | .Return none _ => true
    | _ => false
  | .brk, st => match st with
    | .Break _ => true
    | _ => false
  | .cnt, st => match st with
    | .Continue _ => true
    | _ => false
  | .pass, st => match st with
    | .Pass _ => true
    | .Expr (.Constant (.str _) _ _) _ => true
    | _ => false
  | .never, _ => true
def chkB (c : Ctx) : XB → List Stmt → Bool
  | .nil, [] => true
  | .cons a r, st :: sts => chkS c a st && chkB c r sts
  | _, _ => false
end
section
variable {C : Nat → List PV → S → Option (PV × S)} {c : Ctx} {X : Cx}
theorem asAsg_ok {st : Stmt} {t e : Expr} (h : asAsg st = some (t, e)) : ∃ p, st = .Assign [t] e p := by
  unfold asAsg at h
  split at h
  · cases h; exact ⟨_, rfl⟩
  · cases h
theorem Fits.lo (F : Fits C c X) {x : PStr} (h : locOnly c x = true) : X.env.scope.names.lookup x = some .local := by
  rw [F.sc]; exact dec h
theorem Fits.bk (F : Fits C c X) : X.env.blockKind = .function := by
  unfold Env.blockKind
  rw [F.sc, F.kind] <;> rfl
theorem tE.mono {K : PySem.W.Frag} {f : Env → S → Option (PV × S)} {σ : L2.St} {H : Hp} {Q Q' : VK} (h : tE K f σ H Q) (k : ∀ u H, Q u H → Q' u H) : tE K f σ H Q' := by
  obtain ⟨B, ρ, e, s, R, rs, v, s', h, q⟩ := h
  exact ⟨B, ρ, e, s, R, rs, v, s', h, fun ρ' H' u a b c => k _ _ (q ρ' H' u a b c)⟩
theorem swFalse_ok (F : Fits C c X) {e t : Expr} (h : swFalse c e t = true) (l : Nat) : swapsWith e (some t) l X.env = pure false := by
  unfold swFalse at h
  split at h
  · rename_i scope p y py
    unfold swapsWith
    simp only [F.bk, Expr.pos]
    have k : X.env.kindOf y = c.sc.names.lookup y := by
      show X.env.scope.names.lookup y = _
      rw [F.sc]
    rw [k]
    have e2 : (c.sc.names.lookup y == some NameKind.local) = locOnly c y := by
      unfold locOnly
      rw [Bool.beq_eq_decide_eq]
    rw [e2]
    have h2 : (locOnly c y && swapOk y py p scope) = false := notB h
    unfold swapOk at h2
    rw [← Bool.and_assoc] at h2
    show pure (ScopeKind.function == ScopeKind.function && locOnly c y && py.line == p.line && _) = pure false
    have e3 : (ScopeKind.function == ScopeKind.function) = true := by decide
    rw [e3, Bool.true_and, h2]
  · rfl
  · rfl
  · exact swap_ok h _ l
theorem swNone_ok (F : Fits C c X) {e t : Expr} (h : swNone c t e = true) : swappedStores [t] e X.env = pure none := by
  cases t with
  | Tuple ts k p =>
    cases e with
    | Tuple vs k2 p2 =>
      unfold swNone at h
      exact swS_ok (by rw [F.sc]; exact F.kind) F.sc (dec h)
    | _ => rfl
  | List ts p =>
    unfold swNone at h
    cases h
  | _ => rfl
theorem plainA_ok (F : Fits C c X) {e t : Expr} (h : plainA c t e = true) (l : Nat) : swapsWithSole [t] e l X.env = pure false ∧ swappedStores [t] e X.env = pure none ∧ (assignEach [t] X.env).map (·.2) = [assign t X.env] := by
  obtain ⟨h1, h2⟩ := and2 h
  obtain ⟨h2, h3⟩ := and2 h2
  refine ⟨swFalse_ok F h1 l, swNone_ok F h2, ?_⟩
  cases t <;> first | rfl | cases h3

theorem asTupX_ok {x : XE} {es : XL} (h : asTupX x = some es) : x = .tup es := by
  unfold asTupX at h
  split at h
  · cases h; rfl
  · cases h
theorem okPar (F : Fits C c X) {tg : TgE} {tge e : Expr} {es : XL} {vs : List Expr} {p : Pos} (h : chkPar c tg tge e = true) (hv : asTup e = some vs) (hl : chkL c es vs = true) : PS X (.Assign [tge] e p) (tS X.K (evS C (.asg tg (.tup es)))) := by
  obtain ⟨k, p2, rfl⟩ := asTup_ok hv
  have pa := (okL es c X vs F hl).2.1
  unfold chkPar at h
  split at h
  · rename_i i j x px y py k1 p1 a b k3 p3 e1
    cases e1
    replace h := and2 h; obtain ⟨h1, h⟩ := h
    replace h := and2 h; obtain ⟨h2, h⟩ := h
    replace h := and2 h; obtain ⟨h3, h⟩ := h
    replace h := and2 h; obtain ⟨h4, h⟩ := h
    replace h := and2 h; obtain ⟨h5, h6⟩ := h
    exact PS.imp (ps_par F.calm F.nd (F.at h2) (F.at h3) (dec h4) (F.lo h5) (F.lo h6) pa (swS_ok (by rw [F.sc]; exact F.kind) F.sc (dec h1)) rfl) fun D σ H q => s_par2 q
  · rename_i i j l x px y py z pz k1 p1 a b d k3 p3 e1
    cases e1
    replace h := and2 h; obtain ⟨h1, h⟩ := h
    replace h := and2 h; obtain ⟨h2, h⟩ := h
    replace h := and2 h; obtain ⟨h3, h⟩ := h
    replace h := and2 h; obtain ⟨h4, h⟩ := h
    replace h := and2 h; obtain ⟨h5, h⟩ := h
    replace h := and2 h; obtain ⟨h6, h⟩ := h
    replace h := and2 h; obtain ⟨h7, h⟩ := h
    replace h := and2 h; obtain ⟨h8, h⟩ := h
    replace h := and2 h; obtain ⟨h9, h10⟩ := h
    exact PS.imp (ps_par3 F.calm F.nd (F.at h2) (F.at h3) (F.at h4) (dec h5) (dec h6) (dec h7) (F.lo h8) (F.lo h9) (F.lo h10) pa (swS_ok (by rw [F.sc]; exact F.kind) F.sc (dec h1)) rfl) fun D σ H q => s_par3 q
  · cases h
theorem okLcS (F : Fits C c X) {tg : TgE} {x : XE} {tge e : Expr} {p : Pos} (h : chkLcS c tg x tge e = true) (hx : chkE c false x e = true) : PS X (.Assign [tge] e p) (tS X.K (evS C (.asg tg x))) := by
  unfold chkLcS at h
  split at h
  · rename_i i y py elt gens scope p1
    replace h := and2 h; obtain ⟨h1, h⟩ := h
    replace h := and2 h; obtain ⟨h2, h⟩ := h
    replace h := and2 h; obtain ⟨h3, h4⟩ := h
    obtain ⟨h5, h6⟩ := and2 h4
    have sw : ∀ l, swapsWith (.ListComp elt gens scope p1) (some (.Name y py)) l X.env = pure true := fun l => sw_true (by rw [F.sc]; exact F.kind) (F.lo h3) h5 (notB h6)
    cases x with
    | lc a tg2 it ifs =>
      unfold chkE at hx
      have hx := (and2 hx).2
      split at hx
      · rename_i elt tge iter ifl scope pos e1
        cases e1
        replace hx := and2 hx; obtain ⟨g1, hx⟩ := hx
        replace hx := and2 hx; obtain ⟨g2, hx⟩ := hx
        replace hx := and2 hx; obtain ⟨g3, hx⟩ := hx
        replace hx := and2 hx; obtain ⟨g4, hx⟩ := hx
        replace hx := and2 hx; obtain ⟨g5, hx⟩ := hx
        replace hx := and2 hx; obtain ⟨g6, hx⟩ := hx
        have hk := blkKind g1
        have ok : BlkOk X.N X.env.scope scope (tgNames tg2 tge) := by rw [F.N, F.sc]; exact blkOk_by g1
        have fb := fun s H A cl fp => F.block hk s H A cl fp
        have r := ps_setLc (g := gV X.K tg2) (tt := tTs X.K (evT C ifs)) (te := tEx X.K C a) F.calm F.nd (F.at h2) (F.lo h3) (sw p.line) (okI it c X tge iter F g4) ok (fun s H A cl fp => okTg (fb s H A cl fp) tg2 tge g5) (fun s H A cl fp => okTs ifs _ _ ifl (fb s H A cl fp) g6) (fun s H A cl fp => (okE a _ _ elt (fb s H A cl fp)).1 hx) (set_fold g3 _)
        rw [dec g2] at r
        exact PS.imp r fun D σ H q => w_lc (tE.mono (s_asg q) fun u H z => g_nm z)
      · cases hx
    | lc2 a tg2 it tg3 it2 =>
      unfold chkE at hx
      have hx := (and2 hx).2
      split at hx
      · rename_i elt tge iter tge2 iter2 scope pos e1
        cases e1
        replace hx := and2 hx; obtain ⟨g1, hx⟩ := hx
        replace hx := and2 hx; obtain ⟨g2, hx⟩ := hx
        replace hx := and2 hx; obtain ⟨g3, hx⟩ := hx
        replace hx := and2 hx; obtain ⟨g3', hx⟩ := hx
        replace hx := and2 hx; obtain ⟨g4, hx⟩ := hx
        replace hx := and2 hx; obtain ⟨g5, hx⟩ := hx
        replace hx := and2 hx; obtain ⟨g6, hx⟩ := hx
        replace hx := and2 hx; obtain ⟨g7, hx⟩ := hx
        have hk := blkKind g1
        have ok : BlkOk X.N X.env.scope scope (tgNames tg2 tge ++ tgNames tg3 tge2) := by rw [F.N, F.sc]; exact blkOk_by g1
        have fb := fun s H A cl fp => F.block hk s H A cl fp
        have r := ps_setLc2 (vs1 := tg3.slots) (g := gV X.K tg2) (wi1 := tI X.K (evI C it2)) (g1 := gV X.K tg3) (tt := tYes) (tt1 := tYes) (te := tEx X.K C a) F.calm F.nd (F.at h2) (F.lo h3) (sw p.line) (okI it c X tge iter F g4) ok (fun i hi => by rw [dec g2]; exact List.mem_append_right _ hi) (fun s H A cl fp => okTg (fb s H A cl fp) tg2 tge g5) (fun s H A cl fp => pts_nil)
          (fun s H A cl fp => okI it2 _ _ tge2 iter2 (fb s H A cl fp) g6) (fun s H A cl fp => okTg (fb s H A cl fp) tg3 tge2 g7) (fun s H A cl fp => pts_nil) (fun s H A cl fp => (okE a _ _ elt (fb s H A cl fp)).1 hx) (set_fold g3 _) (set_fold g3')
        rw [dec g2] at r
        exact PS.imp r fun D σ H q => w_lc2 (tE.mono (s_asg q) fun u H z => g_nm z)
      · cases hx
    | _ => unfold isLc at h1; cases h1
  · cases h
mutual
theorem okS : ∀ (st : XS) (c : Ctx) (X : Cx) (s : Stmt), Fits C c X → PassesOwn (model X.prog X.w) X.A X.env X.xe → chkS c st s = true → PS X s (tS X.K (evS C st))
  | .asg tg x, c, X, s, F, O, h => by
    unfold chkS at h
    split at h
    · rename_i tge e q
      obtain ⟨p, rfl⟩ := asAsg_ok q
      rcases Bool.or_eq_true_iff.mp h with h | h
      · obtain ⟨h1, h2⟩ := and2 h
        split at h2
        · rename_i es vs q1 q2
          cases asTupX_ok q1
          exact okPar F h1 q2 h2
        · cases h2
      · rcases Bool.or_eq_true_iff.mp h with h | h
        · obtain ⟨h1, h2⟩ := and2 h
          exact okLcS F h1 h2
        · obtain ⟨h1, h2⟩ := and2 h
          obtain ⟨h2, h3⟩ := and2 h2
          obtain ⟨a1, a2, a3⟩ := plainA_ok F h1 p.line
          exact PS.imp (ps_asg ((okE x c X e F).1 h3) (okTg F tg tge h2) a1 a2 a3) fun D σ H => s_asg
    · cases h
  | .setIx o i x, c, X, s, F, O, h => by
    unfold chkS at h
    split at h
    · rename_i oe ie p e q
      obtain ⟨p2, rfl⟩ := asAsg_ok q
      replace h := and2 h; obtain ⟨h1, h⟩ := h
      replace h := and2 h; obtain ⟨h2, h⟩ := h
      replace h := and2 h; obtain ⟨h3, h⟩ := h
      replace h := and2 h; obtain ⟨h4, h⟩ := h
      obtain ⟨a1, a2, a3⟩ := plainA_ok F h1 p2.line
      exact PS.imp (ps_asg ((okE x c X e F).1 h) (pg_sub ((okE o c X oe F).1 h3) ((okE i c X ie F).1 h4) set_ok (by
        intro v
        cases ie <;> first | rfl | cases h2)) a1 a2 a3) fun D σ H => s_setIx
    · cases h
  | .dput o i x, c, X, s, F, O, h => by
    unfold chkS at h
    split at h
    · rename_i oe ie p e q
      obtain ⟨p2, rfl⟩ := asAsg_ok q
      replace h := and2 h; obtain ⟨h1, h⟩ := h
      replace h := and2 h; obtain ⟨h2, h⟩ := h
      replace h := and2 h; obtain ⟨h3, h⟩ := h
      exact PS.imp (ps_dput F.unit1 ((okE o c X oe F).1 h2) ((okE i c X ie F).1 h3) ((okE x c X e F).1 h) (swap_ok h1 _ _)) fun D σ H => s_dput
    · cases h
  | .aug i op x, c, X, s, F, O, h => by
    unfold chkS at h
    split at h
    · rename_i y p o e p2
      replace h := and2 h; obtain ⟨h1, h⟩ := h
      replace h := and2 h; obtain ⟨h2, h⟩ := h
      replace h := and2 h; obtain ⟨h3, h⟩ := h
      obtain ⟨l1, l2⟩ := F.loc h2
      split at h3
      · exact PS.imp (ps_aug F.nd (F.at h1) l1 ((okE x c X e F).1 h) ip_add l2) fun D σ H => s_aug fun _ _ _ => rfl
      · exact PS.imp (ps_aug F.nd (F.at h1) l1 ((okE x c X e F).1 h) ip_sub l2) fun D σ H => s_aug fun _ _ _ => rfl
      · cases h3
    · cases h
  | .ex x, c, X, s, F, O, h => by
    unfold chkS at h
    split at h
    · rename_i e p
      obtain ⟨h1, h2⟩ := and2 h
      exact PS.imp (ps_expr ((okE x c X e F).1 h2) (swap_ok h1 _ _)) fun D σ H => s_ex
    · cases h
  | .iff t a b, c, X, s, F, O, h => by
    unfold chkS at h
    split at h
    · rename_i te sa sb p
      obtain ⟨h1, h2⟩ := and2 h
      obtain ⟨h2, h3⟩ := and2 h2
      exact PS.imp (ps_if ((okE t c X te F).2 h1) (okB a c X sa F O h2) (okB b c X sb F O h3)) fun D σ H => s_if
    · cases h
  | .for tg it b kills, c, X, s, F, O, h => by
    unfold chkS at h
    split at h
    · rename_i tge iter body p
      replace h := and2 h; obtain ⟨h1, h⟩ := h
      replace h := and2 h; obtain ⟨h2, h⟩ := h
      replace h := and2 h; obtain ⟨h3, h⟩ := h
      exact PS.imp (ps_for O F.calm (okI it c X tge iter F h3) (okTg F tg tge h2) (okB b c X body F O h) (set_fold h1 _)) fun D σ H => s_for
    · cases h
  | .wh t b kills, c, X, s, F, O, h => by
    unfold chkS at h
    split at h
    · rename_i te body p
      obtain ⟨h1, h2⟩ := and2 h
      exact PS.imp (ps_while O ((okE t c X te F).2 h1) (okB b c X body F O h2)) fun D σ H => s_wh
    · cases h
  | .ret x, c, X, s, F, O, h => by
    unfold chkS at h
    split at h
    · rename_i e p
      exact PS.imp (ps_ret ((okE x c X e F).1 h)) fun D σ H => s_ret
    · cases h
  | .retN, c, X, s, F, O, h => by
    unfold chkS at h
    split at h
    · exact PS.imp ps_retN fun D σ H => s_retN
    · cases h
  | .brk, c, X, s, F, O, h => by
    unfold chkS at h
    split at h
    · exact PS.imp ps_break fun D σ H => s_brk
    · cases h
  | .cnt, c, X, s, F, O, h => by
    unfold chkS at h
    split at h
    · exact PS.imp ps_continue fun D σ H => s_cnt
    · cases h
  | .pass, c, X, s, F, O, h => by
    unfold chkS at h
    split at h
    · exact PS.imp ps_pass fun D σ H => s_pass
    · exact PS.imp ps_doc fun D σ H => s_pass
    · cases h
  | .never, c, X, s, F, O, h => PS.imp ps_never fun D σ H => s_never
theorem okB : ∀ (b : XB) (c : Ctx) (X : Cx) (l : List Stmt), Fits C c X → PassesOwn (model X.prog X.w) X.A X.env X.xe → chkB c b l = true → PSs X l (tS X.K (evB C b))
  | .nil, c, X, l, F, O, h => by
    cases l with
    | nil => exact PSs.imp pss_nil fun D σ H => s_nil
    | cons _ _ => unfold chkB at h; cases h
  | .cons a r, c, X, l, F, O, h => by
    cases l with
    | nil => unfold chkB at h; cases h
    | cons st sts =>
      unfold chkB at h
      obtain ⟨h1, h2⟩ := and2 h
      exact PSs.imp (pss_cons (okS a c X st F O h1) (okB r c X sts F O h2)) fun D σ H => s_cons
end
end
end Ev

set_option linter.all false
set_option autoImplicit false
set_option maxRecDepth 100000
set_option maxHeartbeats 4000000
/-! Ev23: defs, the head, a law. -/
namespace Ev
open PySem PySem.Spec PyProof.Rows L2
/-- a def of the text: its datum, its names (the parameters first), its parameters, what it says -/
structure Fn where
  id : Nat
  d : He.DefD
  N : List PStr
  ps : List PStr
  x : Dfn
def Bd (r : Fn) : Prop := ∀ (kV doc pm : Value) (an : Option Addr) (cdv ct : Value) (us : List Value), us.length = r.ps.length → bindArgs (PySem.W.fnOf r.d.name r.d.qual r.d.params r.d.body r.d.scope .none kV doc pm an cdv ct) ⟨us, []⟩ = pure (r.ps.zip us)
def BdAll : List Fn → Prop
  | [] => True
  | r :: t => Bd r ∧ BdAll t
theorem BdAll.mem : ∀ {T : List Fn} {r : Fn}, BdAll T → r ∈ T → Bd r
  | a :: t, r, h, m => by
    rcases List.mem_cons.mp m with e | m
    · rw [e]; exact h.1
    · exact BdAll.mem h.2 m
def fnChk (fns : List (PStr × Nat)) (free : List PStr) (cst : List (PStr × PV)) (r : Fn) : Bool :=
  C8.scC r.N r.ps r.d.scope && (r.d.dfl.isEmpty && (r.d.kwd.isEmpty && (decide (r.x.np = r.ps.length) && (decide (r.x.nl = r.N.length) && chkB ⟨r.N, r.d.scope, fun _ => true, fns, free, cst⟩ r.x.body r.d.body))))
def fnsOf (T : List Fn) : List (PStr × Nat) := T.map fun r => (r.d.name, r.id)
/-- the program -/
def prog (T : List Fn) : List (Nat × Dfn) := T.map fun r => (r.id, r.x)
theorem prog_get : ∀ {T : List Fn} {r : Fn}, (T.map (·.id)).Nodup → r ∈ T → (prog T).lookup r.id = some r.x
  | a :: t, r, nd, m => by
    unfold prog
    rw [List.map_cons, List.lookup_cons]
    rw [List.map_cons] at nd
    obtain ⟨n1, n2⟩ := List.nodup_cons.mp nd
    rcases List.mem_cons.mp m with e | m
    · subst e
      rw [beq_self_eq_true]
    · have ne : (r.id == a.id) = false := beq_eq_false_iff_ne.mpr fun z => n1 (z ▸ List.mem_map_of_mem m)
      rw [ne]
      exact prog_get n2 m
theorem lookup_mem {α : Type} : ∀ {l : List (PStr × α)} {x : PStr} {v : α}, l.lookup x = some v → (x, v) ∈ l := fun h => PySem.mem_of_lookup h
theorem fnsOf_get {T : List Fn} {x : PStr} {i : Nat} (h : (fnsOf T).lookup x = some i) : ∃ r, r ∈ T ∧ r.id = i ∧ r.d.name = x := by
  have m := lookup_mem h
  unfold fnsOf at m
  obtain ⟨r, hm, e⟩ := List.mem_map.mp m
  exact ⟨r, hm, congrArg Prod.snd e, congrArg Prod.fst e⟩
section
variable {P : Program} {w : World} {K : PySem.W.Frag} {mg : Str → Option Value} {base : Heap}
/-- the module's constants -/
def CstOk (K : PySem.W.Frag) (mg : Str → Option Value) (cst : List (PStr × PV)) : Prop := ∀ x v, cst.lookup x = some v → ∃ u val, mg x = some val ∧ RelV u val ∧ ∀ ρ H, RV K ρ H v u
/-- each def keeps its promise -/
theorem fn_ok {T : List Fn} {free : List PStr} {cst : List (PStr × PV)} (hfree : ∀ x ∈ free, mg x = none) (hcst : CstOk K mg cst) (hg : ∀ r ∈ T, mg r.d.name = some (.ref (He.fAd K r.d.at_)))
    (hd : ∀ r ∈ T, ∃ fd, FunD K r.d.name r.d.qual r.d.params r.d.body r.d.scope (r.d.dvs K) (r.d.kws K) (He.fAd K r.d.at_) fd) (hb : BdAll T) (hc : ∀ r ∈ T, fnChk (fnsOf T) free cst r = true) (hn : (T.map (·.id)).Nodup) :
    ∀ (k : Nat) (r : Fn), r ∈ T → ∀ fd, FunD K r.d.name r.d.qual r.d.params r.d.body r.d.scope (r.d.dvs K) (r.d.kws K) (He.fAd K r.d.at_) fd →
      FnG P w K mg base k (He.fAd K r.d.at_) fd r.ps (spF K (runD (prog T) k r.id)) ∧ PySem.W.keepIn K (.ref (He.fAd K r.d.at_)) = true ∧ Binds K fd r.ps [] := by
    intro k
    induction k with
    | zero =>
      intro r m fd F
      obtain ⟨c1, c2⟩ := and2 (hc r m)
      obtain ⟨c2, c3⟩ := and2 c2
      have e : r.d.dvs K = [] := by unfold He.DefD.dvs; rw [List.isEmpty_iff.mp c2]; rfl
      rw [e] at F
      refine ⟨⟨fun vs H Q h => ?_, fun A outer s H args us vs Q _ _ _ _ _ h => ?_⟩, F.kp, F.bindsN (hb.mem m)⟩
      · obtain ⟨B, ρ, s, ps, v, s', R, rv, h, _⟩ := h
        unfold runD at h
        cases h
      · obtain ⟨B, ρ, s, ps, v, s', R, rv, h, _⟩ := h
        unfold runD at h
        cases h
    | succ k ih =>
      intro r m fd F
      have hcr := hc r m
      unfold fnChk at hcr
      replace hcr := and2 hcr; obtain ⟨c1, hcr⟩ := hcr
      replace hcr := and2 hcr; obtain ⟨c2, hcr⟩ := hcr
      replace hcr := and2 hcr; obtain ⟨c3, hcr⟩ := hcr
      replace hcr := and2 hcr; obtain ⟨c4, hcr⟩ := hcr
      replace hcr := and2 hcr; obtain ⟨c5, c6⟩ := hcr
      have e : r.d.dvs K = [] := by unfold He.DefD.dvs; rw [List.isEmpty_iff.mp c2]; rfl
      rw [e] at F
      have S := C8.fnScope_by c1
      have np := dec c4
      have nl := dec c5
      have gx := prog_get hn m
      have F0 := F
      have kw : r.d.kws K = [] := by unfold He.DefD.kws; rw [List.isEmpty_iff.mp c3]; rfl
      rw [kw] at F0
      refine ⟨fnG_of F0 S (fun vs H Q h => ?_) (fun cdv A outer s H vs Q hG hrm h => ⟨tS K (evB (runD (prog T) k) r.x.body), ?_, ?_⟩), F.kp, F.bindsN (hb.mem m)⟩
      · obtain ⟨B, ρ, s, ps, v, s', R, rv, h, _⟩ := h
        unfold runD at h
        rw [gx] at h
        simp only at h
        by_cases c : ps.length = r.x.np
        · rw [← rv.length, c, np]
        · rw [if_neg c] at h; cases h
      · refine okB r.x.body ⟨r.N, r.d.scope, fun _ => true, fnsOf T, free, cst⟩ _ r.d.body ?_ (passes_of rfl) c6
        exact { N := rfl, nd := S.nd, sc := rfl, kind := S.kind, fn := rfl, calm := rfl, units := hrm.units, free := hfree, guards := hG, cst := hcst,
                calls := fun x j hj => by
                  obtain ⟨r2, h2, e1, e2⟩ := fnsOf_get hj
                  subst e1
                  obtain ⟨fd2, FD2⟩ := hd r2 h2
                  obtain ⟨F2, k2, b2⟩ := ih r2 h2 fd2 FD2
                  exact ⟨_, fd2, r2.ps, k, by rw [← e2]; exact hg r2 h2, F2, hrm, k2, b2⟩ }
      · obtain ⟨B, ρ, s0, ps, v, s', R, rv, h, kk⟩ := h
        unfold runD at h
        rw [gx] at h
        simp only at h
        by_cases c : ps.length = r.x.np
        · rw [if_pos c] at h
          unfold scp at h
          cases q : evB (runD (prog T) k) r.x.body (ps.map some ++ List.replicate (r.x.nl - r.x.np) none) ⟨s0.g, s0.size⟩ with
          | none => simp only [q] at h; cases h
          | some o =>
            obtain ⟨o, s1⟩ := o
            have rs : RS K ρ H (ps.map some ++ List.replicate (r.x.nl - r.x.np) none) (L2.start r.N vs) := by
              have lv := rv.length
              refine ⟨?_, fun j p hj => ?_⟩
              · unfold L2.start
                rw [List.length_append, List.length_append, List.length_map, List.length_map, List.length_replicate, List.length_replicate, nl, ← c, lv]
              · by_cases l : j < ps.length
                · rw [List.getElem?_append_left (by simpa using l), List.getElem?_map] at hj
                  cases q2 : ps[j]? with
                  | none => rw [q2] at hj; cases hj
                  | some p2 =>
                    rw [q2] at hj
                    cases hj
                    obtain ⟨u, hu, ru⟩ := rv.get q2
                    refine ⟨u, ?_, ru⟩
                    unfold L2.start
                    rw [List.getElem?_append_left (by rw [List.length_map, ← lv]; exact l), List.getElem?_map, hu]
                    rfl
                · rw [List.getElem?_append_right (by simpa using Nat.le_of_not_lt l), List.getElem?_replicate] at hj
                  split at hj <;> cases hj
            refine ⟨inB B s0, ρ, _, ⟨s0.g, s0.size⟩, R.enter, rs, o, s1, q, fun ρ' H' R' G => ?_⟩
            cases o with
            | nx e =>
              simp only [q] at h
              intro σ _
              obtain ⟨ρ2, R2, G2, r2⟩ := tidy_ok R R' G (v := .non) rv_non'
              have e5 := Option.some.inj h
              rw [e5] at R2 r2
              exact kk ρ2 H' .non R2 G2 r2
            | rt u =>
              simp only [q] at h
              intro y ry
              obtain ⟨ρ2, R2, G2, r2⟩ := tidy_ok R R' G ry
              have e5 := Option.some.inj h
              rw [e5] at R2 r2
              exact kk ρ2 H' y R2 G2 r2
            | bk e => simp only [q] at h; cases h
            | ct e => simp only [q] at h; cases h
        · rw [if_neg c] at h; cases h
end

/-! ### the head's facts, without the module's lists -/
def frN (g : Addr → Option Obj) (as : List Addr) : PySem.W.Frag := (He.frG g as).filter fun p => !(p.2.cls == Value.type "list")
theorem lookup_filter {f : Addr × Obj → Bool} : ∀ {K : PySem.W.Frag} {a : Addr} {o : Obj}, (K.filter f).lookup a = some o → (a, o) ∈ K ∧ f (a, o) = true := fun {K a o} h => by
  have m : (a, o) ∈ K.filter f := by
    generalize K.filter f = L at h ⊢
    induction L with
    | nil => cases h
    | cons p r ih =>
      obtain ⟨b, q⟩ := p
      rw [List.lookup_cons] at h
      cases z : (a == b) with
      | true =>
        rw [z] at h
        have := beq_iff_eq.mp z
        subst this
        cases h
        exact List.mem_cons_self
      | false =>
        rw [z] at h
        exact List.mem_cons_of_mem _ (ih h)
  exact List.mem_filter.mp m
theorem frN_in {as : List Addr} {h : Heap} : (frN h.get? as).In h := fun a o e => by
  obtain ⟨m, _⟩ := lookup_filter e
  unfold He.frG at m
  obtain ⟨b, _, e2⟩ := List.mem_filterMap.mp m
  cases q : h.get? b with
  | none => rw [q] at e2; cases e2
  | some u =>
    rw [q] at e2
    cases e2
    exact q
theorem frN_no {g : Addr → Option Obj} {as : List Addr} {a : Addr} {o : Obj} (e : (frN g as).lookup a = some o) : o.cls ≠ .type "list" := by
  obtain ⟨_, h⟩ := lookup_filter e
  intro z
  have z : (a, o).2.cls = .type "list" := z
  rw [z] at h
  exact absurd h (by decide)
def obsN (n : Nat) (fa : List He.Fa) (fn : List He.DefD) (g : Addr → Option Obj) : He.AlD := He.obsD fa fn (frN g (He.asD g n))
def hookN (n : Nat) (fa : List He.Fa) (fn : List He.DefD) : PySem.W.Hook where
  α := He.AlD
  obs := fun s => obsN n fa fn s.heap.get?
  val := fun _ => He.valD fn
  says := fun _ h => ∃ K : PySem.W.Frag, K.In h ∧ (∀ a o, K.lookup a = some o → o.cls ≠ .type "list") ∧ He.SaysD fa fn K
  of := fun _ _ e => ⟨_, frN_in, fun _ _ => frN_no, e⟩
  keeps := fun _ _ _ ⟨K, hK, c⟩ k => ⟨K, PySem.W.Frag.In.keeps hK k, c⟩
theorem obsN_eq {n : Nat} {fa : List He.Fa} {fn : List He.DefD} {g : Addr → Option Obj} {s : Shared} (h : ∀ a, g a = s.heap.get? a) : obsN n fa fn g = (hookN n fa fn).obs s := by
  have e : g = s.heap.get? := funext h
  rw [e] <;> rfl
def obN (n : Nat) (fa : List He.Fa) (fn : List He.DefD) (s : PySem.W.SharedT) : He.AlD := obsN n fa fn (HandSHeadRun.getT s)
theorem obN_eq {n : Nat} {fa : List He.Fa} {fn : List He.DefD} (s : PySem.W.SharedT) : obN n fa fn s = (hookN n fa fn).obs s.abs := obsN_eq (HandSHeadRun.getT_eq s)
/-- the script's state -/
def s0 (ns : List Int) : S := ⟨[.fix (ns.map PV.int)], 1⟩
theorem start_ok {K : PySem.W.Frag} {a : Addr} {H : Hp} {ns : List Int} (h : Rd H a (.lst (ns.map V.int))) : Rel K (fun _ => none) [a] (s0 ns) H where
  len := rfl
  nd := by simp
  lo := Nat.le_refl _
  ob := fun n o b h1 h2 => by
    cases n with
    | zero =>
      cases h1
      cases h2
      refine ⟨_, h, ?_⟩
      clear h
      induction ns with
      | nil => exact .nil
      | cons n ns ih => exact .cons (rv_int' n) ih
    | succ n => cases h1
  cl := fun n o b _ _ h => by cases h
def cstFa : PStr × PV → He.Fa
  | (x, .int i) => .int x i
  | (x, .str z) => .str x ⟨⟨z⟩⟩
  | (x, _) => .glo x
def cstB : PStr × PV → Bool
  | (_, .int _) => true
  | (_, .str _) => true
  | _ => false
def facts (T : List Fn) (free : List PStr) (cst : List (PStr × PV)) : List He.Fa := T.map (fun r => He.Fa.glo r.d.name) ++ (free.map He.Fa.free ++ cst.map cstFa)
/-- THE LAW: its def is the i-th of T; K0 calls deep -/
theorem law_of {P : Program} {w : World} {h : Heap} {mg : Str → Option Value} {fa : Addr} {T : List Fn} {free : List PStr} {cst : List (PStr × PV)} {K0 : Nat} {r : Fn} {x : PStr} {n : Nat} (G : h.Ns mainGlobals mg) (m : r ∈ T) (hx : r.ps = [x]) (hmg : mg r.d.name = some (.ref fa)) (hb : BdAll T)
    (hc : ∀ r ∈ T, fnChk (fnsOf T) free cst r = true) (hat : ∀ r ∈ T, r.d.at_ = (r.d.name, none)) (hn : (T.map (·.id)).Nodup) (hcs : ∀ p ∈ cst, cstB p = true) (says : (hookN n (facts T free cst) (T.map (·.d))).says w h)
    (law : ∀ ns : List Int, ns.length ≤ 63 → ∃ s', runD (prog T) K0 r.id [.ref 0] (s0 ns) = some (.bl true, s')) :
    ∃ (K : PySem.W.Frag) (fd : FuncData) (sp : Sp), K.In h ∧ (∀ a o, K.lookup a = some o → o.cls ≠ .type "list") ∧ (∀ (s : Shared) (u : Value), BindsTo s fd ⟨[u], []⟩ [(x, u)]) ∧
      (∀ (H : Hp) (a : Addr) (ns : List Int), ns.length ≤ 63 → Rd H a (.lst (ns.map V.int)) → sp [.ref a] H (fun v _ => v = .bl true) XE0) ∧
      ∀ base : Heap, K.In base → base.Ns mainGlobals mg → FnG P w K mg base K0 fa fd [x] sp := by
  obtain ⟨K, KX, nl, c⟩ := says
  have mem : ∀ {f : He.Fa}, f ∈ facts T free cst → f.ok K = true := fun {f} hf => by
    obtain ⟨j, hj⟩ := List.mem_iff_getElem?.mp hf
    exact c.fact j hj
  have hfree : ∀ x ∈ free, mg x = none := fun x hx => He.free_ok KX G (mem (List.mem_append_right _ (List.mem_append_left _ (List.mem_map_of_mem hx))))
  have hcst : CstOk K mg cst := fun x v hv => by
    have m := lookup_mem hv
    have ok := mem (f := cstFa (x, v)) (List.mem_append_right _ (List.mem_append_right _ (List.mem_map_of_mem m)))
    have cb := hcs _ m
    cases v with
    | int i =>
      obtain ⟨t, e⟩ := He.int_ok KX G ok
      exact ⟨.int i, _, e, ⟨t, rfl⟩, fun _ _ => rv_int' i⟩
    | str z =>
      obtain ⟨t, e⟩ := He.str_ok KX G ok
      exact ⟨.str ⟨⟨z⟩⟩, _, e, ⟨t, rfl⟩, fun _ _ => rv_str' z⟩
    | _ => cases cb
  have hg : ∀ r ∈ T, mg r.d.name = some (.ref (He.fAd K r.d.at_)) := fun r hr => by
    rw [He.glo_ok KX G (mem (List.mem_append_left _ (List.mem_map_of_mem hr))), hat r hr]
    rfl
  have hd : ∀ r ∈ T, ∃ fd, FunD K r.d.name r.d.qual r.d.params r.d.body r.d.scope (r.d.dvs K) (r.d.kws K) (He.fAd K r.d.at_) fd := fun r hr => by
    obtain ⟨j, hj⟩ := List.mem_iff_getElem?.mp hr
    exact c.def_ j (by rw [List.getElem?_map, hj] <;> rfl)
  obtain ⟨fd, F⟩ := hd r m
  have ef : fa = He.fAd K r.d.at_ := by
    have := hmg.symm.trans (hg r m)
    cases this
    rfl
  have e1 : r.d.dvs K = [] := by
    have h1 := hc r m
    unfold fnChk at h1
    have h2 := (and2 (and2 h1).2).1
    unfold He.DefD.dvs
    rw [List.isEmpty_iff.mp h2] <;> rfl
  refine ⟨K, fd, spF K (runD (prog T) K0 r.id), KX, nl, fun s u => ?_, fun H a ns l63 rd => ?_, fun base hK hN => ?_⟩
  · have F' := F
    rw [e1] at F'
    have b := F'.bindsA (hb.mem m) s [u] (by rw [hx] <;> rfl)
    rw [hx] at b
    exact b
  · obtain ⟨s', e⟩ := law ns l63
    refine ⟨fun _ => none, [a], s0 ns, [.ref 0], .bl true, s', start_ok rd, .cons (by unfold RV; exact ⟨a, rfl, rfl⟩) .nil, e, fun ρ' H' u R' G' ru => rv_bl ru⟩
  · rw [ef, ← hx]
    exact (fn_ok hfree hcst hg hd hb hc hn K0 r m fd F).1
end Ev

set_option linter.all false
set_option autoImplicit false
set_option maxRecDepth 100000
/-! Sy0: rules of the run, forwards. -/
namespace Ev
open PySem
section
variable {C : Nat → List PV → S → Option (PV × S)} {σ σ' : Env} {s s1 s2 s3 s4 : S} {a b c e o : XE} {es : XL} {x y z v w : PV}
theorem r_c : evE C (.c v) σ s = some (v, s) := by rw [evE]
theorem r_v {i : Nat} (h : σ[i]? = some (some v)) : evE C (.v i) σ s = some (v, s) := by rw [evE, h]
theorem r_bin {op : Bop} (h1 : evE C a σ s = some (x, s1)) (h2 : evE C b σ s1 = some (y, s2)) (h3 : bop op x y s2 = some (z, s3)) : evE C (.bin op a b) σ s = some (z, s3) := by
  rw [evE, h1]; simp only; rw [h2]; exact h3
theorem r_neg {i : Int} (h1 : evE C a σ s = some (.int i, s1)) : evE C (.neg a) σ s = some (.int (-i), s1) := by
  rw [evE, h1]
theorem r_cmp {op : Cop} {d : Bool} (h1 : evE C a σ s = some (x, s1)) (h2 : evE C b σ s1 = some (y, s2)) (h3 : cop op x y s2 = some d) : evE C (.cmp op a b) σ s = some (.bl d, s2) := by
  rw [evE, h1]; simp only; rw [h2]; simp only; rw [h3]; rfl
theorem r_lst {vs : List PV} (h : evL C es σ s = some (vs, s1)) (hl : vs.length ≤ line) : evE C (.lst es) σ s = some (.ref s1.size, s1.push (.lst vs)) := by
  rw [evE, h]; simp only; rw [if_pos hl]; rfl
theorem r_tup {vs : List PV} (h : evL C es σ s = some (vs, s1)) (hl : vs.length ≤ line) : evE C (.tup es) σ s = some (.tup vs, s1) := by
  rw [evE, h]; simp only; rw [if_pos hl]
theorem r_nil : evL C .nil σ s = some ([], s) := by rw [evL]
theorem r_cons {vs : List PV} (h1 : evE C e σ s = some (x, s1)) (h2 : evL C es σ s1 = some (vs, s2)) : evL C (.cons e es) σ s = some (x :: vs, s2) := by
  rw [evL, h1]; simp only; rw [h2]
theorem r_idx (h1 : evE C a σ s = some (x, s1)) (h2 : evE C b σ s1 = some (y, s2)) (h3 : item x y s2 = some z) : evE C (.idx a b) σ s = some (z, s2) := by
  rw [evE, h1]; simp only; rw [h2]; simp only; rw [h3]; rfl
theorem r_blt {f : Blt} {vs : List PV} (h : evL C es σ s = some (vs, s1)) (h2 : blt f vs s1 = some (v, s2)) : evE C (.blt f es) σ s = some (v, s2) := by
  rw [evE, h]; exact h2
theorem r_call {f : Nat} {vs : List PV} (h : evL C es σ s = some (vs, s1)) (h2 : C f vs s1 = some (v, s2)) : evE C (.call f es) σ s = some (v, s2) := by
  rw [evE, h]; exact h2
/-- what was made goes -/
theorem r_scp0 {f : S → Option (PV × S)} (h : f ⟨s.g, s.size⟩ = some (v, ⟨s.g, s.size⟩)) (hv : v.blw s.size = true) : scp f s = some (v, s) := by
  unfold scp
  rw [h]
  simp only
  unfold tidy
  rw [if_pos (Nat.le_refl _), if_pos hv, List.take_length]
theorem r_scp {f : S → Option (PV × S)} {g : List GO} (h : f ⟨s.g, s.size⟩ = some (v, ⟨s.g ++ g, s.size⟩)) (hv : v.blw s.size = true) : scp f s = some (v, s) := by
  unfold scp
  rw [h]
  simp only
  unfold tidy
  rw [if_pos (Nat.le_refl _), if_pos hv, List.take_left']
  rfl
theorem r_asg {tg : TgE} (h : scp (evE C e σ) s = some (v, s1)) (h2 : asn tg v σ = some σ') : evS C (.asg tg e) σ s = some (.nx σ', s1) := by
  rw [evS, h]; simp only; rw [h2]; rfl
theorem r_ret (h : evE C e σ s = some (v, s1)) : evS C (.ret e) σ s = some (.rt v, s1) := by
  rw [evS, h]
theorem r_ift {A B : XB} {r : Option (Out × S)} (h : scp (evE C e σ) s = some (.bl true, s1)) (h2 : evB C A σ s1 = r) : evS C (.iff e A B) σ s = r := by
  rw [evS, h]; exact h2
theorem r_iff {A B : XB} {r : Option (Out × S)} (h : scp (evE C e σ) s = some (.bl false, s1)) (h2 : evB C B σ s1 = r) : evS C (.iff e A B) σ s = r := by
  rw [evS, h]; exact h2
theorem r_bnil : evB C .nil σ s = some (.nx σ, s) := by rw [evB]
theorem r_nx {st : XS} {B : XB} {r : Option (Out × S)} (h : evS C st σ s = some (.nx σ', s1)) (h2 : evB C B σ' s1 = r) : evB C (.cons st B) σ s = r := by
  rw [evB, h]; exact h2
theorem r_rt {st : XS} {B : XB} (h : evS C st σ s = some (.rt v, s1)) : evB C (.cons st B) σ s = some (.rt v, s1) := by
  rw [evB, h]
theorem b_add {i j : Int} : bop .add (.int i) (.int j) s = some (.int (i + j), s) := rfl
theorem b_sub {i j : Int} : bop .sub (.int i) (.int j) s = some (.int (i - j), s) := rfl
theorem small_ok {i : Int} (h1 : -(2 ^ 64) < i) (h2 : i < 2 ^ 64) : small64 i = true := by
  unfold small64
  exact decide_eq_true (by omega)
theorem b_mul {i j : Int} (h : small64 i = true ∨ small64 j = true) : bop .mul (.int i) (.int j) s = some (.int (i * j), s) := by
  show (if small64 i || small64 j then _ else _) = _
  rw [if_pos (by rcases h with h | h <;> simp [h])]
theorem b_mod {i j : Int} (h : 0 < j) : bop .mod (.int i) (.int j) s = some (.int (i % j), s) := by
  show (if 0 < j then _ else _) = _
  rw [if_pos h]
theorem b_fdiv {i j : Int} (h : 0 < j) (h2 : j < 2 ^ 62) : bop .fdiv (.int i) (.int j) s = some (.int (i / j), s) := by
  have e : j.natAbs.log2 < 9000 := by
    have : j.natAbs < 2 ^ 62 := by omega
    have := (Nat.log2_lt (n := j.natAbs) (k := 62) (by omega)).mpr this
    omega
  show (if 0 < j && decide (j.natAbs.log2 < 9000) then _ else _) = _
  rw [if_pos (by rw [decide_eq_true h, decide_eq_true e] <;> rfl)]
theorem b_pow {i : Int} {n : Nat} (h : small64 i = true) (hn : n ≤ 1000000) : bop .pow (.int i) (.int (n : Int)) s = some (.int (i ^ n), s) := by
  show (if 0 ≤ (n : Int) && (decide ((n : Int) ≤ 1000000) && small64 i) then _ else _) = _
  rw [if_pos (by
    rw [h, decide_eq_true (show 0 ≤ (n : Int) by omega), decide_eq_true (show (n : Int) ≤ 1000000 by omega)] <;> rfl)]
  rw [Int.toNat_natCast]

theorem getE {α : Type} {l : List α} {x : α} : (l ++ [x])[l.length]? = some x := by
  rw [List.getElem?_append_right (Nat.le_refl _), Nat.sub_self]
  rfl
/-- a new list stays -/
theorem r_scpL {f : S → Option (PV × S)} {g : List GO} {xs : List PV} {m : Nat} (h : f ⟨s.g, s.size⟩ = some (.ref m, ⟨s.g ++ g, s.size⟩)) (hm : s.size ≤ m) (hg : (s.g ++ g)[m]? = some (.lst xs)) (hx : PV.blws s.size xs = true) :
    scp f s = some (.ref s.size, ⟨s.g ++ [.lst xs], s.lo⟩) := by
  unfold scp
  rw [h]
  simp only
  unfold tidy
  rw [if_pos (Nat.le_refl _), if_neg (by
    unfold PV.blw
    rw [decide_eq_false (Nat.not_lt.mpr hm)]
    exact Bool.false_ne_true)]
  simp only [hg]
  rw [if_pos hx, List.take_left']
  rfl
theorem itemL {n : Nat} {xs : List PV} {i : Int} (h : s.g[n]? = some (.lst xs)) : item (.ref n) (.int i) s = at? xs i := by
  show (lstAt s n).bind (fun xs => at? xs i) = _
  unfold lstAt
  rw [h]
  rfl
theorem b_addL {n m : Nat} {xs ys : List PV} (h1 : s.g[n]? = some (.lst xs)) (h2 : s.g[m]? = some (.lst ys)) (hl : xs.length + ys.length ≤ line) : bop .add (.ref n) (.ref m) s = some (.ref s.size, s.push (.lst (xs ++ ys))) := by
  show (match s.g[n]?, s.g[m]? with
    | some (.lst xs), some (.lst ys) => if xs.length + ys.length ≤ line then alloc (.lst (xs ++ ys)) s else none
    | _, _ => none) = _
  rw [h1, h2]
  simp only
  rw [if_pos hl]
  rfl
theorem r_int {i : Int} (h : evE C e σ s = some (.int i, s1)) : evE C (.blt .int (.cons e .nil)) σ s = some (.int i, s1) :=
  r_blt (r_cons h r_nil) rfl

theorem b_len {c : Nat} {xs : List PV} (h : s.g[c]? = some (.lst xs)) : blt .len [.ref c] s = some (.int xs.length, s) := by
  show (match seqOf s (.ref c) with
    | some xs => some (PV.int xs.length, s)
    | none => none) = _
  unfold seqOf lstAt
  simp only [h]
theorem b_lenT {xs : List PV} : blt .len [.tup xs] s = some (.int xs.length, s) := rfl
theorem r_setIx {n k : Nat} {j : Int} {xs : List PV} (h : scp (evE C e σ) s = some (v, s1)) (ho : evE C o σ s1 = some (.ref n, s2)) (hi : evE C a σ s2 = some (.int j, s3)) (hg : s3.g[n]? = some (.lst xs)) (hk : ixE xs.length j = some k) (hv : v.rf = true) :
    evS C (.setIx o a e) σ s = some (.nx σ, ⟨s3.g.set n (.lst (xs.set k v)), s3.lo⟩) := by
  rw [evS, h]; simp only; rw [ho]; simp only; rw [hi]; simp only
  show (setItem (.ref n) (.int j) v s3).map _ = _
  unfold setItem
  simp only [hg, hk]
  show some _ = some _
  unfold S.wr
  rw [hv]
  rfl
/-- a def's run -/
theorem r_run {D : List (Nat × Dfn)} {k f : Nat} {d : Dfn} {vs : List PV} {g1 j : List GO} {lo : Nat} (hd : D.lookup f = some d) (hl : vs.length = d.np) (hg : g1.length = s.size) (hlo : s.size ≤ lo) (hv : v.blw s.size = true)
    (h : evB (runD D k) d.body (vs.map some ++ List.replicate (d.nl - d.np) none) ⟨s.g, s.size⟩ = some (.rt v, ⟨g1 ++ j, lo⟩)) : runD D (k + 1) f vs s = some (v, ⟨g1, s.lo⟩) := by
  rw [runD, hd]
  simp only
  rw [if_pos hl]
  unfold scp
  simp only [h]
  unfold tidy
  rw [if_pos hlo, if_pos hv, List.take_left' hg]

theorem r_one {st : XS} (h : evB C (.cons st .nil) σ s = some (.nx σ', s1)) : evS C st σ s = some (.nx σ', s1) := by
  rw [evB] at h
  cases q : evS C st σ s with
  | none => rw [q] at h; cases h
  | some o =>
    obtain ⟨o, t⟩ := o
    rw [q] at h
    cases o with
    | nx e =>
      simp only at h
      rw [evB] at h
      cases h
      rfl
    | _ => simp only at h; cases h

theorem r_sl {lo hi : XO} {l u : Option Int} (h : evE C o σ s = some (x, s1)) (hl : evO C lo σ s1 = some (l, s2)) (hu : evO C hi σ s2 = some (u, s3)) (hs : slice x l u s3 = some (v, s4)) : evE C (.sl o lo hi) σ s = some (v, s4) := by
  rw [evE, h]; simp only; rw [hl]; simp only; rw [hu]; exact hs
theorem r_on : evO C .none σ s = some (none, s) := by rw [evO]
theorem r_os {i : Int} (h : evE C e σ s = some (.int i, s1)) : evO C (.some e) σ s = some (some i, s1) := by
  rw [evO, h]
theorem r_for {tg : TgE} {it : XI} {B : XB} {kills : List Nat} {iter : IT} (hi : evI C it σ ⟨s.g, s.size⟩ = some (iter, s1)) (hl : forL (fun s i => iter.get s i) (forTurn tg kills (fun σ s => evB C B σ s)) fuel 0 σ s1 = some (.nx σ', s2)) :
    evS C (.for tg it B kills) σ s = some (.nx σ', tidyE s.size s.lo σ' s2) := by
  rw [evS, hi]; simp only; rw [hl]
theorem for_go {get : S → Nat → Option (Option PV)} {turn : PV → Env → S → Option (Out × S)} {P : Nat → Env → S → Prop} {n : Nat} (hs : ∀ i σ s, i < n → P i σ s → ∃ v σ' s', get s i = some (some v) ∧ turn v σ s = some (.nx σ', s') ∧ P (i + 1) σ' s')
    (hd : ∀ σ s, P n σ s → get s n = some none) : ∀ (f i : Nat) (σ : Env) (s : S), n - i < f → i ≤ n → P i σ s → ∃ σ' s', forL get turn f i σ s = some (.nx σ', s') ∧ P n σ' s'
  | 0, _, _, _, h, _, _ => absurd h (Nat.not_lt_zero _)
  | f + 1, i, σ, s, h, hi, p => by
    unfold forL
    by_cases e : i = n
    · subst e
      rw [hd σ s p]
      exact ⟨σ, s, rfl, p⟩
    · obtain ⟨v, σ', s', g, t, p'⟩ := hs i σ s (by omega) p
      rw [g]
      simp only
      rw [t]
      exact for_go hs hd f (i + 1) σ' s' (by omega) (by omega) p'
theorem turn_nx {tg : TgE} {kills : List Nat} {run : Env → S → Option (Out × S)} {σ2 σ3 : Env} (ha : asn tg v σ = some σ2) (hr : run σ2 ⟨s.g, s.size⟩ = some (.nx σ3, s1)) : forTurn tg kills run v σ s = some (.nx (wipeE σ3 kills), tidyE s.size s.lo (wipeE σ3 kills) s1) := by
  unfold forTurn
  rw [ha]
  simp only
  rw [hr]
  rfl
/-- behind a turn: nothing new -/
theorem tidyE_same {g : List GO} {n lo : Nat} (hn : g.length = n) (hb : envBlw n σ = true) : tidyE n lo σ ⟨g, n⟩ = ⟨g, lo⟩ := by
  unfold tidyE
  rw [if_pos (Nat.le_refl _), if_pos hb, ← hn, List.take_length]
theorem tidyE_drop {g j : List GO} {n lo m : Nat} (hn : g.length = n) (hm : n ≤ m) (hb : envBlw n σ = true) : tidyE n lo σ ⟨g ++ j, m⟩ = ⟨g, lo⟩ := by
  unfold tidyE
  rw [if_pos hm, if_pos hb, List.take_left' hn]

/-! ### more expressions -/
theorem r_cmp2t {o1 o2 : Cop} {d : Bool} (h1 : evE C a σ s = some (x, s1)) (h2 : evE C b σ s1 = some (y, s2)) (h3 : cop o1 x y s2 = some true) (h4 : evE C c σ s2 = some (z, s3)) (h5 : cop o2 y z s3 = some d) : evE C (.cmp2 o1 o2 a b c) σ s = some (.bl d, s3) := by
  rw [evE, h1]; simp only; rw [h2]; simp only; rw [h3]; simp only; rw [h4]; simp only; rw [h5]; rfl
theorem r_cmp2f {o1 o2 : Cop} (h1 : evE C a σ s = some (x, s1)) (h2 : evE C b σ s1 = some (y, s2)) (h3 : cop o1 x y s2 = some false) : evE C (.cmp2 o1 o2 a b c) σ s = some (.bl false, s2) := by
  rw [evE, h1]; simp only; rw [h2]; simp only; rw [h3]
theorem r_andt {r : Option (PV × S)} (h1 : evE C a σ s = some (.bl true, s1)) (h2 : evE C b σ s1 = r) : evE C (.and a b) σ s = r := by
  rw [evE, h1]; exact h2
theorem r_andf (h1 : evE C a σ s = some (.bl false, s1)) : evE C (.and a b) σ s = some (.bl false, s1) := by
  rw [evE, h1]
theorem r_ort (h1 : evE C a σ s = some (.bl true, s1)) : evE C (.or a b) σ s = some (.bl true, s1) := by
  rw [evE, h1]
theorem r_orf {r : Option (PV × S)} (h1 : evE C a σ s = some (.bl false, s1)) (h2 : evE C b σ s1 = r) : evE C (.or a b) σ s = r := by
  rw [evE, h1]; exact h2
theorem r_not {d : Bool} (h1 : evE C a σ s = some (.bl d, s1)) : evE C (.not a) σ s = some (.bl (!d), s1) := by
  rw [evE, h1]
theorem r_itet {r : Option (PV × S)} (h1 : evE C a σ s = some (.bl true, s1)) (h2 : evE C b σ s1 = r) : evE C (.ite a b c) σ s = r := by
  rw [evE, h1]; exact h2
theorem r_itef {r : Option (PV × S)} (h1 : evE C a σ s = some (.bl false, s1)) (h2 : evE C c σ s1 = r) : evE C (.ite a b c) σ s = r := by
  rw [evE, h1]; exact h2
theorem r_mth {m : Mth} {vs : List PV} (h : evE C o σ s = some (x, s1)) (ht : mthTy m x s1 = true) (hl : evL C es σ s1 = some (vs, s2)) (hm : mth m x vs s2 = some (v, s3)) : evE C (.mth m o es) σ s = some (v, s3) := by
  rw [evE, h]; simp only; rw [if_pos ht, hl]; exact hm
theorem r_rev {xs : List PV} (h : evE C o σ s = some (.tup xs, s1)) : evE C (.rev o) σ s = some (.tup xs.reverse, s1) := by
  rw [evE, h]
theorem r_ex (h : scp (evE C e σ) s = some (v, s1)) : evS C (.ex e) σ s = some (.nx σ, s1) := by
  rw [evS, h]
/-! ### iterators -/
theorem i_tup {xs : List PV} (h : evE C e σ s = some (.tup xs, s1)) : evI C (.seq e) σ s = some (.vals xs, s1) := by rw [evI, h]
theorem i_str {xs : Sg} (h : evE C e σ s = some (.str xs, s1)) : evI C (.seq e) σ s = some (.vals (xs.map fun c => .str [c]), s1) := by rw [evI, h]
theorem i_lst {n : Nat} {xs : List PV} (h : evE C e σ s = some (.ref n, s1)) (hl : lstAt s1 n = some xs) : evI C (.seq e) σ s = some (.lref n, s1) := by rw [evI, h]; simp only; rw [hl]; rfl
theorem i_rng {j : Int} (h : evE C e σ s = some (.int j, s1)) (hj : intOk j = true) : evI C (.rng e) σ s = some (.vals (rangeV 0 j), s1) := by rw [evI, h]; simp only; rw [if_pos hj]
theorem i_rng2 {i j : Int} (h : evE C a σ s = some (.int i, s1)) (h2 : evE C b σ s1 = some (.int j, s2)) (hj : (intOk i && intOk j) = true) : evI C (.rng2 a b) σ s = some (.vals (rangeV i j), s2) := by
  rw [evI, h]; simp only; rw [h2]; simp only; rw [if_pos hj]
theorem i_enum {n : Nat} {xs : List PV} (h : evE C e σ s = some (.ref n, s1)) (hl : lstAt s1 n = some xs) : evI C (.enum e) σ s = some (.enum (.lref n), s1) := by rw [evI, h]; simp only; rw [hl]; rfl
/-! ### comprehensions -/
theorem t_none : evT C .none σ s = some (true, s) := by rw [evT]
theorem t_some {d : Bool} (h : scp (evE C e σ) s = some (.bl d, s1)) : evT C (.some e) σ s = some (d, s1) := by rw [evT, h]
theorem turn_lc {tg : TgE} {σw σ2 : Env} {runT : Env → S → Option (Bool × S)} {runE : Env → S → Option (PV × S)} (ha : asn tg v σw = some σ2) (ht : runT σ2 s = some (true, s1)) (he : scp (runE σ2) s1 = some (x, s2)) : lcTurn tg σw runT runE v s = some ([x], s2) := by
  unfold lcTurn
  rw [ha]; simp only; rw [ht]; simp only; rw [if_pos trivial, he]
theorem turn_lcF {tg : TgE} {σw σ2 : Env} {runT : Env → S → Option (Bool × S)} {runE : Env → S → Option (PV × S)} (ha : asn tg v σw = some σ2) (ht : runT σ2 s = some (false, s1)) : lcTurn tg σw runT runE v s = some ([], s1) := by
  unfold lcTurn
  rw [ha]; simp only; rw [ht]; simp
theorem lc_go {get : S → Nat → Option (Option PV)} {turn : PV → S → Option (List PV × S)} {P : Nat → List PV → S → Prop} {n : Nat} (hs : ∀ i acc s, i < n → P i acc s → ∃ v out s', get s i = some (some v) ∧ turn v s = some (out, s') ∧ P (i + 1) (acc ++ out) s')
    (hd : ∀ acc s, P n acc s → get s n = some none) : ∀ (f i : Nat) (acc : List PV) (s : S), n - i < f → i ≤ n → P i acc s → ∃ acc' s', lcL get turn f i acc s = some (acc', s') ∧ P n acc' s'
  | 0, _, _, _, h, _, _ => absurd h (Nat.not_lt_zero _)
  | f + 1, i, acc, s, h, hi, p => by
    unfold lcL
    by_cases e : i = n
    · subst e
      rw [hd acc s p]
      exact ⟨acc, s, rfl, p⟩
    · obtain ⟨v, out, s', g, t, p'⟩ := hs i acc s (by omega) p
      rw [g]
      simp only
      rw [t]
      exact lc_go hs hd f (i + 1) (acc ++ out) s' (by omega) (by omega) p'
theorem r_lc {tg : TgE} {it : XI} {ifs : XO} {iter : IT} {acc : List PV} (hi : evI C it σ s = some (iter, s1)) (hl : lcL (fun s i => iter.get s i) (lcTurn tg (wipeE σ tg.slots) (fun σ s => evT C ifs σ s) (fun σ s => evE C e σ s)) fuel 0 [] s1 = some (acc, s2)) (h : acc.length ≤ line) :
    evE C (.lc e tg it ifs) σ s = some (.ref s2.size, s2.push (.lst acc)) := by
  rw [evE, hi]; simp only; rw [hl]; simp only; rw [if_pos h]; rfl
/-- a comprehension over given values that changes nothing -/
theorem lc_pure {xs : List PV} {turn : PV → S → Option (List PV × S)} {g : PV → List PV} (hx : xs.length < fuel) (ht : ∀ v ∈ xs, turn v s = some (g v, s)) : lcL (fun s i => IT.get s (.vals xs) i) turn fuel 0 [] s = some (xs.flatMap g, s) := by
  obtain ⟨acc', s', h, e1, e2⟩ := lc_go (get := fun s i => IT.get s (.vals xs) i) (turn := turn) (n := xs.length) (P := fun i acc t => acc = (xs.take i).flatMap g ∧ t = s)
    (by
      rintro i acc t hi ⟨rfl, rfl⟩
      refine ⟨xs[i], g xs[i], t, ?_, ht _ (List.getElem_mem hi), ?_, ?_⟩
      · show some xs[i]? = _
        rw [List.getElem?_eq_getElem hi]
      · show _ = List.flatMap g (List.take (i + 1) xs)
        rw [List.take_add_one, List.getElem?_eq_getElem hi, List.flatMap_append]
        show _ = _ ++ List.flatMap g [xs[i]]
        rw [List.flatMap_cons, List.flatMap_nil, List.append_nil]
      · rfl)
    (by
      rintro acc t _
      show some xs[xs.length]? = _
      rw [List.getElem?_eq_none (Nat.le_refl _)])
    fuel 0 [] s (by omega) (Nat.zero_le _) ⟨by simp, rfl⟩
  rw [h, e1, e2, List.take_length]
end
end Ev

set_option linter.all false
set_option autoImplicit false
set_option maxRecDepth 100000
set_option maxHeartbeats 4000000
namespace Ev
open PySem
def sSt (ns : List Int) : S := ⟨[.fix (ns.map PV.int)], 1⟩
def x__law_spread : Dfn := ⟨2, 8, (.cons (.iff (.cmp .ge (.v 0) (.bin .pow (.c (.int 10)) (.c (.int 18)))) (.cons (.ret (.v 0)) .nil) .nil) (.cons (.asg (.nm 2) (.lst (.cons (.c (.int 2147483629)) (.cons (.c (.int 2147483587)) (.cons (.c (.int 2147483579)) (.cons (.c (.int 2147483563)) (.cons (.c (.int 2147483549)) (.cons (.c (.int 2147483543)) (.cons (.c (.int 2147483497)) .nil))))))))) (.cons (.asg (.nm 2) (.bin .add (.v 2) (.lst (.cons (.c (.int 2147483489)) (.cons (.c (.int 2147483477)) (.cons (.c (.int 2147483423)) (.cons (.c (.int 2147483399)) (.cons (.c (.int 2147483353)) (.cons (.c (.int 2147483323)) .nil))))))))) (.cons (.asg (.nm 3) (.bin .add (.bin .add (.bin .mul (.bin .mod (.blt .int (.cons (.v 0) .nil)) (.c (.int 1000000007))) (.bin .add (.bin .mul (.c (.int 2)) (.v 1)) (.c (.int 69069)))) (.bin .mul (.v 1) (.c (.int 40503)))) (.c (.int 977)))) (.cons (.asg (.nm 4) (.bin .mod (.blt .int (.cons (.bin .pow (.v 3) (.c (.int 3))) .nil)) (.idx (.v 2) (.bin .mod (.blt .int (.cons (.v 1) .nil)) (.c (.int 13)))))) (.cons (.asg (.nm 5) (.bin .add (.bin .mod (.blt .int (.cons (.v 0) .nil)) (.c (.int 65537))) (.c (.int 5)))) (.cons (.asg (.nm 6) (.bin .mod (.blt .int (.cons (.bin .pow (.bin .add (.bin .mul (.v 4) (.bin .add (.v 1) (.c (.int 3)))) (.v 5)) (.c (.int 5))) .nil)) (.idx (.v 2) (.bin .mod (.blt .int (.cons (.bin .add (.v 1) (.c (.int 5))) .nil)) (.c (.int 13)))))) (.cons (.asg (.nm 7) (.bin .mod (.blt .int (.cons (.bin .pow (.bin .add (.bin .add (.v 6) (.bin .mod (.blt .int (.cons (.v 4) .nil)) (.c (.int 1009)))) (.v 1)) (.c (.int 3))) .nil)) (.idx (.v 2) (.bin .mod (.blt .int (.cons (.bin .add (.v 1) (.c (.int 7))) .nil)) (.c (.int 13)))))) (.cons (.ret (.bin .add (.bin .mul (.bin .add (.bin .mul (.v 4) (.c (.int 2147483647))) (.v 6)) (.c (.int 2147483647))) (.v 7))) .nil)))))))))⟩
def x__law_open : Dfn := ⟨1, 4, (.cons (.asg (.nm 1) (.blt .list (.cons (.sl (.v 0) .none (.some (.c (.int 12)))) .nil))) (.cons (.for (.tp [(.nm 2), (.nm 3)]) (.enum (.sl (.v 0) (.some (.c (.int 12))) (.some (.c (.int 63))))) (.cons (.setIx (.v 1) (.bin .mod (.blt .int (.cons (.v 2) .nil)) (.c (.int 12))) (.bin .add (.idx (.v 1) (.bin .mod (.blt .int (.cons (.v 2) .nil)) (.c (.int 12)))) (.v 3))) .nil) [2, 3]) (.cons (.ret (.lst (.cons (.v 1) (.cons (.c (.int 0)) (.cons (.c (.int 0)) .nil))))) .nil)))⟩
def x__law_anew : Dfn := ⟨1, 1, (.cons (.setIx (.v 0) (.c (.int 2)) (.c (.int 0))) (.cons (.ret (.v 0)) .nil))⟩
def x__law_take : Dfn := ⟨2, 5, (.cons (.iff (.cmp .lt (.idx (.v 0) (.c (.int 2))) (.v 1)) (.cons (.asg (.nm 3) (.idx (.v 0) (.c (.int 1)))) (.cons (.asg (.nm 4) (.c (.int 0))) (.cons (.iff (.cmp .lt (.v 3) (.blt .len (.cons (.idx (.v 0) (.c (.int 0))) .nil))) (.cons (.asg (.nm 4) (.idx (.idx (.v 0) (.c (.int 0))) (.v 3))) .nil) (.cons (.iff (.cmp .gt (.blt .len (.cons (.idx (.v 0) (.c (.int 0))) .nil)) (.c (.int 0))) (.cons (.asg (.nm 4) (.bin .mod (.blt .int (.cons (.idx (.idx (.v 0) (.c (.int 0))) (.bin .mod (.blt .int (.cons (.bin .add (.bin .mul (.v 3) (.c (.int 5))) (.c (.int 3))) .nil)) (.blt .len (.cons (.idx (.v 0) (.c (.int 0))) .nil)))) .nil)) (.bin .add (.bin .pow (.c (.int 10)) (.c (.int 17))) (.v 3)))) .nil) .nil) .nil)) (.cons (.setIx (.v 0) (.c (.int 1)) (.bin .add (.v 3) (.c (.int 1)))) (.cons (.setIx (.v 0) (.c (.int 2)) (.call 15 (.cons (.v 4) (.cons (.v 3) .nil)))) .nil))))) .nil) (.cons (.asg (.nm 2) (.bin .mod (.blt .int (.cons (.idx (.v 0) (.c (.int 2))) .nil)) (.v 1))) (.cons (.setIx (.v 0) (.c (.int 2)) (.bin .fdiv (.idx (.v 0) (.c (.int 2))) (.v 1))) (.cons (.ret (.v 2)) .nil))))⟩
def x__law_one : Dfn := ⟨2, 2, (.cons (.ret (.idx (.v 1) (.call 18 (.cons (.v 0) (.cons (.blt .len (.cons (.v 1) .nil)) .nil))))) .nil)⟩
def primes : List PV := [.int 2147483629, .int 2147483587, .int 2147483579, .int 2147483563, .int 2147483549, .int 2147483543, .int 2147483497, .int 2147483489, .int 2147483477, .int 2147483423, .int 2147483399, .int 2147483353, .int 2147483323]
theorem primes_at {i : Int} (h0 : 0 ≤ i) (h1 : i < 13) : ∃ p : Int, at? primes i = some (.int p) ∧ 0 < p ∧ p < 2147483648 := by
  obtain ⟨n, rfl⟩ : ∃ n : Nat, i = n := ⟨i.toNat, by omega⟩
  have hn : n < 13 := by omega
  rcases n with _ | _ | _ | _ | _ | _ | _ | _ | _ | _ | _ | _ | _ | n
  all_goals first
    | exact ⟨_, rfl, by decide, by decide⟩
    | omega
theorem pow10_18 {C : Nat → List PV → S → Option (PV × S)} {σ : Env} {s : S} : evE C (.bin .pow (.c (.int 10)) (.c (.int 18))) σ s = some (.int 1000000000000000000, s) :=
  r_bin r_c r_c (b_pow (n := 18) rfl (by decide))
theorem spread_run (C : Nat → List PV → S → Option (PV × S)) (cell k : Int) (s : S) (ha : 0 ≤ k) (hb : k < 2 ^ 32) (hs : s.lo = s.size) :
    ∃ r : Int, 0 ≤ r ∧ ∃ g, evB C x__law_spread.body [some (.int cell), some (.int k), none, none, none, none, none, none] s = some (.rt (.int r), ⟨s.g ++ g, s.size⟩) := by
  by_cases hc : 1000000000000000000 ≤ cell
  · refine ⟨cell, by omega, [], ?_⟩
    unfold x__law_spread
    have e : (⟨s.g ++ [], s.size⟩ : S) = s := by rw [List.append_nil, ← hs]
    rw [e]
    refine r_rt (r_ift (r_scp0 (r_cmp (r_v rfl) pow10_18 (by show some (decide (1000000000000000000 ≤ cell)) = some true; rw [decide_eq_true hc])) rfl) (r_rt (r_ret (r_v rfl))))
  · obtain ⟨p1, e1, l1, u1⟩ := primes_at (i := k % 13) (by omega) (by omega)
    obtain ⟨p2, e2, l2, u2⟩ := primes_at (i := (k + 5) % 13) (by omega) (by omega)
    obtain ⟨p3, e3, l3, u3⟩ := primes_at (i := (k + 7) % 13) (by omega) (by omega)
    let m := cell % 1000000007 * (2 * k + 69069) + k * 40503 + 977
    have m0 : 0 ≤ cell % 1000000007 := Int.emod_nonneg _ (by decide)
    have m1 : cell % 1000000007 < 1000000007 := Int.emod_lt_of_pos _ (by decide)
    have mA : 0 ≤ cell % 1000000007 * (2 * k + 69069) := Int.mul_nonneg m0 (by omega)
    have mB : cell % 1000000007 * (2 * k + 69069) ≤ 1000000007 * (2 * k + 69069) := Int.mul_le_mul_of_nonneg_right (by omega) (by omega)
    have mS : small64 m = true := small_ok (by show _ < cell % 1000000007 * (2 * k + 69069) + k * 40503 + 977; omega) (by show cell % 1000000007 * (2 * k + 69069) + k * 40503 + 977 < _; omega)
    let one := m ^ 3 % p1
    have o0 : 0 ≤ one := Int.emod_nonneg _ (by omega)
    have o1 : one < p1 := Int.emod_lt_of_pos _ l1
    let rest := cell % 65537 + 5
    have r0 : 0 ≤ rest := by have := Int.emod_nonneg cell (b := 65537) (by decide); show 0 ≤ cell % 65537 + 5; omega
    have r1 : rest < 65542 := by have := Int.emod_lt_of_pos cell (b := 65537) (by decide); show cell % 65537 + 5 < _; omega
    let two0 := one * (k + 3) + rest
    have tA : 0 ≤ one * (k + 3) := Int.mul_nonneg o0 (by omega)
    have tB : one * (k + 3) ≤ 2147483648 * (k + 3) := Int.mul_le_mul_of_nonneg_right (by omega) (by omega)
    have tS : small64 two0 = true := small_ok (by show _ < one * (k + 3) + rest; omega) (by show one * (k + 3) + rest < _; omega)
    let two := two0 ^ 5 % p2
    have w0 : 0 ≤ two := Int.emod_nonneg _ (by omega)
    have w1 : two < p2 := Int.emod_lt_of_pos _ l2
    let three0 := two + one % 1009 + k
    have q0 : 0 ≤ one % 1009 := Int.emod_nonneg _ (by decide)
    have q1 : one % 1009 < 1009 := Int.emod_lt_of_pos _ (by decide)
    have hS : small64 three0 = true := small_ok (by show _ < two + one % 1009 + k; omega) (by show two + one % 1009 + k < _; omega)
    let three := three0 ^ 3 % p3
    have h0 : 0 ≤ three := Int.emod_nonneg _ (by omega)
    have z0 : 0 ≤ one * 2147483647 + two := by omega
    have z1 : 0 ≤ (one * 2147483647 + two) * 2147483647 + three := by omega
    have b1 : one * 2147483647 + two < 2147483648 * 2147483648 := by omega
    have sOne : small64 one = true := small_ok (by omega) (by omega)
    have sZ : small64 (one * 2147483647 + two) = true := small_ok (by omega) (by omega)
    refine ⟨(one * 2147483647 + two) * 2147483647 + three, z1, [.lst (primes.take 7), .lst primes], ?_⟩
    unfold x__law_spread
    refine r_nx (r_iff (r_scp0 (r_cmp (r_v rfl) pow10_18 (by show some (decide (1000000000000000000 ≤ cell)) = some false; rw [decide_eq_false hc])) rfl) r_bnil) ?_
    let s1 : S := ⟨s.g ++ [.lst (primes.take 7)], s.lo⟩
    let s2 : S := ⟨s1.g ++ [.lst primes], s.lo⟩
    have a1 : s1.g[s.size]? = some (.lst (primes.take 7)) := getE
    have a2 : s2.g[s1.size]? = some (.lst primes) := getE
    refine r_nx (s1 := s1) (r_asg (r_scpL (m := s.size) (r_lst (r_cons r_c (r_cons r_c (r_cons r_c (r_cons r_c (r_cons r_c (r_cons r_c (r_cons r_c r_nil))))))) (by decide)) (Nat.le_refl _) getE rfl) rfl) ?_
    refine r_nx (s1 := s2) (r_asg (r_scpL (m := s1.size + 1) (g := [.lst (primes.drop 7), .lst primes])
      (r_bin (r_v rfl) (r_lst (r_cons r_c (r_cons r_c (r_cons r_c (r_cons r_c (r_cons r_c (r_cons r_c r_nil)))))) (by decide)) ?_) (Nat.le_succ _) ?_ rfl) rfl) ?_
    · have q1 : (s1.g ++ [GO.lst (primes.drop 7)])[s.size]? = some (.lst (primes.take 7)) := by
        rw [List.getElem?_append_left (by show s.g.length < (s.g ++ [_]).length; simp)]
        exact a1
      have q := b_addL (s := ⟨s1.g ++ [.lst (primes.drop 7)], s1.size⟩) q1 (getE (l := s1.g)) (by decide)
      have e1 : (⟨s1.g ++ [GO.lst (primes.drop 7)], s1.size⟩ : S).size = s1.size + 1 := by simp [S.size]
      have e2 : (⟨s1.g ++ [GO.lst (primes.drop 7)], s1.size⟩ : S).push (.lst (primes.take 7 ++ primes.drop 7)) = ⟨s1.g ++ [.lst (primes.drop 7), .lst primes], s1.size⟩ := by
        simp [S.push, primes]
      rw [e1, e2] at q
      exact q
    · rw [List.getElem?_append_right (Nat.le_succ _)]
      show [GO.lst (primes.drop 7), .lst primes][s1.size + 1 - s1.size]? = _
      rw [Nat.add_sub_cancel_left]
      rfl
    have itm : ∀ {i : Int} {t : S}, t.g = s2.g → item (.ref s1.size) (.int i) t = at? primes i := fun {i t} e => itemL (by rw [e]; exact a2)
    have sm : ∀ {x : Int}, x = 2 ∨ x = 40503 ∨ x = 2147483647 → small64 x = true := by
      rintro x (rfl | rfl | rfl) <;> rfl
    refine r_nx (s1 := s2) (r_asg (v := .int m) (r_scp0 (r_bin (r_bin (r_bin (r_bin (r_int (r_v rfl)) r_c (b_mod (by decide))) (r_bin (r_bin r_c (r_v rfl) (b_mul (.inl (sm (.inl rfl))))) r_c b_add) (b_mul (.inl (small_ok (by omega) (by omega))))) (r_bin (r_v rfl) r_c (b_mul (.inr (sm (.inr (.inl rfl)))))) b_add) r_c b_add) rfl) rfl) ?_
    refine r_nx (s1 := s2) (r_asg (v := .int one) (r_scp0 (r_bin (r_int (r_bin (r_v rfl) r_c (b_pow (n := 3) mS (by decide)))) (r_idx (r_v rfl) (r_bin (r_int (r_v rfl)) r_c (b_mod (by decide))) ((itm rfl).trans e1)) (b_mod l1)) rfl) rfl) ?_
    refine r_nx (s1 := s2) (r_asg (v := .int rest) (r_scp0 (r_bin (r_bin (r_int (r_v rfl)) r_c (b_mod (by decide))) r_c b_add) rfl) rfl) ?_
    refine r_nx (s1 := s2) (r_asg (v := .int two) (r_scp0 (r_bin (r_int (r_bin (r_bin (r_bin (r_v rfl) (r_bin (r_v rfl) r_c b_add) (b_mul (.inl sOne))) (r_v rfl) b_add) r_c (b_pow (n := 5) tS (by decide)))) (r_idx (r_v rfl) (r_bin (r_int (r_bin (r_v rfl) r_c b_add)) r_c (b_mod (by decide))) ((itm rfl).trans e2)) (b_mod l2)) rfl) rfl) ?_
    refine r_nx (s1 := s2) (r_asg (v := .int three) (r_scp0 (r_bin (r_int (r_bin (r_bin (r_bin (r_v rfl) (r_bin (r_int (r_v rfl)) r_c (b_mod (by decide))) b_add) (r_v rfl) b_add) r_c (b_pow (n := 3) hS (by decide)))) (r_idx (r_v rfl) (r_bin (r_int (r_bin (r_v rfl) r_c b_add)) r_c (b_mod (by decide))) ((itm rfl).trans e3)) (b_mod l3)) rfl) rfl) ?_
    have fin : s2 = ⟨s.g ++ [.lst (primes.take 7), .lst primes], s.size⟩ := by
      show (⟨(s.g ++ [_]) ++ [_], s.lo⟩ : S) = _
      rw [List.append_assoc, hs]
      rfl
    rw [← fin]
    exact r_rt (r_ret (r_bin (r_bin (r_bin (r_bin (r_v rfl) r_c (b_mul (.inr (sm (.inr (.inr rfl)))))) (r_v rfl) b_add) r_c (b_mul (.inl sZ))) (r_v rfl) b_add))

/-! ### the pen -/
/-- the pen at p: its cells at c, how many were read, what is left of the last one -/
structure Pen (s : S) (p c : Nat) (cells : List Int) (k seed : Int) : Prop where
  pen : s.g[p]? = some (.lst [.ref c, .int k, .int seed])
  cells : s.g[c]? = some (.lst (cells.map PV.int))
  ne : c ≠ p
  k0 : 0 ≤ k
  k1 : k < 2 ^ 32 - 1
  seed : 0 ≤ seed
def setPen (s : S) (p c : Nat) (k seed : Int) : S := ⟨s.g.set p (.lst [.ref c, .int k, .int seed]), s.lo⟩
theorem Pen.lt {s : S} {p c : Nat} {cells : List Int} {k seed : Int} (P : Pen s p c cells k seed) : p < s.g.length := (List.getElem?_eq_some_iff.mp P.pen).1
theorem Pen.set {s : S} {p c : Nat} {cells : List Int} {k seed k' seed' : Int} (P : Pen s p c cells k seed) (h0 : 0 ≤ k') (h1 : k' < 2 ^ 32 - 1) (h2 : 0 ≤ seed') : Pen (setPen s p c k' seed') p c cells k' seed' where
  pen := by show (s.g.set p _)[p]? = _; rw [List.getElem?_set_self P.lt]
  cells := by show (s.g.set p _)[c]? = _; rw [List.getElem?_set_ne (Ne.symm P.ne)]; exact P.cells
  ne := P.ne
  k0 := h0
  k1 := h1
  seed := h2
theorem at_cells {cells : List Int} {i : Int} (h0 : 0 ≤ i) (h1 : i < cells.length) : ∃ j : Int, at? (cells.map PV.int) i = some (.int j) := by
  unfold at? ixE
  rw [if_pos h0, List.length_map, if_pos h1]
  show ∃ j, (cells.map PV.int)[i.toNat]? = _
  rw [List.getElem?_map, List.getElem?_eq_getElem (by omega)]
  exact ⟨_, rfl⟩
/-- behind the reading: what is found, what is left -/
theorem take_tail {C : Nat → List PV → S → Option (PV × S)} {s : S} {p c : Nat} {k seed many : Int} {x3 x4 : Option PV} (hp : s.g[p]? = some (.lst [.ref c, .int k, .int seed])) (h0 : 0 < many) (h1 : many < 2 ^ 62) :
    evB C (.cons (.asg (.nm 2) (.bin .mod (.blt .int (.cons (.idx (.v 0) (.c (.int 2))) .nil)) (.v 1))) (.cons (.setIx (.v 0) (.c (.int 2)) (.bin .fdiv (.idx (.v 0) (.c (.int 2))) (.v 1))) (.cons (.ret (.v 2)) .nil)))
      [some (.ref p), some (.int many), none, x3, x4] s = some (.rt (.int (seed % many)), setPen s p c k (seed / many)) := by
  have i2 : ∀ {t : S}, t.g = s.g → item (.ref p) (.int 2) t = some (.int seed) := fun {t} e => itemL (s := t) (i := 2) (by rw [e]; exact hp)
  refine r_nx (s1 := s) (r_asg (v := .int (seed % many)) (r_scp0 (r_bin (r_int (r_idx (r_v rfl) r_c (i2 rfl))) (r_v rfl) (b_mod h0)) rfl) rfl) ?_
  refine r_nx (r_setIx (v := .int (seed / many)) (s1 := s) (r_scp0 (r_bin (r_idx (r_v rfl) r_c (i2 rfl)) (r_v rfl) (b_fdiv h0 h1)) rfl) (r_v rfl) r_c hp (k := 2) rfl rfl) ?_
  exact r_rt (r_ret (r_v rfl))
theorem spread_call {D : List (Nat × Dfn)} (hS : D.lookup 15 = some x__law_spread) (n : Nat) (s : S) (cell k : Int) (h0 : 0 ≤ k) (h1 : k < 2 ^ 32) : ∃ r : Int, 0 ≤ r ∧ runD D (n + 1) 15 [.int cell, .int k] s = some (.int r, s) := by
  obtain ⟨r, hr, g, h⟩ := spread_run (runD D n) cell k ⟨s.g, s.size⟩ h0 h1 rfl
  exact ⟨r, hr, r_run (g1 := s.g) (j := g) hS rfl rfl (Nat.le_refl _) rfl h⟩
theorem b_ltI {i j : Int} {s : S} : cop .lt (.int i) (.int j) s = some (decide (i < j)) := rfl
theorem b_gtI {i j : Int} {s : S} : cop .gt (.int i) (.int j) s = some (decide (j < i)) := rfl
theorem pow10_17 {C : Nat → List PV → S → Option (PV × S)} {σ : Env} {s : S} : evE C (.bin .pow (.c (.int 10)) (.c (.int 17))) σ s = some (.int 100000000000000000, s) :=
  r_bin r_c r_c (b_pow (n := 17) rfl (by decide))
theorem take_body {D : List (Nat × Dfn)} (hD : D.lookup 18 = some x__law_take) (hS : D.lookup 15 = some x__law_spread) (n : Nat) {s : S} {p c : Nat} {cells : List Int} {k seed many : Int} (P : Pen s p c cells k seed) (lo : s.lo = s.size) (h0 : 0 < many) (h1 : many < 2 ^ 62) :
    ∃ r k' seed' : Int, evB (runD D (n + 1)) x__law_take.body [some (.ref p), some (.int many), none, none, none] s = some (.rt (.int r), setPen s p c k' seed') ∧ 0 ≤ r ∧ r < many ∧ k ≤ k' ∧ k' ≤ k + 1 ∧ 0 ≤ seed' := by
  have i2 : item (.ref p) (.int 2) s = some (.int seed) := itemL (i := 2) P.pen
  have i1 : ∀ {t : S}, t.g = s.g → item (.ref p) (.int 1) t = some (.int k) := fun {t} e => itemL (s := t) (i := 1) (by rw [e]; exact P.pen)
  have i0 : ∀ {t : S}, t.g = s.g → item (.ref p) (.int 0) t = some (.ref c) := fun {t} e => itemL (s := t) (i := 0) (by rw [e]; exact P.pen)
  by_cases hc : seed < many
  · -- a new cell
    have k0 := P.k0
    have k1 := P.k1
    -- which cell
    have which : ∃ cell : Int, evB (runD D (n + 1)) (.cons (.iff (.cmp .lt (.v 3) (.blt .len (.cons (.idx (.v 0) (.c (.int 0))) .nil))) (.cons (.asg (.nm 4) (.idx (.idx (.v 0) (.c (.int 0))) (.v 3))) .nil) (.cons (.iff (.cmp .gt (.blt .len (.cons (.idx (.v 0) (.c (.int 0))) .nil)) (.c (.int 0))) (.cons (.asg (.nm 4) (.bin .mod (.blt .int (.cons (.idx (.idx (.v 0) (.c (.int 0))) (.bin .mod (.blt .int (.cons (.bin .add (.bin .mul (.v 3) (.c (.int 5))) (.c (.int 3))) .nil)) (.blt .len (.cons (.idx (.v 0) (.c (.int 0))) .nil)))) .nil)) (.bin .add (.bin .pow (.c (.int 10)) (.c (.int 17))) (.v 3)))) .nil) .nil) .nil)) .nil)
        [some (.ref p), some (.int many), none, some (.int k), some (.int 0)] s = some (.nx [some (.ref p), some (.int many), none, some (.int k), some (.int cell)], s) := by
      have hl : ∀ {t : S}, t.g = s.g → evE (runD D (n + 1)) (.blt .len (.cons (.idx (.v 0) (.c (.int 0))) .nil)) [some (.ref p), some (.int many), none, some (.int k), some (.int 0)] t = some (.int cells.length, t) := fun {t} e => by
        have q := b_len (s := t) (c := c) (xs := cells.map PV.int) (by rw [e]; exact P.cells)
        rw [List.length_map] at q
        exact r_blt (r_cons (r_idx (r_v rfl) r_c (i0 e)) r_nil) q
      have ic : ∀ {t : S} {i : Int}, t.g = s.g → item (.ref c) (.int i) t = at? (cells.map PV.int) i := fun {t i} e => itemL (by rw [e]; exact P.cells)
      by_cases h2 : k < cells.length
      · obtain ⟨j, hj⟩ := at_cells k0 h2
        refine ⟨j, r_nx (s1 := s) (r_ift (r_scp0 (r_cmp (r_v rfl) (hl rfl) (by rw [b_ltI, decide_eq_true h2])) rfl) (r_nx (s1 := s) (r_asg (v := .int j) (r_scp0 (r_idx (r_idx (r_v rfl) r_c (i0 rfl)) (r_v rfl) ((ic rfl).trans hj)) rfl) rfl) r_bnil)) r_bnil⟩
      · by_cases h3 : (0 : Int) < cells.length
        · obtain ⟨j, hj⟩ := at_cells (cells := cells) (i := (k * 5 + 3) % cells.length) (Int.emod_nonneg _ (by omega)) (Int.emod_lt_of_pos _ h3)
          have s5 : small64 5 = true := rfl
          refine ⟨j % (100000000000000000 + k), r_nx (s1 := s) (r_iff (r_scp0 (r_cmp (r_v rfl) (hl rfl) (by rw [b_ltI, decide_eq_false h2])) rfl) (r_nx (s1 := s) (r_ift (r_scp0 (r_cmp (hl rfl) r_c (by rw [b_gtI, decide_eq_true h3])) rfl)
            (r_nx (s1 := s) (r_asg (v := .int (j % (100000000000000000 + k))) (r_scp0 (r_bin (r_int (r_idx (r_idx (r_v rfl) r_c (i0 rfl)) (r_bin (r_int (r_bin (r_bin (r_v rfl) r_c (b_mul (.inr s5))) r_c b_add)) (hl rfl) (b_mod h3)) ((ic rfl).trans hj))) (r_bin pow10_17 (r_v rfl) b_add) (b_mod (by omega))) rfl) rfl) r_bnil)) r_bnil)) r_bnil⟩
        · refine ⟨0, r_nx (s1 := s) (r_iff (r_scp0 (r_cmp (r_v rfl) (hl rfl) (by rw [b_ltI, decide_eq_false h2])) rfl) (r_nx (s1 := s) (r_iff (r_scp0 (r_cmp (hl rfl) r_c (by rw [b_gtI, decide_eq_false h3])) rfl) r_bnil) r_bnil)) r_bnil⟩
    obtain ⟨cell, hcell⟩ := which
    let s1 : S := setPen s p c (k + 1) seed
    have g1 : s1.g[p]? = some (.lst [.ref c, .int (k + 1), .int seed]) := by show (s.g.set p _)[p]? = _; rw [List.getElem?_set_self P.lt]
    have z1 : s1.size = s.size := by show (s.g.set p _).length = _; rw [List.length_set]
    obtain ⟨r, hr, hcall⟩ := spread_call hS n ⟨s1.g, s1.size⟩ cell k k0 (by omega)
    let s2 : S := setPen s p c (k + 1) r
    have g2 : s2.g[p]? = some (.lst [.ref c, .int (k + 1), .int r]) := by show (s.g.set p _)[p]? = _; rw [List.getElem?_set_self P.lt]
    have e2 : (⟨s1.g.set p (.lst [.ref c, .int (k + 1), .int r]), s1.lo⟩ : S) = s2 := by
      show (⟨(s.g.set p _).set p _, s.lo⟩ : S) = ⟨s.g.set p _, s.lo⟩
      rw [List.set_set]
    have e3 : setPen s2 p c (k + 1) (r / many) = setPen s p c (k + 1) (r / many) := by
      show (⟨(s.g.set p _).set p _, s.lo⟩ : S) = ⟨s.g.set p _, s.lo⟩
      rw [List.set_set]
    refine ⟨r % many, k + 1, r / many, ?_, Int.emod_nonneg _ (by omega), Int.emod_lt_of_pos _ h0, by omega, Int.le_refl _, Int.ediv_nonneg hr (by omega)⟩
    unfold x__law_take
    rw [← e3]
    refine r_nx (s1 := s2) (σ' := [some (.ref p), some (.int many), none, some (.int k), some (.int cell)]) (r_ift (r_scp0 (r_cmp (r_idx (r_v rfl) r_c i2) (r_v rfl) (by show some (decide (seed < many)) = some true; rw [decide_eq_true hc])) rfl) ?_) (take_tail g2 h0 h1)
    refine r_nx (s1 := s) (r_asg (v := .int k) (r_scp0 (r_idx (r_v rfl) r_c (i1 rfl)) rfl) rfl) ?_
    refine r_nx (s1 := s) (r_asg (v := .int 0) (r_scp0 r_c rfl) rfl) ?_
    refine r_nx (s1 := s) (r_one hcell) ?_
    refine r_nx (s1 := s1) (r_setIx (v := .int (k + 1)) (s1 := s) (r_scp0 (r_bin (r_v rfl) r_c b_add) rfl) (r_v rfl) r_c P.pen (k := 1) rfl rfl) ?_
    have q := r_setIx (C := runD D (n + 1)) (σ := [some (.ref p), some (.int many), none, some (.int k), some (.int cell)]) (s := s1) (o := .v 0) (a := .c (.int 2)) (e := .call 15 (.cons (.v 4) (.cons (.v 3) .nil))) (v := .int r) (s1 := s1)
      (r_scp0 (r_call (r_cons (r_v rfl) (r_cons (r_v rfl) r_nil)) hcall) rfl) (r_v rfl) r_c g1 (k := 2) rfl rfl
    show evB (runD D (n + 1)) (.cons (.setIx (.v 0) (.c (.int 2)) (.call 15 (.cons (.v 4) (.cons (.v 3) .nil)))) .nil) _ _ = some (.nx _, s2)
    rw [← e2]
    exact r_nx q r_bnil
  · refine ⟨seed % many, k, seed / many, ?_, Int.emod_nonneg _ (by omega), Int.emod_lt_of_pos _ h0, Int.le_refl _, by omega, Int.ediv_nonneg P.seed (by omega)⟩
    unfold x__law_take
    refine r_nx (s1 := s) (r_iff (r_scp0 (r_cmp (r_idx (r_v rfl) r_c i2) (r_v rfl) (by show some (decide (seed < many)) = some false; rw [decide_eq_false hc])) rfl) r_bnil) ?_
    exact take_tail P.pen h0 h1
theorem take_run {D : List (Nat × Dfn)} (hD : D.lookup 18 = some x__law_take) (hS : D.lookup 15 = some x__law_spread) (n : Nat) {s : S} {p c : Nat} {cells : List Int} {k seed many : Int} (P : Pen s p c cells k seed) (h0 : 0 < many) (h1 : many < 2 ^ 62) :
    ∃ r k' seed' : Int, runD D (n + 2) 18 [.ref p, .int many] s = some (.int r, setPen s p c k' seed') ∧ 0 ≤ r ∧ r < many ∧ k ≤ k' ∧ k' ≤ k + 1 ∧ 0 ≤ seed' := by
  obtain ⟨r, k', seed', h, hr⟩ := take_body hD hS n (s := ⟨s.g, s.size⟩) ⟨P.pen, P.cells, P.ne, P.k0, P.k1, P.seed⟩ rfl h0 h1
  refine ⟨r, k', seed', r_run (g1 := (setPen s p c k' seed').g) (j := []) (lo := s.size) hD rfl (by show (s.g.set p _).length = _; rw [List.length_set]) (Nat.le_refl _) rfl ?_, hr⟩
  rw [List.append_nil]
  exact h

theorem setPen_size {s : S} {p c : Nat} {k seed : Int} : (setPen s p c k seed).size = s.size := by show (s.g.set p _).length = _; rw [List.length_set]
theorem setPen_two {s : S} {p c : Nat} {k seed k' seed' : Int} : setPen (setPen s p c k seed) p c k' seed' = setPen s p c k' seed' := by
  show (⟨(s.g.set p _).set p _, s.lo⟩ : S) = ⟨s.g.set p _, s.lo⟩
  rw [List.set_set]
theorem setPen_get {s : S} {p c n : Nat} {k seed : Int} (h : n ≠ p) : (setPen s p c k seed).g[n]? = s.g[n]? := by
  show (s.g.set p _)[n]? = _
  rw [List.getElem?_set_ne (Ne.symm h)]
theorem anew_run {D : List (Nat × Dfn)} (hD : D.lookup 17 = some x__law_anew) (n : Nat) {s : S} {p c : Nat} {cells : List Int} {k seed : Int} (P : Pen s p c cells k seed) :
    runD D (n + 1) 17 [.ref p] s = some (.ref p, setPen s p c k 0) := by
  refine r_run (g1 := (setPen s p c k 0).g) (j := []) (lo := s.size) hD rfl (by show (s.g.set p _).length = _; rw [List.length_set]) (Nat.le_refl _) (by unfold PV.blw; exact decide_eq_true P.lt) ?_
  rw [List.append_nil]
  unfold x__law_anew
  exact r_nx (r_setIx (v := .int 0) (s1 := ⟨s.g, s.size⟩) (r_scp0 r_c rfl) (r_v rfl) r_c P.pen (k := 2) rfl rfl) (r_rt (r_ret (r_v rfl)))
/-- one of a tuple, of a list -/
theorem one_run {D : List (Nat × Dfn)} (hD : D.lookup 19 = some x__law_one) (hT : D.lookup 18 = some x__law_take) (hS : D.lookup 15 = some x__law_spread) (n : Nat) {s : S} {p c : Nat} {cells : List Int} {k seed : Int} (P : Pen s p c cells k seed) {o : PV} {xs : List PV}
    (ho : o = .tup xs ∨ ∃ m, o = .ref m ∧ m ≠ p ∧ s.g[m]? = some (.lst xs)) (hl : xs ≠ []) (hz : xs.length < 2 ^ 62) (hb : PV.blws s.size xs = true) :
    ∃ x k' seed', runD D (n + 3) 19 [.ref p, o] s = some (x, setPen s p c k' seed') ∧ x ∈ xs ∧ k ≤ k' ∧ k' ≤ k + 1 ∧ 0 ≤ seed' := by
  have l0 : 0 < xs.length := List.length_pos_iff.mpr hl
  obtain ⟨r, k', seed', h, r0, r1, k0, k1, q⟩ := take_run hT hS n (s := ⟨s.g, s.size⟩) (many := xs.length) ⟨P.pen, P.cells, P.ne, P.k0, P.k1, P.seed⟩ (by omega) (by omega)
  have hr : r.toNat < xs.length := by omega
  have hi : at? xs r = some xs[r.toNat] := by
    unfold at? ixE
    rw [if_pos r0, if_pos r1]
    exact List.getElem?_eq_getElem hr
  have hx : xs[r.toNat] ∈ xs := List.getElem_mem hr
  have hxb : (xs[r.toNat]).blw s.size = true := by
    have key : ∀ {l : List PV}, PV.blws s.size l = true → ∀ y ∈ l, y.blw s.size = true := by
      intro l
      induction l with
      | nil => intro _ y hy; cases hy
      | cons a l ih =>
        intro h y hy
        unfold PV.blws at h
        obtain ⟨h1, h2⟩ := Bool.and_eq_true_iff.mp h
        rcases List.mem_cons.mp hy with e | hy
        · rw [e]; exact h1
        · exact ih h2 y hy
    exact key hb _ hx
  refine ⟨xs[r.toNat], k', seed', r_run (g1 := (setPen s p c k' seed').g) (j := []) (lo := s.size) hD rfl (by show (s.g.set p _).length = _; rw [List.length_set]) (Nat.le_refl _) hxb ?_, hx, k0, k1, q⟩
  rw [List.append_nil]
  unfold x__law_one
  have hlen : blt .len [o] ⟨s.g, s.size⟩ = some (.int xs.length, ⟨s.g, s.size⟩) := by
    rcases ho with rfl | ⟨m, rfl, _, hm⟩
    · exact b_lenT
    · exact b_len (s := ⟨s.g, s.size⟩) hm
  have hit : item o (.int r) (setPen ⟨s.g, s.size⟩ p c k' seed') = some xs[r.toNat] := by
    rcases ho with rfl | ⟨m, rfl, hne, hm⟩
    · exact hi
    · refine (itemL (xs := xs) ?_).trans hi
      rw [setPen_get hne]
      exact hm
  exact r_rt (r_ret (r_idx (r_v rfl) (r_call (r_cons (r_v rfl) (r_cons (r_blt (r_cons (r_v rfl) r_nil) hlen) r_nil)) h) hit))

theorem cut_map {l : List Int} {lo hi : Option Int} : cut (l.map PV.int) lo hi = (cut l lo hi).map PV.int := by
  unfold cut
  rw [List.length_map, List.map_take, List.map_drop]
theorem cut_len {l : List Int} : (cut l none (some 12)).length = min 12 l.length := by
  unfold cut cutIx
  simp only [show ¬ ((12 : Int) < 0) from by decide, if_false]
  rw [List.length_take, List.length_drop]
  simp
theorem rest_len {l : List Int} (h : cut l (some 12) (some 63) ≠ []) : 12 < l.length := by
  unfold cut cutIx at h
  simp only [show ¬ ((12 : Int) < 0) from by decide, show ¬ ((63 : Int) < 0) from by decide, if_false] at h
  rcases Nat.lt_or_ge 12 l.length with z | z
  · exact z
  · exfalso
    apply h
    rw [List.drop_eq_nil_of_le (by simp; omega), List.take_nil]
theorem rest_le {l : List Int} : (cut l (some 12) (some 63)).length ≤ 63 := by
  unfold cut cutIx
  simp only [show ¬ ((12 : Int) < 0) from by decide, show ¬ ((63 : Int) < 0) from by decide, if_false]
  rw [List.length_take]
  omega
theorem blws_ints {m : Nat} : ∀ l : List Int, PV.blws m (l.map PV.int) = true
  | [] => rfl
  | x :: l => by
    rw [List.map_cons]
    unfold PV.blws
    rw [blws_ints l]
    rfl
/-- the pen of a script -/
theorem open_run {D : List (Nat × Dfn)} (hD : D.lookup 16 = some x__law_open) (n : Nat) (ns : List Int) (hn : ns.length ≤ 63) :
    ∃ cells : List Int, runD D (n + 1) 16 [.ref 0] (sSt ns) = some (.ref 2, ⟨[.fix (ns.map PV.int), .lst (cells.map PV.int), .lst [.ref 1, .int 0, .int 0]], 1⟩) := by
  let a : List Int := cut ns none (some 12)
  let b : List Int := cut ns (some 12) (some 63)
  let F : GO := .fix (ns.map PV.int)
  let t1 : S := ⟨[F, .lst (a.map PV.int)], 1⟩
  let σ1 : Env := [some (.ref 0), some (.ref 1), none, none]
  have st1 : evS (runD D n) (.asg (.nm 1) (.blt .list (.cons (.sl (.v 0) .none (.some (.c (.int 12)))) .nil))) [some (.ref 0), none, none, none] (sSt ns) = some (.nx σ1, t1) := by
    have e : cut (ns.map PV.int) none (some 12) = a.map PV.int := cut_map
    have q0 : evE (runD D n) (.sl (.v 0) .none (.some (.c (.int 12)))) [some (.ref 0), none, none, none] ⟨(sSt ns).g, (sSt ns).size⟩ = some (.ref 1, ⟨[F, .lst (a.map PV.int)], 1⟩) := by
      refine r_sl (r_v rfl) r_on (r_os r_c) ?_
      show alloc (.lst (cut (ns.map PV.int) none (some 12))) ⟨[F], 1⟩ = _
      rw [e]
      rfl
    have q1 : evE (runD D n) (.blt .list (.cons (.sl (.v 0) .none (.some (.c (.int 12)))) .nil)) [some (.ref 0), none, none, none] ⟨(sSt ns).g, (sSt ns).size⟩ = some (.ref 2, ⟨(sSt ns).g ++ [.lst (a.map PV.int), .lst (a.map PV.int)], (sSt ns).size⟩) :=
      r_blt (r_cons q0 r_nil) rfl
    exact r_asg (v := .ref 1) (r_scpL q1 (by show 1 ≤ 2; decide) rfl (blws_ints a)) rfl
  have lenb : b.length ≤ 63 := rest_le
  have st2 : ∃ cells : List Int, evS (runD D n) (.for (.tp [(.nm 2), (.nm 3)]) (.enum (.sl (.v 0) (.some (.c (.int 12))) (.some (.c (.int 63))))) (.cons (.setIx (.v 1) (.bin .mod (.blt .int (.cons (.v 2) .nil)) (.c (.int 12))) (.bin .add (.idx (.v 1) (.bin .mod (.blt .int (.cons (.v 2) .nil)) (.c (.int 12)))) (.v 3))) .nil) [2, 3]) σ1 t1
      = some (.nx σ1, ⟨[F, .lst (cells.map PV.int)], 1⟩) := by
    have hi : evI (runD D n) (.enum (.sl (.v 0) (.some (.c (.int 12))) (.some (.c (.int 63))))) σ1 ⟨t1.g, t1.size⟩ = some (.enum (.lref 2), ⟨[F, .lst (a.map PV.int), .lst (b.map PV.int)], 2⟩) := by
      have e : cut (ns.map PV.int) (some 12) (some 63) = b.map PV.int := cut_map
      have q : evE (runD D n) (.sl (.v 0) (.some (.c (.int 12))) (.some (.c (.int 63)))) σ1 ⟨t1.g, t1.size⟩ = some (.ref 2, ⟨[F, .lst (a.map PV.int), .lst (b.map PV.int)], 2⟩) := by
        refine r_sl (r_v rfl) (r_os r_c) (r_os r_c) ?_
        show alloc (.lst (cut (ns.map PV.int) (some 12) (some 63))) ⟨[F, .lst (a.map PV.int)], 2⟩ = _
        rw [e]
        rfl
      rw [evI, q]
      rfl
    obtain ⟨σ', s', hl, e1, cells, e2, e3⟩ := for_go (get := fun s i => IT.get s (.enum (.lref 2)) i) (turn := forTurn (.tp [(.nm 2), (.nm 3)]) [2, 3] (fun σ s => evB (runD D n) (.cons (.setIx (.v 1) (.bin .mod (.blt .int (.cons (.v 2) .nil)) (.c (.int 12))) (.bin .add (.idx (.v 1) (.bin .mod (.blt .int (.cons (.v 2) .nil)) (.c (.int 12)))) (.v 3))) .nil) σ s))
      (P := fun i σ t => σ = σ1 ∧ ∃ cells : List Int, cells.length = a.length ∧ t = ⟨[F, .lst (cells.map PV.int), .lst (b.map PV.int)], 2⟩) (n := b.length)
      (by
        rintro i σ s hi ⟨rfl, cells, hc, rfl⟩
        have hb : b ≠ [] := fun z => by rw [z] at hi; simp at hi
        have l12 : cells.length = 12 := by
          rw [hc]
          show (cut ns none (some 12)).length = 12
          rw [cut_len]
          have := rest_len hb
          omega
        obtain ⟨y, hy⟩ := at_cells (cells := cells) (i := (i : Int) % 12) (Int.emod_nonneg _ (by decide)) (by have := Int.emod_lt_of_pos (i : Int) (b := 12) (by decide); omega)
        have m0 : 0 ≤ (i : Int) % 12 := Int.emod_nonneg _ (by decide)
        have m1 : (i : Int) % 12 < 12 := Int.emod_lt_of_pos _ (by decide)
        refine ⟨.tup [.int i, .int b[i]], σ1, ⟨[F, .lst ((cells.set ((i : Int) % 12).toNat (y + b[i])).map PV.int), .lst (b.map PV.int)], 2⟩, ?_, ?_, rfl, _, by rw [List.length_set]; exact hc, rfl⟩
        · show (match (some ((b.map PV.int)[i]?) : Option (Option PV)) with
            | some (some v) => some (some (PV.tup [.int i, v]))
            | some none => some none
            | none => none) = _
          rw [List.getElem?_map, List.getElem?_eq_getElem hi]
          rfl
        · have q := r_setIx (C := runD D n) (σ := [some (.ref 0), some (.ref 1), some (.int i), some (.int b[i])]) (s := ⟨[F, .lst (cells.map PV.int), .lst (b.map PV.int)], 3⟩) (o := .v 1) (a := .bin .mod (.blt .int (.cons (.v 2) .nil)) (.c (.int 12)))
            (e := .bin .add (.idx (.v 1) (.bin .mod (.blt .int (.cons (.v 2) .nil)) (.c (.int 12)))) (.v 3)) (v := .int (y + b[i])) (s1 := ⟨[F, .lst (cells.map PV.int), .lst (b.map PV.int)], 3⟩) (s2 := ⟨[F, .lst (cells.map PV.int), .lst (b.map PV.int)], 3⟩) (s3 := ⟨[F, .lst (cells.map PV.int), .lst (b.map PV.int)], 3⟩) (xs := cells.map PV.int) (n := 1) (j := (i : Int) % 12) (k := ((i : Int) % 12).toNat)
            (r_scp0 (r_bin (r_idx (r_v rfl) (r_bin (r_int (r_v rfl)) r_c (b_mod (by decide))) ((itemL (n := 1) rfl).trans hy)) (r_v rfl) b_add) rfl) (r_v rfl) (r_bin (r_int (r_v rfl)) r_c (b_mod (by decide))) rfl
            (by unfold ixE; rw [if_pos m0, if_pos (by rw [List.length_map, l12]; exact m1)]) rfl
          have t := turn_nx (tg := .tp [(.nm 2), (.nm 3)]) (kills := [2, 3]) (v := .tup [.int i, .int b[i]]) (σ := σ1) (s := ⟨[F, .lst (cells.map PV.int), .lst (b.map PV.int)], 2⟩) (run := fun σ s => evB (runD D n) (.cons (.setIx (.v 1) (.bin .mod (.blt .int (.cons (.v 2) .nil)) (.c (.int 12))) (.bin .add (.idx (.v 1) (.bin .mod (.blt .int (.cons (.v 2) .nil)) (.c (.int 12)))) (.v 3))) .nil) σ s) rfl (r_nx q r_bnil)
          rw [t]
          have e4 : (cells.map PV.int).set ((i : Int) % 12).toNat (.int (y + b[i])) = (cells.set ((i : Int) % 12).toNat (y + b[i])).map PV.int := by rw [List.map_set]
          show some (Out.nx σ1, tidyE 3 2 σ1 ⟨[F, .lst ((cells.map PV.int).set _ _), .lst (b.map PV.int)], 3⟩) = _
          rw [e4]
          exact congrArg (fun z => some (Out.nx σ1, z)) (tidyE_same (n := 3) rfl rfl))
      (by
        rintro σ s ⟨rfl, cells, hc, rfl⟩
        show (match (some ((b.map PV.int)[b.length]?) : Option (Option PV)) with
            | some (some v) => some (some (PV.tup [.int b.length, v]))
            | some none => some none
            | none => none) = _
        rw [List.getElem?_eq_none (by rw [List.length_map]; exact Nat.le_refl _)])
      fuel 0 σ1 ⟨[F, .lst (a.map PV.int), .lst (b.map PV.int)], 2⟩ (by show b.length - 0 < 1000000; omega) (Nat.zero_le _) ⟨rfl, a, rfl, rfl⟩
    subst e1
    subst e3
    refine ⟨cells, ?_⟩
    rw [r_for hi hl]
    exact congrArg (fun z => some (Out.nx σ1, z)) (tidyE_drop (g := [F, .lst (cells.map PV.int)]) (j := [.lst (b.map PV.int)]) (n := 2) rfl (Nat.le_refl _) rfl)
  obtain ⟨cells, st2⟩ := st2
  refine ⟨cells, ?_⟩
  have body : evB (runD D n) x__law_open.body [some (.ref 0), none, none, none] (sSt ns) = some (.rt (.ref 2), ⟨[F, .lst (cells.map PV.int), .lst [.ref 1, .int 0, .int 0]], 1⟩) := by
    unfold x__law_open
    exact r_nx st1 (r_nx st2 (r_rt (r_ret (r_lst (r_cons (r_v rfl) (r_cons r_c (r_cons r_c r_nil))) (by decide)))))
  have body' : evB (runD D n) x__law_open.body (List.map some [PV.ref 0] ++ List.replicate (x__law_open.nl - x__law_open.np) none) ⟨(sSt ns).g, (sSt ns).size⟩ = some (.rt (.ref 2), ⟨[F, .lst (cells.map PV.int), .lst [.ref 1, .int 0, .int 0]], 1⟩) := body
  rw [runD, hD]
  simp only
  rw [if_pos (show [PV.ref 0].length = x__law_open.np from rfl)]
  unfold scp
  simp only [body']
  rfl
end Ev

set_option linter.all false
set_option autoImplicit false
set_option maxRecDepth 100000
set_option maxHeartbeats 4000000
namespace Ev
open PySem
def x_is_name : Dfn := ⟨1, 2, (.cons (.ret (.and (.blt .isStr (.cons (.v 0) .nil)) (.and (.cmp2 .le .le (.c (.int 1)) (.blt .len (.cons (.v 0) .nil)) (.c (.int 8))) (.blt .all (.cons (.lc (.cmp .isin (.v 1) (.c (.str [97, 98, 99, 100, 101, 102, 103, 104, 105, 106, 107, 108, 109, 110, 111, 112, 113, 114, 115, 116, 117, 118, 119, 120, 121, 122]))) (.nm 1) (.seq (.v 0)) .none) .nil))))) .nil)⟩
def x_is_name_set : Dfn := ⟨1, 2, (.cons (.iff (.or (.not (.blt .isTuple (.cons (.v 0) .nil))) (.not (.cmp2 .le .le (.c (.int 1)) (.blt .len (.cons (.v 0) .nil)) (.c (.int 6))))) (.cons (.ret (.c (.bl false))) .nil) .nil) (.cons (.ret (.and (.blt .all (.cons (.lc (.call 2 (.cons (.v 1) .nil)) (.nm 1) (.seq (.v 0)) .none) .nil)) (.cmp .eq (.blt .list (.cons (.v 0) .nil)) (.blt .sortedSet (.cons (.v 0) .nil))))) .nil))⟩
def x_names_of : Dfn := ⟨1, 3, (.cons (.ret (.blt .sortedSet (.cons (.lc2 (.v 2) (.nm 1) (.seq (.v 0)) (.nm 2) (.seq (.v 1))) .nil))) .nil)⟩
def x_is_family : Dfn := ⟨1, 2, (.cons (.iff (.or (.not (.blt .isTuple (.cons (.v 0) .nil))) (.not (.cmp2 .le .le (.c (.int 1)) (.blt .len (.cons (.v 0) .nil)) (.c (.int 6))))) (.cons (.ret (.c (.bl false))) .nil) .nil) (.cons (.ret (.and (.blt .all (.cons (.lc (.call 3 (.cons (.v 1) .nil)) (.nm 1) (.seq (.v 0)) .none) .nil)) (.cmp .le (.blt .len (.cons (.call 4 (.cons (.v 0) .nil)) .nil)) (.c (.int 8))))) .nil))⟩
def x_require_family : Dfn := ⟨1, 1, (.cons (.iff (.not (.call 5 (.cons (.v 0) .nil))) (.cons .never .nil) .nil) .nil)⟩
theorem boolsOf_true : ∀ n : Nat, boolsOf (List.replicate n (PV.bl true)) = some (List.replicate n true)
  | 0 => rfl
  | n + 1 => by
    rw [List.replicate_succ, List.replicate_succ]
    unfold boolsOf
    rw [boolsOf_true n]
    rfl
/-- all([True, ..]) -/
theorem b_all {n m : Nat} {s : S} (h : s.g[m]? = some (.lst (List.replicate n (PV.bl true)))) : blt .all [.ref m] s = some (.bl true, s) := by
  show (match lstAt s m with
    | some xs => match boolsOf xs with
      | some bs => some (PV.bl (if false = true then bs.any id else bs.all id), s)
      | none => none
    | none => none) = _
  unfold lstAt
  simp only [h, boolsOf_true]
  rw [if_neg Bool.false_ne_true]
  congr 2
  congr 1
  rw [List.all_replicate]
  cases n <;> simp
theorem b_lenS {x : Sg} {s : S} (h : x.length ≤ line) : blt .len [.str x] s = some (.int x.length, s) := by
  show (if x.length ≤ line then some (PV.int x.length, s) else none) = _
  rw [if_pos h]
theorem flat_true {α : Type} : ∀ l : List α, l.flatMap (fun _ => [PV.bl true]) = List.replicate l.length (PV.bl true)
  | [] => rfl
  | a :: l => by rw [List.flatMap_cons, flat_true l]; rfl
def small : Sg := [97, 98, 99, 100, 101, 102, 103, 104, 105, 106, 107, 108, 109, 110, 111, 112, 113, 114, 115, 116, 117, 118, 119, 120, 121, 122]
theorem small_has {c : Nat} (h1 : 97 ≤ c) (h2 : c ≤ 122) : small.contains c = true := by
  have all : ∀ k : Fin 26, small.contains (97 + k.val) = true := by decide
  have q := all ⟨c - 97, by omega⟩
  rw [show 97 + (c - 97) = c by omega] at q
  exact q
/-- a name as the program wants it -/
structure Nm (x : Sg) : Prop where
  l1 : 1 ≤ x.length
  l8 : x.length ≤ 8
  az : ∀ c ∈ x, 97 ≤ c ∧ c ≤ 122
theorem is_name_true {D : List (Nat × Dfn)} (hD : D.lookup 2 = some x_is_name) (n : Nat) {s : S} {x : Sg} (h : Nm x) : runD D (n + 1) 2 [.str x] s = some (.bl true, s) := by
  have e : s = ⟨s.g, s.lo⟩ := rfl
  refine r_run (j := [.lst ((x.map fun c => PV.str [c]).flatMap fun _ => [PV.bl true])]) (lo := s.size) hD rfl rfl (Nat.le_refl _) rfl ?_
  unfold x_is_name
  refine r_rt (r_ret (r_andt (r_blt (r_cons (r_v rfl) r_nil) rfl) (r_andt (r_cmp2t r_c (r_blt (r_cons (r_v rfl) r_nil) (b_lenS (Nat.le_trans h.l8 (by decide)))) (d := true) ?_ r_c ?_) (r_blt (r_cons (r_lc (s2 := ⟨s.g, s.size⟩) (i_str (r_v rfl)) (lc_pure (g := fun _ => [PV.bl true]) ?_ ?_) ?_) r_nil) (b_all (n := (x.map fun c => PV.str [c]).length) ?_)))))
  · show some (decide ((1 : Int) ≤ (x.length : Int))) = some true
    rw [decide_eq_true (by have := h.l1; omega)]
  · show some (decide ((x.length : Int) ≤ (8 : Int))) = some true
    rw [decide_eq_true (by have := h.l8; omega)]
  · rw [List.length_map]
    have := h.l8
    show x.length < fuel
    exact Nat.lt_of_le_of_lt this (by decide)
  · intro v hv
    obtain ⟨c, hc, rfl⟩ := List.mem_map.mp hv
    refine turn_lc rfl t_none (r_scp0 (r_cmp (r_v rfl) r_c ?_) rfl)
    show some (small.contains c) = some true
    rw [small_has (h.az c hc).1 (h.az c hc).2]
  · rw [flat_true, List.length_replicate, List.length_map]
    exact Nat.le_trans h.l8 (by decide)
  · rw [flat_true]
    exact getE
/-! ### names in a row -/
def nms (xs : List Sg) : List PV := xs.map PV.str
theorem nms_mem {xs : List Sg} {p : PV} (h : p ∈ nms xs) : ∃ x, x ∈ xs ∧ p = .str x := by
  obtain ⟨x, h, e⟩ := List.mem_map.mp h
  exact ⟨x, h, e.symm⟩
theorem nms_alk (xs : List Sg) : AlkL (nms xs) := by
  intro p hp q hq
  obtain ⟨x, _, rfl⟩ := nms_mem hp
  obtain ⟨y, _, rfl⟩ := nms_mem hq
  rfl
theorem nms_rf : ∀ xs : List Sg, rfs (nms xs) = true
  | [] => rfl
  | x :: xs => by
    show (true && rfs (nms xs)) = true
    rw [nms_rf xs]
    rfl
theorem nms_blw (m : Nat) : ∀ xs : List Sg, PV.blws m (nms xs) = true
  | [] => rfl
  | x :: xs => by
    show (true && PV.blws m (nms xs)) = true
    rw [nms_blw m xs]
    rfl
theorem nms_allStr : ∀ xs : List Sg, allStr (nms xs) = true
  | [] => rfl
  | _ :: xs => nms_allStr xs
theorem nms_setable {xs : List Sg} (h : xs.length < 64) : setable (nms xs) = true := by
  unfold setable
  rw [nms_allStr, Bool.or_true, Bool.true_and]
  exact decide_eq_true (by unfold nms; rw [List.length_map]; exact h)
theorem nms_deeps (look : Nat → Option PV) : ∀ xs : List Sg, deepsW look (nms xs) = some (nms xs)
  | [] => rfl
  | x :: xs => by
    show (match deepW look (.str x) with
      | none => none
      | some d => match deepsW look (nms xs) with
        | none => none
        | some ds => some (d :: ds)) = _
    rw [nms_deeps look xs]
    rfl
theorem nms_dep : ∀ xs : List Sg, PV.deps (nms xs) = 0
  | [] => rfl
  | x :: xs => by
    show max 0 (PV.deps (nms xs)) = 0
    rw [nms_dep xs]
    rfl
theorem nms_eqv : ∀ xs : List Sg, eqvs (nms xs) (nms xs) = true
  | [] => rfl
  | x :: xs => by
    show (decide (x = x) && eqvs (nms xs) (nms xs)) = true
    rw [nms_eqv xs, decide_eq_true rfl]
    rfl
theorem nms_deep {g : List GO} {n : Nat} {xs : List Sg} (h : g[n]? = some (.lst (nms xs))) : deep g (.ref n) = some (.lv (nms xs)) := by
  show (match g[n]? with
    | some (.lst xs) => (deepsW (lookN g 7) xs).map PV.lv
    | some (.fix xs) => (deepsW (lookN g 7) xs).map PV.lv
    | _ => none) = _
  rw [h]
  simp only
  rw [nms_deeps]
  rfl
theorem nms_eqD {g : List GO} {n m : Nat} {xs : List Sg} (h : g[n]? = some (.lst (nms xs))) (h2 : g[m]? = some (.lst (nms xs))) : eqD g (.ref n) (.ref m) = some true := by
  unfold eqD
  rw [nms_deep h, nms_deep h2]
  have e : (PV.lv (nms xs)).dep = 1 := by
    show PV.deps (nms xs) + 1 = 1
    rw [nms_dep]
  simp only [e]
  show some (eqvs (nms xs) (nms xs)) = _
  rw [nms_eqv]
theorem lt_str (x y : Sg) : ltD (.str x) (.str y) = decide (x < y) := by
  rw [← ltv_ltD (l := nms [x, y]) (nms_alk _) (nms_rf _) (p := .str x) (q := .str y) (by simp [nms]) (by simp [nms])]
  rfl
theorem nms_asc {xs : List Sg} (h : xs.Pairwise (· < ·)) : (nms xs).Pairwise (fun a b => ltD a b = true) := by
  unfold nms
  rw [List.pairwise_map]
  exact h.imp fun {a b} q => by rw [lt_str]; exact decide_eq_true q
theorem usort_asc {xs : List Sg} (h : xs.Pairwise (· < ·)) : usort (nms xs) = nms xs := by
  obtain ⟨s2, m2⟩ := usort_spec (nms_alk xs) (nms_rf xs)
  exact asc_unique s2 (nms_asc h) m2
/-- a name set -/
structure NmSet (xs : List Sg) : Prop where
  l1 : 1 ≤ xs.length
  l6 : xs.length ≤ 6
  nm : ∀ x ∈ xs, Nm x
  asc : xs.Pairwise (· < ·)
theorem b_list {v : PV} {xs : List PV} {s : S} (h : seqOf s v = some xs) : blt .list [v] s = some (.ref s.size, s.push (.lst xs)) := by
  show (match seqOf s v with
    | some xs => alloc (.lst xs) s
    | none => none) = _
  rw [h]
  rfl
theorem b_sortedSet {v : PV} {xs ys : List PV} {s : S} (h : seqOf s v = some xs) (h2 : setable xs = true) (h3 : usort xs = ys) : blt .sortedSet [v] s = some (.ref s.size, s.push (.lst ys)) := by
  subst h3
  show (match seqOf s v with
    | some xs => if setable xs then alloc (.lst (usort xs)) s else none
    | none => none) = _
  rw [h]
  simp only
  rw [if_pos h2]
  rfl
theorem is_name_set_true {D : List (Nat × Dfn)} (hD : D.lookup 3 = some x_is_name_set) (hD2 : D.lookup 2 = some x_is_name) (n : Nat) {s : S} {xs : List Sg} (h : NmSet xs) : runD D (n + 2) 3 [.tup (nms xs)] s = some (.bl true, s) := by
  have ll : (nms xs).length = xs.length := List.length_map ..
  let s1 : S := ⟨s.g ++ [.lst ((nms xs).flatMap fun _ => [PV.bl true])], s.size⟩
  let s2 : S := ⟨s1.g ++ [.lst (nms xs)], s.size⟩
  let s3 : S := ⟨s2.g ++ [.lst (nms xs)], s.size⟩
  have a2 : s3.g[s1.size]? = some (.lst (nms xs)) := by
    rw [List.getElem?_append_left (by show s1.g.length < (s1.g ++ [_]).length; simp)]
    exact getE
  have a3 : s3.g[s2.size]? = some (.lst (nms xs)) := getE
  have e3 : s3 = ⟨s.g ++ [.lst ((nms xs).flatMap fun _ => [PV.bl true]), .lst (nms xs), .lst (nms xs)], s.size⟩ := by
    show (⟨((s.g ++ [_]) ++ [_]) ++ [_], s.size⟩ : S) = _
    rw [List.append_assoc, List.append_assoc]
    rfl
  refine r_run (j := [.lst ((nms xs).flatMap fun _ => [PV.bl true]), .lst (nms xs), .lst (nms xs)]) (lo := s.size) hD rfl rfl (Nat.le_refl _) rfl ?_
  rw [← e3]
  unfold x_is_name_set
  refine r_nx (s1 := ⟨s.g, s.size⟩) (r_iff (r_scp0 (r_orf (r_not (d := true) (r_blt (r_cons (r_v rfl) r_nil) rfl)) (r_not (d := true) (r_cmp2t r_c (r_blt (r_cons (r_v rfl) r_nil) b_lenT) ?_ r_c ?_))) rfl) r_bnil) ?_
  · show some (decide ((1 : Int) ≤ ((nms xs).length : Int))) = some true
    rw [ll, decide_eq_true (by have := h.l1; omega)]
  · show some (decide (((nms xs).length : Int) ≤ (6 : Int))) = some true
    rw [ll, decide_eq_true (by have := h.l6; omega)]
  refine r_rt (r_ret (r_andt (r_blt (r_cons (r_lc (s2 := ⟨s.g, s.size⟩) (i_tup (r_v rfl)) (lc_pure (g := fun _ => [PV.bl true]) ?_ ?_) ?_) r_nil) (b_all (s := s1) (n := (nms xs).length) ?_))
    (r_cmp (s1 := s2) (r_blt (r_cons (r_v rfl) r_nil) (b_list rfl)) (r_blt (r_cons (r_v rfl) r_nil) (b_sortedSet rfl (nms_setable (Nat.lt_of_le_of_lt h.l6 (by decide))) (usort_asc h.asc))) ?_)))
  · rw [ll]
    exact Nat.lt_of_le_of_lt h.l6 (by decide)
  · intro v hv
    obtain ⟨x, hx, rfl⟩ := nms_mem hv
    refine turn_lc rfl t_none (r_scp0 (r_call (r_cons (r_v rfl) r_nil) (is_name_true hD2 n (h.nm x hx))) rfl)
  · rw [flat_true, List.length_replicate, ll]
    exact Nat.le_trans h.l6 (by decide)
  · show (s.g ++ [_])[s.g.length]? = _
    rw [flat_true]
    exact getE
  · exact nms_eqD a2 a3

/-- a def's run: a new list comes back -/
theorem r_runL {D : List (Nat × Dfn)} {k f m : Nat} {d : Dfn} {vs xs : List PV} {g : List GO} {s : S} (hd : D.lookup f = some d) (hl : vs.length = d.np) (hm : s.size ≤ m) (hg : (s.g ++ g)[m]? = some (.lst xs)) (hx : PV.blws s.size xs = true)
    (h : evB (runD D k) d.body (vs.map some ++ List.replicate (d.nl - d.np) none) ⟨s.g, s.size⟩ = some (.rt (.ref m), ⟨s.g ++ g, s.size⟩)) : runD D (k + 1) f vs s = some (.ref s.size, ⟨s.g ++ [.lst xs], s.lo⟩) := by
  rw [runD, hd]
  simp only
  rw [if_pos hl]
  refine r_scpL (g := g) (m := m) ?_ hm hg hx
  simp only [h]
section
variable {C : Nat → List PV → S → Option (PV × S)} {σ σ' : Env} {s s1 s2 : S} {e : XE}
theorem r_lc2 {tg tg2 : TgE} {it it2 : XI} {iter : IT} {acc : List PV} (hi : evI C it σ s = some (iter, s1)) (hl : lcL (fun s i => iter.get s i) (lcTurn2 tg tg2 (wipeE (wipeE σ tg2.slots) tg.slots) (fun σ s => evI C it2 σ s) (fun σ s => evE C e σ s)) fuel 0 [] s1 = some (acc, s2)) (h : acc.length ≤ line) :
    evE C (.lc2 e tg it tg2 it2) σ s = some (.ref s2.size, s2.push (.lst acc)) := by
  rw [evE, hi]; simp only; rw [hl]; simp only; rw [if_pos h]; rfl
theorem turn_lc2 {tg tg2 : TgE} {σw σ2 : Env} {runI : Env → S → Option (IT × S)} {runE : Env → S → Option (PV × S)} {v : PV} {it : IT} {acc : List PV} (ha : asn tg v σw = some σ2) (hi : runI σ2 s = some (it, s1)) (hl : lcL (fun s i => it.get s i) (lcTurn tg2 (wipeE σ2 tg2.slots) yes runE) fuel 0 [] s1 = some (acc, s2)) : lcTurn2 tg tg2 σw runI runE v s = some (acc, s2) := by
  unfold lcTurn2
  rw [ha]; simp only; rw [hi]; exact hl
end
theorem flat_self {α : Type} : ∀ l : List α, l.flatMap (fun x => [x]) = l
  | [] => rfl
  | a :: l => by rw [List.flatMap_cons, flat_self l]; rfl
/-! ### a family -/
def famP (F : List (List Sg)) : List PV := F.map fun xs => .tup (nms xs)
def unP : PV → List PV
  | .tup xs => xs
  | _ => []
theorem famP_flat : ∀ F : List (List Sg), (famP F).flatMap unP = nms F.flatten
  | [] => rfl
  | xs :: F => by
    show nms xs ++ (famP F).flatMap unP = nms (xs ++ F.flatten)
    rw [famP_flat F]
    unfold nms
    rw [List.map_append]
/-- the names of a family, ascending -/
structure NmsOf (F : List (List Sg)) (us : List Sg) : Prop where
  asc : us.Pairwise (· < ·)
  mem : ∀ x, x ∈ us ↔ x ∈ F.flatten
theorem usort_nms {xs us : List Sg} (h : us.Pairwise (· < ·)) (e : ∀ x, x ∈ us ↔ x ∈ xs) : usort (nms xs) = nms us := by
  obtain ⟨s2, m2⟩ := usort_spec (nms_alk xs) (nms_rf xs)
  refine asc_unique s2 (nms_asc h) fun y => (m2 y).trans ⟨fun q => ?_, fun q => ?_⟩
  · obtain ⟨x, hx, rfl⟩ := nms_mem q
    exact List.mem_map.mpr ⟨x, (e x).mpr hx, rfl⟩
  · obtain ⟨x, hx, rfl⟩ := nms_mem q
    exact List.mem_map.mpr ⟨x, (e x).mp hx, rfl⟩
theorem names_of_run {D : List (Nat × Dfn)} (hD : D.lookup 4 = some x_names_of) (n : Nat) {s : S} {F : List (List Sg)} {us : List Sg} (h : NmsOf F us) (hf : F.length ≤ 6) (h6 : ∀ xs ∈ F, xs.length ≤ 6) (hl : F.flatten.length < 64) :
    runD D (n + 1) 4 [.tup (famP F)] s = some (.ref s.size, ⟨s.g ++ [.lst (nms us)], s.lo⟩) := by
  let s1 : S := ⟨s.g ++ [.lst (nms F.flatten)], s.size⟩
  have a1 : s1.g[s.size]? = some (.lst (nms F.flatten)) := getE
  refine r_runL (m := s1.size) (g := [.lst (nms F.flatten), .lst (nms us)]) hD rfl (by show s.g.length ≤ (s.g ++ [_]).length; simp) ?_ (nms_blw _ _) ?_
  · show (s.g ++ [_, _])[(s.g ++ [_]).length]? = _
    rw [List.getElem?_append_right (by simp)]
    simp
  · have e2 : (⟨s.g ++ [.lst (nms F.flatten), .lst (nms us)], s.size⟩ : S) = s1.push (.lst (nms us)) := by
      show _ = (⟨(s.g ++ [_]) ++ [_], s.size⟩ : S)
      rw [List.append_assoc]
      rfl
    rw [e2]
    unfold x_names_of
    refine r_rt (r_ret (r_blt (r_cons ?_ r_nil) (b_sortedSet (s := s1) (v := .ref s.size) (xs := nms F.flatten) ?_ (nms_setable hl) (usort_nms h.asc h.mem))))
    · have q := lc_pure (s := ⟨s.g, s.size⟩) (xs := famP F) (turn := lcTurn2 (.nm 1) (.nm 2) (wipeE (wipeE [some (.tup (famP F)), none, none] [2]) [1]) (fun σ s => evI (runD D n) (.seq (.v 1)) σ s) (fun σ s => evE (runD D n) (.v 2) σ s)) (g := unP) (by show (F.map _).length < fuel; rw [List.length_map]; exact Nat.lt_of_le_of_lt hf (by decide)) ?_
      · rw [famP_flat] at q
        exact r_lc2 (i_tup (r_v rfl)) q (by unfold nms; rw [List.length_map]; exact Nat.le_trans (Nat.le_of_lt hl) (by decide))
      · intro v hv
        obtain ⟨xs, hx, rfl⟩ := List.mem_map.mp hv
        refine turn_lc2 rfl (i_tup (r_v rfl)) ?_
        have q := lc_pure (s := ⟨s.g, s.size⟩) (xs := nms xs) (turn := lcTurn (.nm 2) (wipeE [some (.tup (famP F)), some (.tup (nms xs)), none] [2]) yes (fun σ s => evE (runD D n) (.v 2) σ s)) (g := fun x => [x]) (by unfold nms; rw [List.length_map]; exact Nat.lt_of_le_of_lt (h6 xs hx) (by decide)) ?_
        · rw [flat_self] at q
          exact q
        · intro v hv
          obtain ⟨x, _, rfl⟩ := nms_mem hv
          exact turn_lc rfl rfl (r_scp0 (r_v rfl) rfl)
    · show lstAt s1 s.size = _
      unfold lstAt
      rw [a1]

structure Fam (F : List (List Sg)) (us : List Sg) : Prop where
  l1 : 1 ≤ F.length
  l6 : F.length ≤ 6
  sets : ∀ xs ∈ F, NmSet xs
  names : NmsOf F us
  u8 : us.length ≤ 8
theorem flat_len {b : Nat} : ∀ F : List (List Sg), (∀ xs ∈ F, xs.length ≤ b) → F.flatten.length ≤ F.length * b
  | [], _ => by simp
  | xs :: F, h => by
    rw [List.flatten_cons, List.length_append, List.length_cons, Nat.add_mul]
    have := h xs (List.mem_cons_self ..)
    have := flat_len F fun ys hy => h ys (List.mem_cons_of_mem _ hy)
    omega
theorem Fam.flat {F : List (List Sg)} {us : List Sg} (h : Fam F us) : F.flatten.length < 64 := by
  have a := flat_len (b := 6) F fun xs hx => (h.sets xs hx).l6
  have b := h.l6
  omega
theorem Fam.run {D : List (Nat × Dfn)} (hD : D.lookup 4 = some x_names_of) (n : Nat) {s : S} {F : List (List Sg)} {us : List Sg} (h : Fam F us) : runD D (n + 1) 4 [.tup (famP F)] s = some (.ref s.size, ⟨s.g ++ [.lst (nms us)], s.lo⟩) :=
  names_of_run hD n h.names h.l6 (fun xs hx => (h.sets xs hx).l6) h.flat
/-- the table holds the defs of the program that families need -/
structure HasF (D : List (Nat × Dfn)) : Prop where
  d2 : D.lookup 2 = some x_is_name
  d3 : D.lookup 3 = some x_is_name_set
  d4 : D.lookup 4 = some x_names_of
  d5 : D.lookup 5 = some x_is_family
  d6 : D.lookup 6 = some x_require_family
theorem is_family_true {D : List (Nat × Dfn)} (hD : HasF D) (n : Nat) {s : S} {F : List (List Sg)} {us : List Sg} (h : Fam F us) : runD D (n + 3) 5 [.tup (famP F)] s = some (.bl true, s) := by
  have ll : (famP F).length = F.length := List.length_map ..
  let s1 : S := ⟨s.g ++ [.lst ((famP F).flatMap fun _ => [PV.bl true])], s.size⟩
  let s2 : S := ⟨s1.g ++ [.lst (nms us)], s.size⟩
  have a2 : s2.g[s1.size]? = some (.lst (nms us)) := getE
  have e2 : s2 = ⟨s.g ++ [.lst ((famP F).flatMap fun _ => [PV.bl true]), .lst (nms us)], s.size⟩ := by
    show (⟨(s.g ++ [_]) ++ [_], s.size⟩ : S) = _
    rw [List.append_assoc]
    rfl
  refine r_run (j := [.lst ((famP F).flatMap fun _ => [PV.bl true]), .lst (nms us)]) (lo := s.size) hD.d5 rfl rfl (Nat.le_refl _) rfl ?_
  rw [← e2]
  unfold x_is_family
  refine r_nx (s1 := ⟨s.g, s.size⟩) (r_iff (r_scp0 (r_orf (r_not (d := true) (r_blt (r_cons (r_v rfl) r_nil) rfl)) (r_not (d := true) (r_cmp2t r_c (r_blt (r_cons (r_v rfl) r_nil) b_lenT) ?_ r_c ?_))) rfl) r_bnil) ?_
  · show some (decide ((1 : Int) ≤ ((famP F).length : Int))) = some true
    rw [ll, decide_eq_true (by have := h.l1; omega)]
  · show some (decide (((famP F).length : Int) ≤ (6 : Int))) = some true
    rw [ll, decide_eq_true (by have := h.l6; omega)]
  refine r_rt (r_ret (r_andt (r_blt (r_cons (r_lc (s2 := ⟨s.g, s.size⟩) (i_tup (r_v rfl)) (lc_pure (g := fun _ => [PV.bl true]) ?_ ?_) ?_) r_nil) (b_all (s := s1) (n := (famP F).length) ?_))
    (r_cmp (s1 := s2) (r_blt (r_cons (r_call (r_cons (r_v rfl) r_nil) (h.run hD.d4 (n + 1) (s := s1))) r_nil) (b_len a2)) r_c ?_)))
  · rw [ll]
    exact Nat.lt_of_le_of_lt h.l6 (by decide)
  · intro v hv
    obtain ⟨xs, hx, rfl⟩ := List.mem_map.mp hv
    refine turn_lc rfl t_none (r_scp0 (r_call (r_cons (r_v rfl) r_nil) (is_name_set_true hD.d3 hD.d2 n (h.sets xs hx))) rfl)
  · rw [flat_true, List.length_replicate, ll]
    exact Nat.le_trans h.l6 (by decide)
  · show (s.g ++ [_])[s.g.length]? = _
    rw [flat_true]
    exact getE
  · show some (decide (((nms us).length : Int) ≤ (8 : Int))) = some true
    rw [show (nms us).length = us.length from List.length_map .., decide_eq_true (by have := h.u8; omega)]
theorem r_run_nx {D : List (Nat × Dfn)} {k f : Nat} {d : Dfn} {vs : List PV} {s : S} {σ : Env} (hd : D.lookup f = some d) (hl : vs.length = d.np)
    (h : evB (runD D k) d.body (vs.map some ++ List.replicate (d.nl - d.np) none) ⟨s.g, s.size⟩ = some (.nx σ, ⟨s.g, s.size⟩)) : runD D (k + 1) f vs s = some (.non, s) := by
  rw [runD, hd]
  simp only
  rw [if_pos hl]
  refine r_scp0 ?_ rfl
  simp only [h]
theorem require_family_ok {D : List (Nat × Dfn)} (hD : HasF D) (n : Nat) {s : S} {F : List (List Sg)} {us : List Sg} (h : Fam F us) : runD D (n + 4) 6 [.tup (famP F)] s = some (.non, s) := by
  refine r_run_nx (σ := [some (.tup (famP F))]) hD.d6 rfl ?_
  unfold x_require_family
  exact r_nx (r_iff (r_scp0 (r_not (d := true) (r_call (r_cons (r_v rfl) r_nil) (is_family_true hD n h))) rfl) r_bnil) r_bnil

end Ev

set_option linter.all false
set_option autoImplicit false
set_option maxRecDepth 100000
set_option maxHeartbeats 4000000
/-! Sy3: the states of the law: the script, the cells, the pen, and the rest. -/
namespace Ev
open PySem
/-- the script's numbers ns and the cells; the pen stands at k with a seed -/
structure Ct where
  ns : List Int
  cells : List Int
def G (c : Ct) (k seed : Int) (rest : List GO) (lo : Nat) : S := ⟨.fix (c.ns.map PV.int) :: .lst (c.cells.map PV.int) :: .lst [.ref 1, .int k, .int seed] :: rest, lo⟩
/-- at most b cells are taken -/
structure Ok (b : Nat) (k seed : Int) : Prop where
  k0 : 0 ≤ k
  k1 : k ≤ b
  sd : 0 ≤ seed
theorem Ok.le {b b' : Nat} {k seed : Int} (h : Ok b k seed) (hb : b ≤ b') : Ok b' k seed := ⟨h.k0, by have := h.k1; omega, h.sd⟩
theorem G_size {c : Ct} {k seed : Int} {rest : List GO} {lo : Nat} : (G c k seed rest lo).size = rest.length + 3 := rfl
theorem G_push {c : Ct} {k seed : Int} {rest : List GO} {lo : Nat} {o : GO} : (G c k seed rest lo).push o = G c k seed (rest ++ [o]) lo := rfl
theorem G_pen {c : Ct} {b : Nat} {k seed : Int} {rest : List GO} {lo : Nat} (h : Ok b k seed) (hb : b < 4000000000) : Pen (G c k seed rest lo) 2 1 c.cells k seed :=
  ⟨rfl, rfl, by decide, h.k0, by have := h.k1; omega, h.sd⟩
/-- the table holds the pen -/
structure HasP (D : List (Nat × Dfn)) : Prop where
  d15 : D.lookup 15 = some x__law_spread
  d16 : D.lookup 16 = some x__law_open
  d17 : D.lookup 17 = some x__law_anew
  d18 : D.lookup 18 = some x__law_take
  d19 : D.lookup 19 = some x__law_one
section
variable {D : List (Nat × Dfn)} {c : Ct} {b : Nat} {k seed : Int} {rest : List GO} {lo : Nat}
theorem take_G (hD : HasP D) (n : Nat) {many : Int} (h : Ok b k seed) (hb : b < 4000000000) (h0 : 0 < many) (h1 : many < 2 ^ 62) :
    ∃ r k' seed' : Int, runD D (n + 2) 18 [.ref 2, .int many] (G c k seed rest lo) = some (.int r, G c k' seed' rest lo) ∧ 0 ≤ r ∧ r < many ∧ Ok (b + 1) k' seed' := by
  obtain ⟨r, k', seed', e, a1, a2, a3, a4, a5⟩ := take_run hD.d18 hD.d15 n (G_pen (c := c) (rest := rest) (lo := lo) h hb) h0 h1
  exact ⟨r, k', seed', e, a1, a2, ⟨by have := h.k0; omega, by have := h.k1; omega, a5⟩⟩
theorem anew_G (hD : HasP D) (n : Nat) (h : Ok b k seed) (hb : b < 4000000000) : runD D (n + 1) 17 [.ref 2] (G c k seed rest lo) = some (.ref 2, G c k 0 rest lo) :=
  anew_run hD.d17 n (G_pen (c := c) (rest := rest) (lo := lo) h hb)
theorem Ok.anew (h : Ok b k seed) : Ok b k 0 := ⟨h.k0, h.k1, Int.le_refl _⟩
theorem oneT_G (hD : HasP D) (n : Nat) {xs : List PV} (h : Ok b k seed) (hb : b < 4000000000) (hl : xs ≠ []) (hz : xs.length < 2 ^ 62) (hx : PV.blws (rest.length + 3) xs = true) :
    ∃ x k' seed', runD D (n + 3) 19 [.ref 2, .tup xs] (G c k seed rest lo) = some (x, G c k' seed' rest lo) ∧ x ∈ xs ∧ Ok (b + 1) k' seed' := by
  obtain ⟨x, k', seed', e, a1, a3, a4, a5⟩ := one_run hD.d19 hD.d18 hD.d15 n (G_pen (c := c) (rest := rest) (lo := lo) h hb) (.inl rfl) hl hz hx
  exact ⟨x, k', seed', e, a1, ⟨by have := h.k0; omega, by have := h.k1; omega, a5⟩⟩
theorem oneL_G (hD : HasP D) (n : Nat) {xs : List PV} {m : Nat} (h : Ok b k seed) (hb : b < 4000000000) (hm : rest[m]? = some (.lst xs)) (hl : xs ≠ []) (hz : xs.length < 2 ^ 62) (hx : PV.blws (rest.length + 3) xs = true) :
    ∃ x k' seed', runD D (n + 3) 19 [.ref 2, .ref (m + 3)] (G c k seed rest lo) = some (x, G c k' seed' rest lo) ∧ x ∈ xs ∧ Ok (b + 1) k' seed' := by
  obtain ⟨x, k', seed', e, a1, a3, a4, a5⟩ := one_run hD.d19 hD.d18 hD.d15 n (G_pen (c := c) (rest := rest) (lo := lo) h hb) (.inr ⟨m + 3, rfl, by omega, hm⟩) hl hz hx
  exact ⟨x, k', seed', e, a1, ⟨by have := h.k0; omega, by have := h.k1; omega, a5⟩⟩
end
end Ev

set_option linter.all false
set_option autoImplicit false
set_option maxRecDepth 100000
set_option maxHeartbeats 4000000
/-! Sy4: the pool. -/
namespace Ev
open PySem
def x__law_pool : Dfn := ⟨2, 5, (.cons (.asg (.tp [(.nm 3), (.nm 4)]) (.tup (.cons (.lst (.cons (.c (.str [97])) (.cons (.c (.str [97, 98])) (.cons (.c (.str [98])) (.cons (.c (.str [99])) (.cons (.c (.str [99, 97])) (.cons (.c (.str [100, 111, 111, 114])) (.cons (.c (.str [120])) (.cons (.c (.str [122, 122])) .nil))))))))) (.cons (.lst .nil) .nil)))) (.cons (.for (.nm 2) (.rng (.bin .add (.c (.int 1)) (.call 18 (.cons (.v 0) (.cons (.v 1) .nil))))) (.cons (.ex (.mth .append (.v 4) (.cons (.mth .pop (.v 3) (.cons (.call 18 (.cons (.v 0) (.cons (.blt .len (.cons (.v 3) .nil)) .nil))) .nil)) .nil))) .nil) [2]) (.cons (.ret (.blt .sorted (.cons (.v 4) .nil))) .nil)))⟩
section
variable {C : Nat → List PV → S → Option (PV × S)} {σ σ' : Env} {s s1 s2 : S} {v : PV}
/-- old objects may change; nothing new -/
theorem r_scpM {f : S → Option (PV × S)} {g : List GO} (h : f ⟨s.g, s.size⟩ = some (v, ⟨g, s.size⟩)) (hg : g.length = s.size) (hv : v.blw s.size = true) : scp f s = some (v, ⟨g, s.lo⟩) := by
  unfold scp
  rw [h]
  simp only
  unfold tidy
  rw [if_pos (Nat.le_refl _), if_pos hv]
  simp only
  rw [← hg, List.take_length]
/-- a tuple with new parts: all stays -/
theorem r_scpK {f : S → Option (PV × S)} {g : List GO} {xs : List PV} (h : f ⟨s.g, s.size⟩ = some (.tup xs, ⟨g, s.size⟩)) (hv : (PV.tup xs).blw s.size = false) : scp f s = some (.tup xs, ⟨g, s.lo⟩) := by
  unfold scp
  rw [h]
  simp only
  unfold tidy
  rw [if_pos (Nat.le_refl _), if_neg (by rw [hv]; exact Bool.false_ne_true)]
theorem r_scpLM {f : S → Option (PV × S)} {g1 g : List GO} {xs : List PV} {m : Nat} (h : f ⟨s.g, s.size⟩ = some (.ref m, ⟨g1 ++ g, s.size⟩)) (hl : g1.length = s.size) (hm : s.size ≤ m) (hg : (g1 ++ g)[m]? = some (.lst xs)) (hx : PV.blws s.size xs = true) :
    scp f s = some (.ref s.size, ⟨g1 ++ [.lst xs], s.lo⟩) := by
  unfold scp
  rw [h]
  simp only
  unfold tidy
  rw [if_pos (Nat.le_refl _), if_neg (by
    unfold PV.blw
    rw [decide_eq_false (Nat.not_lt.mpr hm)]
    exact Bool.false_ne_true)]
  simp only [hg]
  rw [if_pos hx, List.take_left' hl]
end
theorem r_runLM {D : List (Nat × Dfn)} {k f m : Nat} {d : Dfn} {vs xs : List PV} {g1 g : List GO} {s : S} (hd : D.lookup f = some d) (hl : vs.length = d.np) (hq : g1.length = s.size) (hm : s.size ≤ m) (hg : (g1 ++ g)[m]? = some (.lst xs)) (hx : PV.blws s.size xs = true)
    (h : evB (runD D k) d.body (vs.map some ++ List.replicate (d.nl - d.np) none) ⟨s.g, s.size⟩ = some (.rt (.ref m), ⟨g1 ++ g, s.size⟩)) : runD D (k + 1) f vs s = some (.ref s.size, ⟨g1 ++ [.lst xs], s.lo⟩) := by
  rw [runD, hd]
  simp only
  rw [if_pos hl]
  refine r_scpLM (g1 := g1) (g := g) (m := m) ?_ hq hm hg hx
  simp only [h]
/-! two lists behind the rest -/
theorem two_get0 {rest : List GO} {a b : GO} : (rest ++ [a, b])[rest.length]? = some a := by
  rw [List.getElem?_append_right (Nat.le_refl _), Nat.sub_self]; rfl
theorem two_get1 {rest : List GO} {a b : GO} : (rest ++ [a, b])[rest.length + 1]? = some b := by
  rw [List.getElem?_append_right (Nat.le_succ _), show rest.length.succ - rest.length = 1 by omega]; rfl
theorem two_set0 {rest : List GO} {a b x : GO} : (rest ++ [a, b]).set rest.length x = rest ++ [x, b] := by
  rw [List.set_append_right _ _ (Nat.le_refl _), Nat.sub_self]; rfl
theorem two_set1 {rest : List GO} {a b x : GO} : (rest ++ [a, b]).set (rest.length + 1) x = rest ++ [a, x] := by
  rw [List.set_append_right _ _ (by omega), Nat.add_sub_cancel_left]; rfl
theorem G_wr {c : Ct} {k seed : Int} {rest : List GO} {lo n : Nat} {o : GO} : (G c k seed rest lo).wr (n + 3) o true = G c k seed (rest.set n o) lo := rfl
theorem m_pop {s : S} {n k : Nat} {i : Int} {xs : List PV} {y : PV} (h : s.g[n]? = some (.lst xs)) (hi : 0 ≤ i) (hi2 : i < 2 ^ 63) (hk : ixE xs.length i = some k) (hy : xs[k]? = some y) : mth .pop (.ref n) [.int i] s = some (y, s.wr n (.lst (xs.eraseIdx k)) true) := by
  show mPop (.ref n) [.int i] s = _
  unfold mPop
  simp only [h]
  rw [if_pos ⟨by omega, hi2⟩, hk]
  simp only [hy]
theorem m_append {s : S} {n : Nat} {xs : List PV} {v : PV} (h : s.g[n]? = some (.lst xs)) (hl : xs.length < line) : mth .append (.ref n) [v] s = some (.non, s.wr n (.lst (xs ++ [v])) v.rf) := by
  show mAppend (.ref n) [v] s = _
  unfold mAppend
  simp only [h]
  rw [if_pos hl]
def pool8 : List Sg := [[97], [97, 98], [98], [99], [99, 97], [100, 111, 111, 114], [120], [122, 122]]
theorem pool8_nm : ∀ x ∈ pool8, Nm x := by
  intro x hx
  simp only [pool8, List.mem_cons, List.not_mem_nil, or_false] at hx
  rcases hx with rfl | rfl | rfl | rfl | rfl | rfl | rfl | rfl
  all_goals exact ⟨by decide, by decide, by decide⟩
/-- what the loop keeps -/
structure PoolI (pool found : List Sg) (i : Nat) : Prop where
  perm : (found ++ pool).Perm pool8
  len : found.length = i
theorem erase_perm {α : Type} : ∀ (l : List α) (j : Nat) (h : j < l.length), ([l[j]] ++ l.eraseIdx j).Perm l
  | [], j, h => absurd h (Nat.not_lt_zero _)
  | a :: l, 0, _ => List.Perm.refl _
  | a :: l, j + 1, h => by
    have q := erase_perm l j (Nat.lt_of_succ_lt_succ h)
    show (l[j]'(Nat.lt_of_succ_lt_succ h) :: a :: l.eraseIdx j).Perm (a :: l)
    exact (List.Perm.swap a _ _).trans (q.cons a)
/-- one more is drawn -/
theorem PoolI.next {pool found : List Sg} {i j : Nat} (h : PoolI pool found i) (hj : j < pool.length) : PoolI (pool.eraseIdx j) (found ++ [pool[j]]) (i + 1) := by
  refine ⟨?_, by rw [List.length_append, h.len]; rfl⟩
  refine List.Perm.trans ?_ h.perm
  rw [List.append_assoc]
  refine List.Perm.append_left found ?_
  exact erase_perm pool j hj
theorem PoolI.room {pool found : List Sg} {i : Nat} (h : PoolI pool found i) : i + pool.length = 8 := by
  have := h.perm.length_eq
  rw [List.length_append, h.len] at this
  exact this
theorem eraseIdx_map {α β : Type} (f : α → β) : ∀ (l : List α) (j : Nat), (l.map f).eraseIdx j = (l.eraseIdx j).map f
  | [], _ => rfl
  | a :: l, 0 => rfl
  | a :: l, j + 1 => by
    show f a :: (l.map f).eraseIdx j = f a :: (l.eraseIdx j).map f
    rw [eraseIdx_map f l j]
/-- the turn of the pool's loop -/
theorem pool_turn {D : List (Nat × Dfn)} (hD : HasP D) (n : Nat) {c : Ct} {b : Nat} {k seed : Int} {rest : List GO} {lo : Nat} (h : Ok b k seed) (hb : b < 4000000000) {pool found : List Sg} {i : Nat} (P : PoolI pool found i) (hi : i < 8) {w y : Option PV} :
    ∃ k' seed' pool' found', evB (runD D (n + 2)) (.cons (.ex (.mth .append (.v 4) (.cons (.mth .pop (.v 3) (.cons (.call 18 (.cons (.v 0) (.cons (.blt .len (.cons (.v 3) .nil)) .nil))) .nil)) .nil))) .nil)
      [some (.ref 2), w, y, some (.ref (rest.length + 3)), some (.ref (rest.length + 1 + 3))] (G c k seed (rest ++ [.lst (nms pool), .lst (nms found)]) lo)
      = some (.nx [some (.ref 2), w, y, some (.ref (rest.length + 3)), some (.ref (rest.length + 1 + 3))], G c k' seed' (rest ++ [.lst (nms pool'), .lst (nms found')]) lo) ∧ PoolI pool' found' (i + 1) ∧ Ok (b + 1) k' seed' := by
  have room := P.room
  let R := rest ++ [.lst (nms pool), .lst (nms found)]
  let z := (G c k seed R lo).size
  obtain ⟨r, k', seed', e, r0, r1, ok⟩ := take_G (c := c) (rest := R) (lo := z) hD n (many := (nms pool).length) h hb (by show (0 : Int) < ((pool.map PV.str).length : Int); rw [List.length_map]; omega) (by show ((pool.map PV.str).length : Int) < _; rw [List.length_map]; omega)
  have r2 : r.toNat < pool.length := by
    have : (nms pool).length = pool.length := List.length_map ..
    omega
  refine ⟨k', seed', pool.eraseIdx r.toNat, found ++ [pool[r.toNat]], ?_, P.next r2, ok⟩
  let R1 := rest ++ [.lst (nms (pool.eraseIdx r.toNat)), .lst (nms found)]
  let R2 := rest ++ [.lst (nms (pool.eraseIdx r.toNat)), .lst (nms (found ++ [pool[r.toNat]]))]
  have g0 : (G c k seed R z).g[rest.length + 3]? = some (.lst (nms pool)) := two_get0
  have g0' : (G c k' seed' R z).g[rest.length + 3]? = some (.lst (nms pool)) := two_get0
  have g1 : (G c k' seed' R1 z).g[rest.length + 1 + 3]? = some (.lst (nms found)) := two_get1
  have gf : (G c k seed R z).g[rest.length + 1 + 3]? = some (.lst (nms found)) := two_get1
  have ep : mth .pop (.ref (rest.length + 3)) [.int r] (G c k' seed' R z) = some (.str pool[r.toNat], G c k' seed' R1 z) := by
    have q := m_pop (i := r) (k := r.toNat) (y := .str pool[r.toNat]) g0' r0 (by have := P.room; have : (nms pool).length = pool.length := List.length_map ..; omega) (by
      unfold ixE
      rw [if_pos r0, if_pos r1]) (by
      unfold nms
      rw [List.getElem?_map, List.getElem?_eq_getElem r2]
      rfl)
    rw [G_wr, two_set0] at q
    unfold nms at q
    rw [eraseIdx_map] at q
    exact q
  have ea : mth .append (.ref (rest.length + 1 + 3)) [.str pool[r.toNat]] (G c k' seed' R1 z) = some (.non, G c k' seed' R2 z) := by
    have q := m_append (v := .str pool[r.toNat]) g1 (by
      have : (nms found).length = found.length := List.length_map ..
      rw [this, P.len]
      exact Nat.lt_trans hi (by decide))
    rw [show (PV.str pool[r.toNat]).rf = true from rfl, G_wr, two_set1] at q
    have en : nms found ++ [.str pool[r.toNat]] = nms (found ++ [pool[r.toNat]]) := by
      unfold nms
      rw [List.map_append]
      rfl
    rw [en] at q
    exact q
  have t0 : mthTy .append (.ref (rest.length + 1 + 3)) (G c k seed R z) = true := by
    unfold mthTy
    simp only [gf]
  have t1 : mthTy .pop (.ref (rest.length + 3)) (G c k seed R z) = true := by
    unfold mthTy
    simp only [g0]
  have big : evE (runD D (n + 2)) (.mth .append (.v 4) (.cons (.mth .pop (.v 3) (.cons (.call 18 (.cons (.v 0) (.cons (.blt .len (.cons (.v 3) .nil)) .nil))) .nil)) .nil)) [some (.ref 2), w, y, some (.ref (rest.length + 3)), some (.ref (rest.length + 1 + 3))] (G c k seed R z) = some (.non, G c k' seed' R2 z) :=
    r_mth (r_v rfl) t0 (r_cons (r_mth (r_v rfl) t1 (r_cons (r_call (r_cons (r_v rfl) (r_cons (r_blt (r_cons (r_v rfl) r_nil) (b_len g0)) r_nil)) e) r_nil) ep) r_nil) ea
  have lenR : (G c k' seed' R2 z).g.length = (G c k seed R lo).size := by
    show (_ ++ [_, _]).length + 3 = (_ ++ [_, _]).length + 3
    rw [List.length_append, List.length_append]
    rfl
  exact r_nx (r_ex (r_scpM (s := G c k seed R lo) (g := (G c k' seed' R2 z).g) big lenR rfl)) r_bnil

end Ev

set_option linter.all false
set_option autoImplicit false
set_option maxRecDepth 100000
set_option maxHeartbeats 4000000
/-! Sy5: the pool, to its end. -/
namespace Ev
open PySem
theorem alikeAll_of {x : PV} : ∀ {l : List PV}, (∀ q ∈ l, alikeP x q = true) → Ev.alikeAll x l = true
  | [], _ => rfl
  | y :: l, h => by
    show (alikeP x y && Ev.alikeAll x l) = true
    rw [h y (List.mem_cons_self ..), alikeAll_of fun q hq => h q (List.mem_cons_of_mem _ hq)]
    rfl
theorem alikeEach_of : ∀ {l : List PV}, AlkL l → alikeEach l = true
  | [], _ => rfl
  | x :: l, h => by
    show (alikeP x x && Ev.alikeAll x l && alikeEach l) = true
    rw [h x (List.mem_cons_self ..) x (List.mem_cons_self ..), alikeAll_of fun q hq => h x (List.mem_cons_self ..) q (List.mem_cons_of_mem _ hq), alikeEach_of fun p hp q hq => h p (List.mem_cons_of_mem _ hp) q (List.mem_cons_of_mem _ hq)]
    rfl
theorem nms_notTup : ∀ xs : List Sg, (nms xs).all notTup = true
  | [] => rfl
  | x :: xs => by
    show (notTup (.str x) && (nms xs).all notTup) = true
    rw [nms_notTup xs]
    rfl
theorem nms_sortable {xs : List Sg} (h : xs.length ≤ line) : sortable (nms xs) = true := by
  unfold sortable
  rw [alikeEach_of (nms_alk xs), nms_rf, nms_notTup, nms_dep, show (nms xs).length = xs.length from List.length_map .., decide_eq_true h]
  simp
theorem b_sorted {s : S} {n : Nat} {xs ys : List PV} (h : s.g[n]? = some (.lst xs)) (h2 : sortable xs = true) (h3 : isort xs = ys) : blt .sorted [.ref n] s = some (.ref s.size, s.push (.lst ys)) := by
  subst h3
  show (match lstAt s n with
    | some xs => if sortable xs then alloc (.lst (isort xs)) s else none
    | none => none) = _
  unfold lstAt
  rw [h]
  simp only
  rw [if_pos h2]
  rfl
def unS : PV → Sg
  | .str x => x
  | _ => []
theorem nms_un : ∀ l : List Sg, (nms l).map unS = l
  | [] => rfl
  | x :: l => by
    show x :: (nms l).map unS = x :: l
    rw [nms_un l]
/-- what sorting distinct names gives -/
theorem isort_nms {xs : List Sg} (h : xs.Nodup) : ∃ us : List Sg, isort (nms xs) = nms us ∧ us.Pairwise (· < ·) ∧ us.Perm xs := by
  have nd : (nms xs).Nodup := by
    unfold nms
    unfold List.Nodup at *
    rw [List.pairwise_map]
    exact h.imp fun {a b} q e => q (by cases e; rfl)
  obtain ⟨s1, p1⟩ := isort_spec (nms_alk xs) (nms_rf xs)
  have e := usort_of (nms_alk xs) (nms_rf xs) (fun y => Iff.rfl) nd
  obtain ⟨s2, m2⟩ := usort_spec (nms_alk xs) (nms_rf xs)
  rw [← e] at s2
  have ex : ∃ us : List Sg, isort (nms xs) = nms us := by
    refine ⟨(isort (nms xs)).map unS, ?_⟩
    show _ = List.map PV.str (List.map _ _)
    rw [List.map_map]
    refine (List.map_id _).symm.trans (List.map_congr_left fun p hp => ?_)
    obtain ⟨x, _, rfl⟩ := nms_mem (p1.mem_iff.mp hp)
    rfl
  obtain ⟨us, eu⟩ := ex
  refine ⟨us, eu, ?_, ?_⟩
  · rw [eu] at s2
    unfold nms at s2
    rw [List.pairwise_map] at s2
    exact s2.imp fun {a b} q => by
      rw [lt_str] at q
      exact of_decide_eq_true q
  · rw [eu] at p1
    have q := p1.map unS
    rw [nms_un, nms_un] at q
    exact q
theorem range_get (n : Nat) (i : Nat) (h : i < n) : (rangeV 0 (n : Int))[i]? = some (.int i) := by
  unfold rangeV
  rw [show ((n : Int) - 0).toNat = n by omega, List.getElem?_map, List.getElem?_range h]
  show some (PV.int (0 + (i : Int))) = _
  rw [Int.zero_add]
theorem range_end (n : Nat) : (rangeV 0 (n : Int))[n]? = none := by
  unfold rangeV
  rw [show ((n : Int) - 0).toNat = n by omega, List.getElem?_map, List.getElem?_eq_none (by simp)]
  rfl
/-- a draw of names: between one and most of the pool -/
structure Pool (most : Nat) (us : List Sg) : Prop where
  asc : us.Pairwise (· < ·)
  sub : ∀ x ∈ us, x ∈ pool8
  l1 : 1 ≤ us.length
  lm : us.length ≤ most
theorem pool_run {D : List (Nat × Dfn)} (hD : HasP D) (h20 : D.lookup 20 = some x__law_pool) (n : Nat) {c : Ct} {b : Nat} {k seed : Int} {rest : List GO} {lo most : Nat} (h : Ok b k seed) (hb : b < 3000000000) (h1 : 0 < most) (h8 : most ≤ 8) :
    ∃ k' seed' us, runD D (n + 3) 20 [.ref 2, .int most] (G c k seed rest lo) = some (.ref (rest.length + 3), G c k' seed' (rest ++ [.lst (nms us)]) lo) ∧ Pool most us ∧ Ok (b + 1 + most) k' seed' := by
  let z := rest.length + 3
  let R0 := rest ++ [.lst (nms pool8), .lst (nms [])]
  obtain ⟨r, k1, seed1, e, r0, r1, ok1⟩ := take_G (c := c) (rest := R0) (lo := R0.length + 3) hD n (many := most) h (by omega) (by omega) (by omega)
  obtain ⟨m, rfl⟩ : ∃ m : Nat, r = m := ⟨r.toNat, by omega⟩
  let σ1 : Env := [some (.ref 2), some (.int most), none, some (.ref (rest.length + 3)), some (.ref (rest.length + 1 + 3))]
  let I : Nat → Env → S → Prop := fun i σ s => σ = σ1 ∧ ∃ k' seed' pool found, s = G c k' seed' (rest ++ [.lst (nms pool), .lst (nms found)]) (rest.length + 5) ∧ PoolI pool found i ∧ Ok (b + 1 + i) k' seed'
  have loop := for_go (get := fun s i => IT.get s (.vals (rangeV 0 ((m + 1 : Nat) : Int))) i) (turn := forTurn (.nm 2) [2] (fun σ s => evB (runD D (n + 2)) (.cons (.ex (.mth .append (.v 4) (.cons (.mth .pop (.v 3) (.cons (.call 18 (.cons (.v 0) (.cons (.blt .len (.cons (.v 3) .nil)) .nil))) .nil)) .nil))) .nil) σ s)) (P := I) (n := m + 1)
    (by
      rintro i σ s hi ⟨rfl, k', seed', pool, found, rfl, P, ok⟩
      obtain ⟨k2, seed2, pool2, found2, ev, P2, ok2⟩ := pool_turn hD n (c := c) (rest := rest) (lo := rest.length + 5) ok (by omega) P (by omega) (w := some (.int most)) (y := some (.int i))
      refine ⟨.int i, σ1, G c k2 seed2 (rest ++ [.lst (nms pool2), .lst (nms found2)]) (rest.length + 5), ?_, ?_, rfl, k2, seed2, pool2, found2, rfl, P2, ok2.le (by omega)⟩
      · show some _ = some _
        rw [range_get _ _ hi]
      · have hz : (G c k' seed' (rest ++ [.lst (nms pool), .lst (nms found)]) (rest.length + 5)).size = rest.length + 5 := by
          show (rest ++ [_, _]).length + 3 = _
          rw [List.length_append]
          rfl
        have t := turn_nx (tg := .nm 2) (kills := [2]) (v := .int i) (σ := σ1) (s := G c k' seed' (rest ++ [.lst (nms pool), .lst (nms found)]) (rest.length + 5)) (σ2 := [some (.ref 2), some (.int most), some (.int i), some (.ref (rest.length + 3)), some (.ref (rest.length + 1 + 3))]) (run := fun σ s => evB (runD D (n + 2)) (.cons (.ex (.mth .append (.v 4) (.cons (.mth .pop (.v 3) (.cons (.call 18 (.cons (.v 0) (.cons (.blt .len (.cons (.v 3) .nil)) .nil))) .nil)) .nil))) .nil) σ s) rfl (by rw [hz]; exact ev)
        rw [t, hz]
        refine congrArg (fun z => some (Out.nx σ1, z)) (tidyE_same (g := (G c k2 seed2 (rest ++ [.lst (nms pool2), .lst (nms found2)]) (rest.length + 5)).g) ?_ ?_)
        · show (rest ++ [_, _]).length + 3 = _
          rw [List.length_append]
          rfl
        · show envBlw (rest.length + 5) σ1 = true
          show ((decide (2 < rest.length + 5)) && (true && ((decide (rest.length + 3 < rest.length + 5)) && ((decide (rest.length + 1 + 3 < rest.length + 5)) && true)))) = true
          rw [decide_eq_true (by omega), decide_eq_true (by omega), decide_eq_true (by omega)]
          rfl)
    (by
      rintro σ s ⟨rfl, _⟩
      show some _ = some _
      rw [range_end])
    fuel 0 σ1 (G c k1 seed1 R0 (rest.length + 5)) (by show m + 1 - 0 < 1000000; omega) (Nat.zero_le _) ⟨rfl, k1, seed1, pool8, [], rfl, ⟨List.Perm.refl _, rfl⟩, ok1⟩
  obtain ⟨σ', s', hl, rfl, k2, seed2, pool2, found2, rfl, P2, ok2⟩ := loop
  have nd : found2.Nodup := by
    have : pool8.Nodup := by decide
    exact (List.nodup_append.mp (P2.perm.nodup_iff.mpr this)).1
  obtain ⟨us, eu, asc, pm⟩ := isort_nms nd
  have lus : us.length = m + 1 := pm.length_eq.trans P2.len
  refine ⟨k2, seed2, us, ?_, ⟨asc, fun x hx => P2.perm.mem_iff.mp (List.mem_append_left _ (pm.mem_iff.mp hx)), by omega, by omega⟩, ok2.le (by omega)⟩
  have hz0 : (G c k seed R0 z).size = rest.length + 5 := by
    show (rest ++ [_, _]).length + 3 = _
    rw [List.length_append]
    rfl
  have hR0 : R0.length + 3 = rest.length + 5 := hz0
  have hz2 : ∀ lo, (G c k2 seed2 (rest ++ [.lst (nms pool2), .lst (nms found2)]) lo).size = rest.length + 5 := fun lo => by
    show (rest ++ [_, _]).length + 3 = _
    rw [List.length_append]
    rfl
  have st1 : evS (runD D (n + 2)) (.asg (.tp [(.nm 3), (.nm 4)]) (.tup (.cons (.lst (.cons (.c (.str [97])) (.cons (.c (.str [97, 98])) (.cons (.c (.str [98])) (.cons (.c (.str [99])) (.cons (.c (.str [99, 97])) (.cons (.c (.str [100, 111, 111, 114])) (.cons (.c (.str [120])) (.cons (.c (.str [122, 122])) .nil))))))))) (.cons (.lst .nil) .nil)))) [some (.ref 2), some (.int most), none, none, none] (G c k seed rest z)
      = some (.nx σ1, G c k seed R0 z) := by
    have q : evE (runD D (n + 2)) (.tup (.cons (.lst (.cons (.c (.str [97])) (.cons (.c (.str [97, 98])) (.cons (.c (.str [98])) (.cons (.c (.str [99])) (.cons (.c (.str [99, 97])) (.cons (.c (.str [100, 111, 111, 114])) (.cons (.c (.str [120])) (.cons (.c (.str [122, 122])) .nil))))))))) (.cons (.lst .nil) .nil))) [some (.ref 2), some (.int most), none, none, none] (G c k seed rest z)
        = some (.tup [.ref (rest.length + 3), .ref ((rest ++ [GO.lst (nms pool8)]).length + 3)], G c k seed ((rest ++ [.lst (nms pool8)]) ++ [.lst (nms [])]) z) :=
      r_tup (r_cons (r_lst (r_cons r_c (r_cons r_c (r_cons r_c (r_cons r_c (r_cons r_c (r_cons r_c (r_cons r_c (r_cons r_c r_nil)))))))) (by decide)) (r_cons (r_lst r_nil (by decide)) r_nil)) (by show 2 ≤ line; decide)
    rw [List.append_assoc, List.length_append] at q
    exact r_asg (r_scpK (s := G c k seed rest z) (g := (G c k seed R0 z).g) q (by
      show (decide (rest.length + 3 < rest.length + 3) && _) = false
      rw [decide_eq_false (Nat.lt_irrefl _)]
      rfl)) rfl
  have st2 : evS (runD D (n + 2)) (.for (.nm 2) (.rng (.bin .add (.c (.int 1)) (.call 18 (.cons (.v 0) (.cons (.v 1) .nil))))) (.cons (.ex (.mth .append (.v 4) (.cons (.mth .pop (.v 3) (.cons (.call 18 (.cons (.v 0) (.cons (.blt .len (.cons (.v 3) .nil)) .nil))) .nil)) .nil))) .nil) [2]) σ1 (G c k seed R0 z)
      = some (.nx σ1, G c k2 seed2 (rest ++ [.lst (nms pool2), .lst (nms found2)]) z) := by
    have hi : evI (runD D (n + 2)) (.rng (.bin .add (.c (.int 1)) (.call 18 (.cons (.v 0) (.cons (.v 1) .nil))))) σ1 ⟨(G c k seed R0 z).g, (G c k seed R0 z).size⟩ = some (.vals (rangeV 0 ((m + 1 : Nat) : Int)), G c k1 seed1 R0 (rest.length + 5)) := by
      rw [hz0]
      rw [hR0] at e
      have em : (1 : Int) + (m : Int) = ((m + 1 : Nat) : Int) := by omega
      rw [← em]
      exact i_rng (r_bin r_c (r_call (r_cons (r_v rfl) (r_cons (r_v rfl) r_nil)) e) b_add) (by unfold intOk; exact decide_eq_true (by omega))
    rw [r_for hi hl, hz0]
    refine congrArg (fun z => some (Out.nx σ1, z)) (tidyE_same (g := (G c k2 seed2 (rest ++ [.lst (nms pool2), .lst (nms found2)]) (rest.length + 5)).g) ?_ ?_)
    · exact hz2 0
    · show ((decide (2 < rest.length + 5)) && (true && ((decide (rest.length + 3 < rest.length + 5)) && ((decide (rest.length + 1 + 3 < rest.length + 5)) && true)))) = true
      rw [decide_eq_true (by omega), decide_eq_true (by omega), decide_eq_true (by omega)]
      rfl
  refine r_runLM (s := G c k seed rest lo) (g1 := (G c k2 seed2 rest lo).g) (g := [.lst (nms pool2), .lst (nms found2), .lst (nms us)]) (m := rest.length + 5) h20 rfl rfl (by show rest.length + 3 ≤ _; omega) ?_ (nms_blw _ _) ?_
  · show (rest ++ [GO.lst (nms pool2), .lst (nms found2), .lst (nms us)])[rest.length + 2]? = _
    rw [List.getElem?_append_right (by omega), show rest.length + 2 - rest.length = 2 by omega]
    rfl
  · have fin : (⟨(G c k2 seed2 rest lo).g ++ [.lst (nms pool2), .lst (nms found2), .lst (nms us)], (G c k seed rest lo).size⟩ : S) = (G c k2 seed2 (rest ++ [.lst (nms pool2), .lst (nms found2)]) z).push (.lst (nms us)) := by
      show (⟨_ :: _ :: _ :: (rest ++ [_, _, _]), _⟩ : S) = ⟨_ :: _ :: _ :: ((rest ++ [_, _]) ++ [_]), _⟩
      rw [List.append_assoc]
      rfl
    rw [fin]
    unfold x__law_pool
    refine r_nx st1 (r_nx st2 (r_rt (r_ret ?_)))
    rw [← hz2 z]
    exact r_blt (r_cons (r_v rfl) r_nil) (b_sorted two_get1 (nms_sortable (by rw [P2.len]; exact Nat.le_trans (Nat.le_trans (by omega : m + 1 ≤ 8) (by decide)) (Nat.le_refl _))) eu)
end Ev

set_option linter.all false
set_option autoImplicit false
set_option maxRecDepth 100000
set_option maxHeartbeats 4000000
/-! Sy6: a drawn family. -/
namespace Ev
open PySem
theorem nms_get {us : List Sg} {i : Nat} (h : i < us.length) : (nms us)[i]? = some (.str us[i]) := by
  unfold nms
  rw [List.getElem?_map, List.getElem?_eq_getElem h]
  rfl
theorem nms_len (us : List Sg) : (nms us).length = us.length := List.length_map ..
theorem nms_snoc (us : List Sg) (x : Sg) : nms us ++ [.str x] = nms (us ++ [x]) := by
  unfold nms
  rw [List.map_append]
  rfl
/-- [name for name in names if _law_take(pen, 5) > 1] -/
theorem own_run {D : List (Nat × Dfn)} (hD : HasP D) (n : Nat) {c : Ct} {b : Nat} {k seed : Int} {R : List GO} {lo m : Nat} (h : Ok b k seed) {us : List Sg} (hu : us.length ≤ 8) (hm : R[m]? = some (.lst (nms us))) (hb : b < 3000000000) {w1 w2 w3 w5 w6 : Option PV} :
    ∃ k' seed' zs, evE (runD D (n + 2)) (.lc (.v 7) (.nm 7) (.seq (.v 4)) (.some (.cmp .gt (.call 18 (.cons (.v 0) (.cons (.c (.int 5)) .nil))) (.c (.int 1))))) [some (.ref 2), w1, w2, w3, some (.ref (m + 3)), w5, w6, none] (G c k seed R lo)
      = some (.ref (R.length + 3), G c k' seed' (R ++ [.lst (nms zs)]) lo) ∧ zs.Sublist us ∧ Ok (b + 8) k' seed' := by
  let σ2 : PV → Env := fun v => [some (.ref 2), w1, w2, w3, some (.ref (m + 3)), w5, w6, some v]
  obtain ⟨acc, s', hl, zs, k', seed', rfl, rfl, sub, ok⟩ := lc_go (get := fun s i => IT.get s (.lref (m + 3)) i)
    (turn := lcTurn (.nm 7) [some (.ref 2), w1, w2, w3, some (.ref (m + 3)), w5, w6, none] (fun σ s => evT (runD D (n + 2)) (.some (.cmp .gt (.call 18 (.cons (.v 0) (.cons (.c (.int 5)) .nil))) (.c (.int 1)))) σ s) (fun σ s => evE (runD D (n + 2)) (.v 7) σ s))
    (P := fun i acc s => ∃ zs k' seed', acc = nms zs ∧ s = G c k' seed' R lo ∧ zs.Sublist (us.take i) ∧ Ok (b + i) k' seed') (n := us.length)
    (by
      rintro i acc s hi ⟨zs, k', seed', rfl, rfl, sub, ok⟩
      obtain ⟨r, k2, seed2, e, r0, r1, ok2⟩ := take_G (c := c) (rest := R) (lo := R.length + 3) hD n (many := 5) ok (by omega) (by decide) (by decide)
      have hg : IT.get (G c k' seed' R lo) (.lref (m + 3)) i = some (some (.str us[i])) := by
        unfold IT.get lstAt
        rw [show (G c k' seed' R lo).g[m + 3]? = some (.lst (nms us)) from hm]
        show some (nms us)[i]? = _
        rw [nms_get hi]
      have tk : us.take (i + 1) = us.take i ++ [us[i]] := by
        rw [List.take_add_one, List.getElem?_eq_getElem hi]
        rfl
      have ht : ∀ {d : Bool}, decide (1 < r) = d → evT (runD D (n + 2)) (.some (.cmp .gt (.call 18 (.cons (.v 0) (.cons (.c (.int 5)) .nil))) (.c (.int 1)))) (σ2 (.str us[i])) (G c k' seed' R lo) = some (d, G c k2 seed2 R lo) := fun {d} hd =>
        t_some (r_scpM (s := G c k' seed' R lo) (g := (G c k2 seed2 R lo).g) (r_cmp (r_call (r_cons (r_v rfl) (r_cons r_c r_nil)) e) r_c (by show some (decide (1 < r)) = some d; rw [hd])) rfl rfl)
      by_cases h1 : 1 < r
      · refine ⟨.str us[i], [.str us[i]], G c k2 seed2 R lo, hg, turn_lc (σ2 := σ2 (.str us[i])) rfl (ht (decide_eq_true h1)) (r_scp0 (r_v rfl) rfl), zs ++ [us[i]], k2, seed2, nms_snoc zs _, rfl, ?_, ok2.le (by omega)⟩
        rw [tk]
        exact sub.append_right _
      · refine ⟨.str us[i], [], G c k2 seed2 R lo, hg, turn_lcF (σ2 := σ2 (.str us[i])) rfl (ht (decide_eq_false h1)), zs, k2, seed2, List.append_nil _, rfl, ?_, ok2.le (by omega)⟩
        rw [tk]
        exact sub.trans (List.sublist_append_left _ _))
    (by
      rintro acc s ⟨zs, k', seed', rfl, rfl, _⟩
      unfold IT.get lstAt
      rw [show (G c k' seed' R lo).g[m + 3]? = some (.lst (nms us)) from hm]
      show some (nms us)[us.length]? = _
      rw [List.getElem?_eq_none (by rw [nms_len]; exact Nat.le_refl _)])
    fuel 0 [] (G c k seed R lo) (by show us.length - 0 < 1000000; omega) (Nat.zero_le _) ⟨[], k, seed, rfl, rfl, List.nil_sublist _, h⟩
  rw [List.take_length] at sub
  refine ⟨k', seed', zs, ?_, sub, ok.le (by omega)⟩
  exact r_lc (C := runD D (n + 2)) (σ := [some (.ref 2), w1, w2, w3, some (.ref (m + 3)), w5, w6, none]) (tg := .nm 7) (e := .v 7) (ifs := .some (.cmp .gt (.call 18 (.cons (.v 0) (.cons (.c (.int 5)) .nil))) (.c (.int 1)))) (i_lst (xs := nms us) (r_v rfl) (by
    unfold lstAt
    rw [show (G c k seed R lo).g[m + 3]? = some (.lst (nms us)) from hm])) hl (by
      rw [nms_len]
      exact Nat.le_trans (Nat.le_trans sub.length_le hu) (by decide))
theorem get_left {R : List GO} {m : Nat} {o : GO} {j : List GO} (h : R[m]? = some o) : (R ++ j)[m]? = some o := by
  have : m < R.length := by
    rcases Nat.lt_or_ge m R.length with z | z
    · exact z
    · rw [List.getElem?_eq_none z] at h
      cases h
  rw [List.getElem?_append_left this]
  exact h
/-- what a turn of _law_family appends -/
theorem fam_item {D : List (Nat × Dfn)} (hD : HasP D) (n : Nat) {c : Ct} {b : Nat} {k seed : Int} {R : List GO} {lo m q : Nat} (h : Ok b k seed) {us zs : List Sg} (hu : us.length ≤ 6) (hu0 : us ≠ []) (hz : zs.Sublist us) (hm : R[m]? = some (.lst (nms us))) (hq : R[q]? = some (.lst (nms zs))) (hb : b < 3000000000) {w1 w2 w3 w5 w7 : Option PV} :
    ∃ k' seed' ys j, evE (runD D (n + 3)) (.ite (.cmp .ne (.v 6) (.lst .nil)) (.blt .tuple (.cons (.sl (.v 6) .none (.some (.c (.int 6)))) .nil)) (.tup (.cons (.call 19 (.cons (.v 0) (.cons (.v 4) .nil))) .nil))) [some (.ref 2), w1, w2, w3, some (.ref (m + 3)), w5, some (.ref (q + 3)), w7] (G c k seed R lo)
      = some (.tup (nms ys), G c k' seed' (R ++ j) lo) ∧ ys ≠ [] ∧ ys.Sublist us ∧ Ok (b + 1) k' seed' := by
  let R1 := R ++ [GO.lst []]
  have a1 : (G c k seed R1 lo).g[R.length + 3]? = some (.lst (nms [])) := getE (l := R)
  have a2 : (G c k seed R1 lo).g[q + 3]? = some (.lst (nms zs)) := get_left hq
  have cmpv : cop .ne (.ref (q + 3)) (.ref (R.length + 3)) (G c k seed R1 lo) = some (!(eqvs (nms zs) (nms []))) := by
    show (eqD _ _ _).map not = _
    unfold eqD
    rw [nms_deep a2, nms_deep a1]
    have e : (PV.lv (nms zs)).dep = 1 := by
      show PV.deps (nms zs) + 1 = 1
      rw [nms_dep]
    simp only [e]
    rfl
  cases zs with
  | nil =>
    obtain ⟨x, k', seed', e, hx, ok⟩ := oneL_G (c := c) (rest := R1) (lo := lo) hD n h (by omega) (get_left hm) (by intro z; apply hu0; cases us with
      | nil => rfl
      | cons a l => cases z) (by rw [nms_len]; omega) (nms_blw _ _)
    obtain ⟨y, hy, rfl⟩ := nms_mem hx
    exact ⟨k', seed', [y], [.lst []], r_itef (r_cmp (r_v rfl) (r_lst r_nil (by decide)) cmpv) (r_tup (r_cons (r_call (r_cons (r_v rfl) (r_cons (r_v rfl) r_nil)) e) r_nil) (by show 1 ≤ line; decide)), by simp, List.singleton_sublist.mpr hy, ok⟩
  | cons z zs =>
    have l6 : (z :: zs).length ≤ 6 := Nat.le_trans hz.length_le hu
    have ec : cut (nms (z :: zs)) none (some 6) = nms (z :: zs) := by
      unfold cut cutIx
      simp only [show ¬ ((6 : Int) < 0) from by decide, if_false]
      rw [List.drop_zero, Nat.sub_zero, nms_len, show min (6 : Int).toNat (z :: zs).length = (z :: zs).length from Nat.min_eq_right l6]
      exact List.take_of_length_le (by rw [nms_len]; exact Nat.le_refl _)
    refine ⟨k, seed, z :: zs, [.lst [], .lst (nms (z :: zs))], ?_, by simp, hz, h.le (by omega)⟩
    refine r_itet (r_cmp (r_v rfl) (r_lst r_nil (by decide)) cmpv) ?_
    have q1 : slice (.ref (q + 3)) none (some 6) (G c k seed R1 lo) = some (.ref (R1.length + 3), G c k seed (R1 ++ [.lst (nms (z :: zs))]) lo) := by
      show (lstAt (G c k seed R1 lo) (q + 3)).bind _ = _
      unfold lstAt
      rw [a2]
      show alloc (.lst (cut (nms (z :: zs)) none (some 6))) _ = _
      rw [ec]
      rfl
    have q2 : blt .tuple [.ref (R1.length + 3)] (G c k seed (R1 ++ [.lst (nms (z :: zs))]) lo) = some (.tup (nms (z :: zs)), G c k seed (R1 ++ [.lst (nms (z :: zs))]) lo) := by
      show (match seqOf _ (.ref (R1.length + 3)) with
        | some xs => some (PV.tup xs, _)
        | none => none) = _
      have sq : seqOf (G c k seed (R1 ++ [.lst (nms (z :: zs))]) lo) (.ref (R1.length + 3)) = some (nms (z :: zs)) := by
        show lstAt _ _ = _
        unfold lstAt
        rw [show (G c k seed (R1 ++ [.lst (nms (z :: zs))]) lo).g[R1.length + 3]? = some (.lst (nms (z :: zs))) from getE (l := R1)]
      rw [sq]
    have e1 : R ++ [GO.lst [], .lst (nms (z :: zs))] = R1 ++ [.lst (nms (z :: zs))] := by
      show _ = (R ++ [_]) ++ [_]
      rw [List.append_assoc]
      rfl
    rw [e1]
    exact r_blt (r_cons (r_sl (r_v rfl) r_on (r_os r_c) q1) r_nil) q2
end Ev

set_option linter.all false
set_option autoImplicit false
set_option maxRecDepth 100000
set_option maxHeartbeats 4000000
/-! Sy7: a turn of _law_family. -/
namespace Ev
open PySem
theorem r_scpMG {f : S → Option (PV × S)} {g1 j : List GO} {s : S} {v : PV} (h : f ⟨s.g, s.size⟩ = some (v, ⟨g1 ++ j, s.size⟩)) (hg : g1.length = s.size) (hv : v.blw s.size = true) : scp f s = some (v, ⟨g1, s.lo⟩) := by
  unfold scp
  rw [h]
  simp only
  unfold tidy
  rw [if_pos (Nat.le_refl _), if_pos hv, List.take_left' hg]
theorem famP_snoc (F : List (List Sg)) (xs : List Sg) : famP F ++ [.tup (nms xs)] = famP (F ++ [xs]) := by
  unfold famP
  rw [List.map_append]
  rfl
theorem G_app {c : Ct} {k seed : Int} {R j : List GO} {lo : Nat} : G c k seed (R ++ j) lo = ⟨(G c k seed R lo).g ++ j, lo⟩ := rfl
/-- the second statement of the turn; R = rest, us, F, zs -/
theorem fam_app {D : List (Nat × Dfn)} (hD : HasP D) (n : Nat) {c : Ct} {b : Nat} {k seed : Int} {rest : List GO} {lo : Nat} (h : Ok b k seed) {us zs : List Sg} {F : List (List Sg)} (hu : us.length ≤ 6) (hu0 : us ≠ []) (hz : zs.Sublist us) (hb : b < 3000000000) (hF : F.length ≤ 6) {w1 w2 w3 w7 : Option PV} :
    ∃ k' seed' ys, evS (runD D (n + 3)) (.ex (.mth .append (.v 5) (.cons (.ite (.cmp .ne (.v 6) (.lst .nil)) (.blt .tuple (.cons (.sl (.v 6) .none (.some (.c (.int 6)))) .nil)) (.tup (.cons (.call 19 (.cons (.v 0) (.cons (.v 4) .nil))) .nil))) .nil)))
      [some (.ref 2), w1, w2, w3, some (.ref (rest.length + 3)), some (.ref (rest.length + 1 + 3)), some (.ref (rest.length + 2 + 3)), w7] (G c k seed (rest ++ [.lst (nms us), .lst (famP F), .lst (nms zs)]) lo)
      = some (.nx [some (.ref 2), w1, w2, w3, some (.ref (rest.length + 3)), some (.ref (rest.length + 1 + 3)), some (.ref (rest.length + 2 + 3)), w7], G c k' seed' (rest ++ [.lst (nms us), .lst (famP (F ++ [ys])), .lst (nms zs)]) lo) ∧ ys ≠ [] ∧ ys.Sublist us ∧ Ok (b + 1) k' seed' := by
  let R := rest ++ [.lst (nms us), .lst (famP F), .lst (nms zs)]
  let R' := fun ys => rest ++ [.lst (nms us), .lst (famP (F ++ [ys])), .lst (nms zs)]
  have g0 : R[rest.length]? = some (.lst (nms us)) := by
    rw [List.getElem?_append_right (Nat.le_refl _), Nat.sub_self]; rfl
  have g1 : R[rest.length + 1]? = some (.lst (famP F)) := by
    rw [List.getElem?_append_right (by omega), Nat.add_sub_cancel_left]; rfl
  have g2 : R[rest.length + 2]? = some (.lst (nms zs)) := by
    rw [List.getElem?_append_right (by omega), Nat.add_sub_cancel_left]; rfl
  obtain ⟨k', seed', ys, j, e, y0, ysub, ok⟩ := fam_item (c := c) (R := R) (lo := (G c k seed R lo).size) (m := rest.length) (q := rest.length + 2) hD n h hu hu0 hz g0 g2 hb (w1 := w1) (w2 := w2) (w3 := w3) (w5 := some (.ref (rest.length + 1 + 3))) (w7 := w7)
  refine ⟨k', seed', ys, ?_, y0, ysub, ok⟩
  have t0 : mthTy .append (.ref (rest.length + 1 + 3)) (G c k seed R (G c k seed R lo).size) = true := by
    unfold mthTy
    simp only [show (G c k seed R (G c k seed R lo).size).g[rest.length + 1 + 3]? = some (.lst (famP F)) from g1]
  have q := m_append (s := G c k' seed' (R ++ j) (G c k seed R lo).size) (n := rest.length + 1 + 3) (xs := famP F) (v := .tup (nms ys)) (get_left g1) (by
    show (F.map _).length < line
    rw [List.length_map]
    exact Nat.lt_of_le_of_lt hF (by decide))
  rw [show (PV.tup (nms ys)).rf = true from nms_rf ys, G_wr, famP_snoc] at q
  have es : (R ++ j).set (rest.length + 1) (.lst (famP (F ++ [ys]))) = R' ys ++ j := by
    rw [List.set_append_left _ _ (by show _ < (rest ++ [_, _, _]).length; rw [List.length_append]; show _ < rest.length + 3; omega)]
    show (rest ++ [_, _, _]).set _ _ ++ j = _
    rw [List.set_append_right _ _ (by omega), Nat.add_sub_cancel_left]
    rfl
  rw [es] at q
  have lenR : (G c k' seed' (R' ys) lo).g.length = (G c k seed R lo).size := by
    show (rest ++ [_, _, _]).length + 3 = (rest ++ [_, _, _]).length + 3
    rw [List.length_append, List.length_append]
    rfl
  exact r_ex (r_scpMG (s := G c k seed R lo) (g1 := (G c k' seed' (R' ys) lo).g) (j := j) (r_mth (r_v rfl) t0 (r_cons e r_nil) q) lenR rfl)
/-- both statements of the turn -/
theorem fam_turn {D : List (Nat × Dfn)} (hD : HasP D) (n : Nat) {c : Ct} {b : Nat} {k seed : Int} {rest : List GO} {lo : Nat} (h : Ok b k seed) {us : List Sg} {F : List (List Sg)} (hu : us.length ≤ 6) (hu0 : us ≠ []) (hb : b < 2000000000) (hF : F.length ≤ 6) {w1 w2 w3 : Option PV} :
    ∃ k' seed' ys zs, evB (runD D (n + 3)) (.cons (.asg (.nm 6) (.lc (.v 7) (.nm 7) (.seq (.v 4)) (.some (.cmp .gt (.call 18 (.cons (.v 0) (.cons (.c (.int 5)) .nil))) (.c (.int 1)))))) (.cons (.ex (.mth .append (.v 5) (.cons (.ite (.cmp .ne (.v 6) (.lst .nil)) (.blt .tuple (.cons (.sl (.v 6) .none (.some (.c (.int 6)))) .nil)) (.tup (.cons (.call 19 (.cons (.v 0) (.cons (.v 4) .nil))) .nil))) .nil))) .nil))
      [some (.ref 2), w1, w2, w3, some (.ref (rest.length + 3)), some (.ref (rest.length + 1 + 3)), none, none] (G c k seed (rest ++ [.lst (nms us), .lst (famP F)]) lo)
      = some (.nx [some (.ref 2), w1, w2, w3, some (.ref (rest.length + 3)), some (.ref (rest.length + 1 + 3)), some (.ref (rest.length + 2 + 3)), none], G c k' seed' (rest ++ [.lst (nms us), .lst (famP (F ++ [ys])), .lst (nms zs)]) lo) ∧ ys ≠ [] ∧ ys.Sublist us ∧ Ok (b + 9) k' seed' := by
  let R := rest ++ [.lst (nms us), .lst (famP F)]
  have lR : R.length = rest.length + 2 := by
    show (rest ++ [_, _]).length = _
    rw [List.length_append]
    rfl
  obtain ⟨k1, seed1, zs, e, sub, ok1⟩ := own_run (c := c) (R := R) (lo := (G c k seed R lo).size) (m := rest.length) hD (n + 1) h (us := us) (by omega) two_get0 (by omega) (w1 := w1) (w2 := w2) (w3 := w3) (w5 := some (.ref (rest.length + 1 + 3))) (w6 := none)
  obtain ⟨k2, seed2, ys, e2, y0, ysub, ok2⟩ := fam_app (c := c) (rest := rest) (lo := lo) hD n ok1 hu hu0 sub (by omega) hF (w1 := w1) (w2 := w2) (w3 := w3) (w7 := none)
  refine ⟨k2, seed2, ys, zs, ?_, y0, ysub, ok2⟩
  have st1 : evS (runD D (n + 3)) (.asg (.nm 6) (.lc (.v 7) (.nm 7) (.seq (.v 4)) (.some (.cmp .gt (.call 18 (.cons (.v 0) (.cons (.c (.int 5)) .nil))) (.c (.int 1)))))) [some (.ref 2), w1, w2, w3, some (.ref (rest.length + 3)), some (.ref (rest.length + 1 + 3)), none, none] (G c k seed R lo)
      = some (.nx [some (.ref 2), w1, w2, w3, some (.ref (rest.length + 3)), some (.ref (rest.length + 1 + 3)), some (.ref (rest.length + 2 + 3)), none], G c k1 seed1 (rest ++ [.lst (nms us), .lst (famP F), .lst (nms zs)]) lo) := by
    have q := r_asg (tg := .nm 6) (σ := [some (.ref 2), w1, w2, w3, some (.ref (rest.length + 3)), some (.ref (rest.length + 1 + 3)), none, none]) (r_scpLM (s := G c k seed R lo) (g1 := (G c k1 seed1 R lo).g) (g := [.lst (nms zs)]) e rfl (Nat.le_refl _) (getE (l := (G c k1 seed1 R lo).g)) (nms_blw _ _)) rfl
    rw [show (G c k seed R lo).size = rest.length + 2 + 3 by show R.length + 3 = _; rw [lR]] at q
    have er : rest ++ [GO.lst (nms us), .lst (famP F), .lst (nms zs)] = R ++ [.lst (nms zs)] := by
      show _ = (rest ++ [_, _]) ++ [_]
      rw [List.append_assoc]
      rfl
    rw [er]
    exact q
  exact r_nx st1 (r_nx e2 r_bnil)
end Ev

set_option linter.all false
set_option autoImplicit false
set_option maxRecDepth 100000
set_option maxHeartbeats 4000000
/-! Sy8: a drawn family. -/
namespace Ev
open PySem
def x__law_family : Dfn := ⟨3, 8, (.cons (.asg (.tp [(.nm 4), (.nm 5)]) (.tup (.cons (.call 20 (.cons (.v 0) (.cons (.v 1) .nil))) (.cons (.lst .nil) .nil)))) (.cons (.for (.nm 3) (.rng (.bin .add (.c (.int 1)) (.call 18 (.cons (.v 0) (.cons (.v 2) .nil))))) (.cons (.asg (.nm 6) (.lc (.v 7) (.nm 7) (.seq (.v 4)) (.some (.cmp .gt (.call 18 (.cons (.v 0) (.cons (.c (.int 5)) .nil))) (.c (.int 1)))))) (.cons (.ex (.mth .append (.v 5) (.cons (.ite (.cmp .ne (.v 6) (.lst .nil)) (.blt .tuple (.cons (.sl (.v 6) .none (.some (.c (.int 6)))) .nil)) (.tup (.cons (.call 19 (.cons (.v 0) (.cons (.v 4) .nil))) .nil))) .nil))) .nil)) [3, 6, 7]) (.cons (.ret (.blt .tuple (.cons (.v 5) .nil))) .nil)))⟩
/-- a drawn family -/
structure Drawn (most obs : Nat) (F : List (List Sg)) (us : List Sg) : Prop where
  pool : Pool most us
  l1 : 1 ≤ F.length
  lm : F.length ≤ obs
  sub : ∀ ys ∈ F, ys ≠ [] ∧ ys.Sublist us
theorem Drawn.sets {most obs : Nat} {F : List (List Sg)} {us : List Sg} (h : Drawn most obs F us) (hm : most ≤ 6) : ∀ ys ∈ F, NmSet ys := by
  intro ys hy
  obtain ⟨y0, sub⟩ := h.sub ys hy
  refine ⟨List.length_pos_iff.mpr y0, Nat.le_trans (Nat.le_trans sub.length_le h.pool.lm) hm, fun x hx => pool8_nm x (h.pool.sub x (sub.subset hx)), h.pool.asc.sublist sub⟩
/-- the names of a drawn family -/
theorem Drawn.names {most obs : Nat} {F : List (List Sg)} {us : List Sg} (h : Drawn most obs F us) (hm : most ≤ 6) (ho : obs ≤ 6) {vs : List Sg} (N : NmsOf F vs) : Fam F vs := by
  refine ⟨h.l1, Nat.le_trans h.lm ho, h.sets hm, N, ?_⟩
  have sub : ∀ x ∈ vs, x ∈ us := fun x hx => by
    obtain ⟨ys, hy, hx⟩ := List.mem_flatten.mp ((N.mem x).mp hx)
    exact (h.sub ys hy).2.subset hx
  have nd : vs.Nodup := N.asc.imp fun {a b} q e => by
    subst e
    exact absurd q (List.lt_irrefl _)
  have := nd.length_le_of_subset sub
  have := h.pool.lm
  omega
def famBody : XB := (.cons (.asg (.nm 6) (.lc (.v 7) (.nm 7) (.seq (.v 4)) (.some (.cmp .gt (.call 18 (.cons (.v 0) (.cons (.c (.int 5)) .nil))) (.c (.int 1)))))) (.cons (.ex (.mth .append (.v 5) (.cons (.ite (.cmp .ne (.v 6) (.lst .nil)) (.blt .tuple (.cons (.sl (.v 6) .none (.some (.c (.int 6)))) .nil)) (.tup (.cons (.call 19 (.cons (.v 0) (.cons (.v 4) .nil))) .nil))) .nil))) .nil))
theorem fam_loop {D : List (Nat × Dfn)} (hD : HasP D) (n : Nat) {c : Ct} {b m : Nat} {k seed : Int} {rest : List GO} (h : Ok b k seed) (hb : b < 1000000000) (hm : m ≤ 6) {us : List Sg} (hu : us.length ≤ 6) (hu0 : us ≠ []) {w1 w2 : Option PV} (hw : envBlw (rest.length + 5) [w1, w2] = true) :
    ∃ k' seed' F, forL (fun s i => IT.get s (.vals (rangeV 0 (m : Int))) i) (forTurn (.nm 3) [3, 6, 7] (fun σ s => evB (runD D (n + 3)) famBody σ s)) fuel 0 [some (.ref 2), w1, w2, none, some (.ref (rest.length + 3)), some (.ref (rest.length + 1 + 3)), none, none] (G c k seed (rest ++ [.lst (nms us), .lst (famP [])]) (rest.length + 5))
      = some (.nx [some (.ref 2), w1, w2, none, some (.ref (rest.length + 3)), some (.ref (rest.length + 1 + 3)), none, none], G c k' seed' (rest ++ [.lst (nms us), .lst (famP F)]) (rest.length + 5)) ∧ F.length = m ∧ (∀ ys ∈ F, ys ≠ [] ∧ ys.Sublist us) ∧ Ok (b + 9 * m) k' seed' := by
  let σ1 : Env := [some (.ref 2), w1, w2, none, some (.ref (rest.length + 3)), some (.ref (rest.length + 1 + 3)), none, none]
  have blw : envBlw (rest.length + 5) σ1 = true := by
    have e : ∀ σ : Env, envBlw (rest.length + 5) [w1, w2] = true → envBlw (rest.length + 5) (w1 :: w2 :: σ) = envBlw (rest.length + 5) σ := by
      intro σ h
      cases w1 <;> cases w2 <;> simp_all [envBlw]
    show (decide (2 < rest.length + 5) && envBlw (rest.length + 5) (w1 :: w2 :: _)) = true
    rw [e _ hw, decide_eq_true (by omega)]
    show (true && (decide (rest.length + 3 < rest.length + 5) && (decide (rest.length + 1 + 3 < rest.length + 5) && true))) = true
    rw [decide_eq_true (by omega), decide_eq_true (by omega)]
    rfl
  have hz : ∀ {k' seed' : Int} {a b : GO} {lo : Nat}, (G c k' seed' (rest ++ [a, b]) lo).size = rest.length + 5 := by
    intro k' seed' a b lo
    show (rest ++ [_, _]).length + 3 = _
    rw [List.length_append]
    rfl
  obtain ⟨σ', s', hl, rfl, k2, seed2, F, rfl, hF, sub, ok⟩ := for_go (get := fun s i => IT.get s (.vals (rangeV 0 (m : Int))) i) (turn := forTurn (.nm 3) [3, 6, 7] (fun σ s => evB (runD D (n + 3)) famBody σ s))
    (P := fun i σ s => σ = σ1 ∧ ∃ k' seed' F, s = G c k' seed' (rest ++ [.lst (nms us), .lst (famP F)]) (rest.length + 5) ∧ F.length = i ∧ (∀ ys ∈ F, ys ≠ [] ∧ ys.Sublist us) ∧ Ok (b + 9 * i) k' seed') (n := m)
    (by
      rintro i σ s hi ⟨rfl, k', seed', F, rfl, hF, sub, ok⟩
      obtain ⟨k2, seed2, ys, zs, ev, y0, ysub, ok2⟩ := fam_turn hD n (c := c) (rest := rest) (lo := rest.length + 5) ok hu hu0 (by omega) (F := F) (by omega) (w1 := w1) (w2 := w2) (w3 := some (.int i))
      refine ⟨.int i, σ1, G c k2 seed2 (rest ++ [.lst (nms us), .lst (famP (F ++ [ys]))]) (rest.length + 5), ?_, ?_, rfl, k2, seed2, F ++ [ys], rfl, by rw [List.length_append, hF]; rfl, ?_, ok2.le (by omega)⟩
      · show some _ = some _
        rw [range_get _ _ hi]
      · have t := turn_nx (tg := .nm 3) (kills := [3, 6, 7]) (v := .int i) (σ := σ1) (s := G c k' seed' (rest ++ [.lst (nms us), .lst (famP F)]) (rest.length + 5)) (σ2 := [some (.ref 2), w1, w2, some (.int i), some (.ref (rest.length + 3)), some (.ref (rest.length + 1 + 3)), none, none]) (run := fun σ s => evB (runD D (n + 3)) famBody σ s) rfl (by rw [hz]; exact ev)
        rw [t, hz]
        refine congrArg (fun z => some (Out.nx σ1, z)) ?_
        have q := tidyE_drop (g := (G c k2 seed2 (rest ++ [.lst (nms us), .lst (famP (F ++ [ys]))]) (rest.length + 5)).g) (j := [.lst (nms zs)]) (n := rest.length + 5) (lo := rest.length + 5) (m := rest.length + 5) (σ := σ1) hz (Nat.le_refl _) blw
        have er : rest ++ [GO.lst (nms us), .lst (famP (F ++ [ys])), .lst (nms zs)] = (rest ++ [.lst (nms us), .lst (famP (F ++ [ys]))]) ++ [.lst (nms zs)] := by
          rw [List.append_assoc]
          rfl
        rw [er]
        exact q
      · intro xs hx
        rcases List.mem_append.mp hx with hx | hx
        · exact sub xs hx
        · rw [List.mem_singleton.mp hx]
          exact ⟨y0, ysub⟩)
    (by
      rintro σ s ⟨rfl, _⟩
      show some _ = some _
      rw [range_end])
    fuel 0 σ1 (G c k seed (rest ++ [.lst (nms us), .lst (famP [])]) (rest.length + 5)) (by show m - 0 < 1000000; omega) (Nat.zero_le _) ⟨rfl, k, seed, [], rfl, rfl, (fun ys hy => nomatch hy), h⟩
  exact ⟨k2, seed2, F, hl, hF, sub, ok⟩
end Ev

set_option linter.all false
set_option autoImplicit false
set_option maxRecDepth 100000
set_option maxHeartbeats 4000000
/-! Sy9: a drawn family, to its end. -/
namespace Ev
open PySem
theorem r_runV {D : List (Nat × Dfn)} {k f : Nat} {d : Dfn} {vs : List PV} {g1 g : List GO} {s : S} {v : PV} (hd : D.lookup f = some d) (hl : vs.length = d.np) (hq : g1.length = s.size) (hv : v.blw s.size = true)
    (h : evB (runD D k) d.body (vs.map some ++ List.replicate (d.nl - d.np) none) ⟨s.g, s.size⟩ = some (.rt v, ⟨g1 ++ g, s.size⟩)) : runD D (k + 1) f vs s = some (v, ⟨g1, s.lo⟩) := by
  rw [runD, hd]
  simp only
  rw [if_pos hl]
  refine r_scpMG (g1 := g1) (j := g) ?_ hq hv
  simp only [h]
theorem famP_blw (m : Nat) : ∀ F : List (List Sg), PV.blws m (famP F) = true
  | [] => rfl
  | xs :: F => by
    show (PV.blws m (nms xs) && PV.blws m (famP F)) = true
    rw [nms_blw, famP_blw m F]
    rfl
theorem family_run {D : List (Nat × Dfn)} (hD : HasP D) (h20 : D.lookup 20 = some x__law_pool) (h21 : D.lookup 21 = some x__law_family) (n : Nat) {c : Ct} {b : Nat} {k seed : Int} {rest : List GO} {lo most obs : Nat} (h : Ok b k seed) (hb : b < 900000000) (h1 : 0 < most) (h8 : most ≤ 6) (o1 : 0 < obs) (o8 : obs ≤ 6) :
    ∃ k' seed' F us, runD D (n + 4) 21 [.ref 2, .int most, .int obs] (G c k seed rest lo) = some (.tup (famP F), G c k' seed' rest lo) ∧ Drawn most obs F us ∧ Ok (b + 100) k' seed' := by
  let z := rest.length + 3
  obtain ⟨k1, seed1, us, e1, PL, ok1⟩ := pool_run hD h20 n (c := c) (rest := rest) (lo := z) h (by omega) h1 (by omega)
  have u6 : us.length ≤ 6 := Nat.le_trans PL.lm h8
  have u0 : us ≠ [] := List.length_pos_iff.mp PL.l1
  let R0 := rest ++ [.lst (nms us), .lst (famP [])]
  obtain ⟨r, k2, seed2, e2, r0, r1, ok2⟩ := take_G (c := c) (rest := R0) (lo := rest.length + 5) hD (n + 1) (many := obs) ok1 (by omega) (by omega) (by omega)
  obtain ⟨m, rfl⟩ : ∃ m : Nat, r = m := ⟨r.toNat, by omega⟩
  obtain ⟨k3, seed3, F, e3, hF, sub, ok3⟩ := fam_loop hD n (c := c) (rest := rest) (m := m + 1) ok2 (by omega) (by omega) u6 u0 (w1 := some (.int most)) (w2 := some (.int obs)) rfl
  refine ⟨k3, seed3, F, us, ?_, ⟨PL, by omega, by omega, sub⟩, ok3.le (by omega)⟩
  let σ1 : Env := [some (.ref 2), some (.int most), some (.int obs), none, some (.ref (rest.length + 3)), some (.ref (rest.length + 1 + 3)), none, none]
  have hz : ∀ {k' seed' : Int} {a b : GO} {lo : Nat}, (G c k' seed' (rest ++ [a, b]) lo).size = rest.length + 5 := by
    intro k' seed' a b lo
    show (rest ++ [_, _]).length + 3 = _
    rw [List.length_append]
    rfl
  have st1 : evS (runD D (n + 3)) (.asg (.tp [(.nm 4), (.nm 5)]) (.tup (.cons (.call 20 (.cons (.v 0) (.cons (.v 1) .nil))) (.cons (.lst .nil) .nil)))) [some (.ref 2), some (.int most), some (.int obs), none, none, none, none, none] (G c k seed rest z) = some (.nx σ1, G c k1 seed1 R0 z) := by
    have q : evE (runD D (n + 3)) (.tup (.cons (.call 20 (.cons (.v 0) (.cons (.v 1) .nil))) (.cons (.lst .nil) .nil))) [some (.ref 2), some (.int most), some (.int obs), none, none, none, none, none] (G c k seed rest z)
        = some (.tup [.ref (rest.length + 3), .ref ((rest ++ [GO.lst (nms us)]).length + 3)], G c k1 seed1 ((rest ++ [.lst (nms us)]) ++ [.lst (famP [])]) z) :=
      r_tup (r_cons (r_call (r_cons (r_v rfl) (r_cons (r_v rfl) r_nil)) e1) (r_cons (r_lst r_nil (by decide)) r_nil)) (by show 2 ≤ line; decide)
    rw [List.append_assoc, List.length_append] at q
    exact r_asg (r_scpK (s := G c k seed rest z) (g := (G c k1 seed1 R0 z).g) q (by
      show (decide (rest.length + 3 < rest.length + 3) && _) = false
      rw [decide_eq_false (Nat.lt_irrefl _)]
      rfl)) rfl
  have st2 : evS (runD D (n + 3)) (.for (.nm 3) (.rng (.bin .add (.c (.int 1)) (.call 18 (.cons (.v 0) (.cons (.v 2) .nil))))) famBody [3, 6, 7]) σ1 (G c k1 seed1 R0 z) = some (.nx σ1, G c k3 seed3 (rest ++ [.lst (nms us), .lst (famP F)]) z) := by
    have hi : evI (runD D (n + 3)) (.rng (.bin .add (.c (.int 1)) (.call 18 (.cons (.v 0) (.cons (.v 2) .nil))))) σ1 ⟨(G c k1 seed1 R0 z).g, (G c k1 seed1 R0 z).size⟩ = some (.vals (rangeV 0 ((m + 1 : Nat) : Int)), G c k2 seed2 R0 (rest.length + 5)) := by
      rw [hz]
      have em : (1 : Int) + (m : Int) = ((m + 1 : Nat) : Int) := by omega
      rw [← em]
      exact i_rng (r_bin r_c (r_call (r_cons (r_v rfl) (r_cons (r_v rfl) r_nil)) e2) b_add) (by unfold intOk; exact decide_eq_true (by omega))
    rw [r_for hi e3, hz]
    refine congrArg (fun z => some (Out.nx σ1, z)) (tidyE_same (g := (G c k3 seed3 (rest ++ [.lst (nms us), .lst (famP F)]) (rest.length + 5)).g) hz ?_)
    show ((decide (2 < rest.length + 5)) && (true && (true && ((decide (rest.length + 3 < rest.length + 5)) && ((decide (rest.length + 1 + 3 < rest.length + 5)) && true))))) = true
    rw [decide_eq_true (by omega), decide_eq_true (by omega), decide_eq_true (by omega)]
    rfl
  refine r_runV (s := G c k seed rest lo) (g1 := (G c k3 seed3 rest lo).g) (g := [.lst (nms us), .lst (famP F)]) h21 rfl rfl (famP_blw _ _) ?_
  show evB (runD D (n + 3)) x__law_family.body _ (G c k seed rest z) = some (.rt (.tup (famP F)), G c k3 seed3 (rest ++ [.lst (nms us), .lst (famP F)]) z)
  unfold x__law_family
  refine r_nx st1 (r_nx st2 (r_rt (r_ret (r_blt (r_cons (r_v rfl) r_nil) ?_))))
  have sq : seqOf (G c k3 seed3 (rest ++ [.lst (nms us), .lst (famP F)]) z) (.ref (rest.length + 1 + 3)) = some (famP F) := by
    show lstAt _ _ = _
    unfold lstAt
    rw [show (G c k3 seed3 (rest ++ [.lst (nms us), .lst (famP F)]) z).g[rest.length + 1 + 3]? = some (.lst (famP F)) from two_get1]
  show (match seqOf _ (.ref (rest.length + 1 + 3)) with
    | some xs => some (PV.tup xs, _)
    | none => none) = _
  rw [sq]
end Ev

set_option linter.all false
set_option autoImplicit false
set_option maxRecDepth 100000
set_option maxHeartbeats 4000000
/-! Sy10: _law_names. -/
namespace Ev
open PySem
def x__law_names : Dfn := ⟨1, 4, (.cons (.asg (.nm 1) (.lst .nil)) (.cons (.for (.nm 2) (.seq (.v 0)) (.cons (.ex (.mth .extend (.v 1) (.cons (.lc (.v 3) (.nm 3) (.seq (.v 2)) (.some (.cmp .notin (.v 3) (.v 1)))) .nil))) .nil) [2, 3]) (.cons (.ret (.blt .sorted (.cons (.v 1) .nil))) .nil)))⟩
theorem nms_any (x : Sg) : ∀ xs : List Sg, (nms xs).any (fun e => eqv e (.str x)) = decide (x ∈ xs)
  | [] => rfl
  | y :: xs => by
    show (decide (y = x) || (nms xs).any _) = _
    rw [nms_any x xs]
    by_cases h : y = x
    · subst h
      simp
    · have : x ≠ y := fun e => h e.symm
      simp [h, this]
theorem nms_in {g : List GO} {x : Sg} {xs : List Sg} : inD g (.str x) (nms xs) = some (decide (x ∈ xs)) := by
  unfold inD
  have e : deep g (.str x) = some (.str x) := rfl
  have e2 : deeps g (nms xs) = some (nms xs) := nms_deeps _ xs
  rw [e, e2]
  simp only
  rw [if_pos (by show min 0 _ ≤ 60; omega), nms_any]
def newTo (found : List Sg) : PV → List PV
  | .str x => if x ∈ found then [] else [.str x]
  | _ => []
theorem newTo_flat (found : List Sg) : ∀ ys : List Sg, (nms ys).flatMap (newTo found) = nms (ys.filter fun x => decide (x ∉ found))
  | [] => rfl
  | y :: ys => by
    show newTo found (.str y) ++ (nms ys).flatMap (newTo found) = _
    rw [newTo_flat found ys]
    show (if y ∈ found then [] else [PV.str y]) ++ _ = _
    by_cases h : y ∈ found
    · rw [if_pos h, List.filter_cons_of_neg (by simp [h])]
      rfl
    · rw [if_neg h, List.filter_cons_of_pos (by simp [h])]
      rfl
theorem m_extend {s : S} {n m : Nat} {xs ys : List PV} (h : s.g[n]? = some (.lst xs)) (h2 : s.g[m]? = some (.lst ys)) (hl : xs.length + ys.length ≤ line) : mth .extend (.ref n) [.ref m] s = some (.non, s.wr n (.lst (xs ++ ys)) (rfs ys)) := by
  show mExtend (.ref n) [.ref m] s = _
  unfold mExtend
  simp only [h, h2]
  rw [if_pos hl]
theorem one_get {g : List GO} {a : GO} {j : List GO} : (g ++ a :: j)[g.length]? = some a := by
  rw [List.getElem?_append_right (Nat.le_refl _), Nat.sub_self]; rfl
theorem one_set {g : List GO} {a x : GO} {j : List GO} : (g ++ a :: j).set g.length x = g ++ x :: j := by
  rw [List.set_append_right _ _ (Nat.le_refl _), Nat.sub_self]; rfl
def nmBody : XB := (.cons (.ex (.mth .extend (.v 1) (.cons (.lc (.v 3) (.nm 3) (.seq (.v 2)) (.some (.cmp .notin (.v 3) (.v 1)))) .nil))) .nil)
theorem nm_turn (C : Nat → List PV → S → Option (PV × S)) {g : List GO} {ys found : List Sg} {w : Option PV} (h6 : ys.length ≤ 6) (hf : found.length ≤ 60) :
    evB C nmBody [w, some (.ref g.length), some (.tup (nms ys)), none] ⟨g ++ [.lst (nms found)], (g ++ [GO.lst (nms found)]).length⟩
      = some (.nx [w, some (.ref g.length), some (.tup (nms ys)), none], ⟨g ++ [.lst (nms (found ++ ys.filter fun x => decide (x ∉ found)))], (g ++ [GO.lst (nms found)]).length⟩) := by
  let new := ys.filter fun x => decide (x ∉ found)
  let A : S := ⟨g ++ [.lst (nms found)], (g ++ [GO.lst (nms found)]).length⟩
  have a0 : A.g[g.length]? = some (.lst (nms found)) := one_get
  have ln : new.length ≤ 6 := Nat.le_trans (List.length_filter_le ..) h6
  have q := lc_pure (s := A) (xs := nms ys) (turn := lcTurn (.nm 3) [w, some (.ref g.length), some (.tup (nms ys)), none] (fun σ s => evT C (.some (.cmp .notin (.v 3) (.v 1))) σ s) (fun σ s => evE C (.v 3) σ s)) (g := newTo found) (by rw [nms_len]; exact Nat.lt_of_le_of_lt h6 (by decide)) (by
    intro v hv
    obtain ⟨x, hx, rfl⟩ := nms_mem hv
    have cc : ∀ t : S, t.g = A.g → cop .notin (.str x) (.ref g.length) t = some (!decide (x ∈ found)) := fun t e => by
      have : cop .notin (.str x) (.ref g.length) t = (match t.g[g.length]? with
        | some (.lst ys) => (inD t.g (.str x) ys).map not
        | some (.fix ys) => (inD t.g (.str x) ys).map not
        | _ => none) := by
          unfold cop
          cases x with
          | nil => rfl
          | cons a l => cases l <;> rfl
      rw [this, e, a0]
      show (inD A.g (.str x) (nms found)).map not = _
      rw [nms_in]
      rfl
    show lcTurn _ _ _ _ _ _ = some ((if x ∈ found then [] else [PV.str x]), A)
    by_cases h : x ∈ found
    · rw [if_pos h]
      exact turn_lcF (σ2 := [w, some (.ref g.length), some (.tup (nms ys)), some (.str x)]) rfl (t_some (r_scp0 (r_cmp (r_v rfl) (r_v rfl) ((cc ⟨A.g, A.size⟩ rfl).trans (by rw [decide_eq_true h]; rfl))) rfl))
    · rw [if_neg h]
      exact turn_lc (σ2 := [w, some (.ref g.length), some (.tup (nms ys)), some (.str x)]) rfl (t_some (r_scp0 (r_cmp (r_v rfl) (r_v rfl) ((cc ⟨A.g, A.size⟩ rfl).trans (by rw [decide_eq_false h]; rfl))) rfl)) (r_scp0 (r_v rfl) rfl))
  rw [newTo_flat] at q
  have t0 : mthTy .extend (.ref g.length) A = true := by
    unfold mthTy
    simp only [a0]
  have e1 := r_lc (C := C) (σ := [w, some (.ref g.length), some (.tup (nms ys)), none]) (tg := .nm 3) (e := .v 3) (ifs := .some (.cmp .notin (.v 3) (.v 1))) (s := A) (it := .seq (.v 2)) (i_tup (r_v rfl)) q (by rw [nms_len]; exact Nat.le_trans ln (by decide))
  have e2 := m_extend (s := A.push (.lst (nms new))) (n := g.length) (m := A.size) (get_left a0) (getE (l := A.g)) (by rw [nms_len, nms_len]; exact Nat.le_trans (Nat.add_le_add hf ln) (by decide))
  have en : nms found ++ nms new = nms (found ++ new) := by
    unfold nms
    rw [List.map_append]
  have ew : (A.push (.lst (nms new))).wr g.length (.lst (nms found ++ nms new)) (rfs (nms new)) = ⟨(g ++ [.lst (nms (found ++ new))]) ++ [.lst (nms new)], A.size⟩ := by
    rw [nms_rf, en]
    show (⟨((g ++ [_]) ++ [_]).set g.length _, _⟩ : S) = _
    rw [List.append_assoc]
    show (⟨(g ++ _ :: [_]).set g.length _, _⟩ : S) = _
    rw [one_set, List.append_assoc]
    rfl
  rw [ew] at e2
  exact r_nx (r_ex (r_scpMG (s := A) (g1 := g ++ [.lst (nms (found ++ new))]) (j := [.lst (nms new)]) (r_mth (r_v rfl) t0 (r_cons e1 r_nil) e2) (by
    show (g ++ [_]).length = (g ++ [_]).length
    rw [List.length_append, List.length_append]
    rfl) rfl)) r_bnil
theorem names_run {D : List (Nat × Dfn)} (h22 : D.lookup 22 = some x__law_names) (n : Nat) {s : S} {F : List (List Sg)} (hf : F.length ≤ 6) (h6 : ∀ ys ∈ F, ys.length ≤ 6 ∧ ys.Nodup) :
    ∃ vs, runD D (n + 1) 22 [.tup (famP F)] s = some (.ref s.size, ⟨s.g ++ [.lst (nms vs)], s.lo⟩) ∧ NmsOf F vs := by
  let σ1 : Env := [some (.tup (famP F)), some (.ref s.size), none, none]
  let z := (s.g ++ [GO.lst (nms [])]).length
  have hz : ∀ o : GO, (s.g ++ [o]).length = z := fun o => by
    show _ = (s.g ++ [_]).length
    rw [List.length_append, List.length_append]
    rfl
  obtain ⟨σ', s', hl, rfl, found, rfl, nd, mem⟩ := for_go (get := fun s i => IT.get s (.vals (famP F)) i) (turn := forTurn (.nm 2) [2, 3] (fun σ s => evB (runD D n) nmBody σ s))
    (P := fun i σ t => σ = σ1 ∧ ∃ found, t = ⟨s.g ++ [.lst (nms found)], z⟩ ∧ found.Nodup ∧ ∀ x, x ∈ found ↔ x ∈ (F.take i).flatten) (n := F.length)
    (by
      rintro i σ t hi ⟨rfl, found, rfl, nd, mem⟩
      have hy := h6 F[i] (List.getElem_mem hi)
      have tk : F.take (i + 1) = F.take i ++ [F[i]] := by
        rw [List.take_add_one, List.getElem?_eq_getElem hi]
        rfl
      have fl : found.length ≤ 60 := by
        have a := nd.length_le_of_subset fun x hx => (mem x).mp hx
        have b := flat_len (b := 6) (F.take i) fun ys hy => (h6 ys (List.mem_of_mem_take hy)).1
        have : (F.take i).length ≤ 6 := by rw [List.length_take]; omega
        omega
      let new := F[i].filter fun x => decide (x ∉ found)
      refine ⟨.tup (nms F[i]), σ1, ⟨s.g ++ [.lst (nms (found ++ new))], z⟩, ?_, ?_, rfl, found ++ new, rfl, ?_, ?_⟩
      · show some (famP F)[i]? = _
        unfold famP
        rw [List.getElem?_map, List.getElem?_eq_getElem hi]
        rfl
      · have t := turn_nx (tg := .nm 2) (kills := [2, 3]) (v := .tup (nms F[i])) (σ := σ1) (s := ⟨s.g ++ [.lst (nms found)], z⟩) (σ2 := [some (.tup (famP F)), some (.ref s.size), some (.tup (nms F[i])), none]) (run := fun σ s => evB (runD D n) nmBody σ s) rfl (nm_turn (runD D n) (g := s.g) (w := some (.tup (famP F))) hy.1 fl)
        rw [t]
        refine congrArg (fun z => some (Out.nx σ1, z)) ?_
        show tidyE (s.g ++ [_]).length z σ1 ⟨_, (s.g ++ [_]).length⟩ = _
        rw [hz]
        refine tidyE_same (hz _) ?_
        show (PV.blw z (.tup (famP F)) && (decide (s.g.length < z) && true)) = true
        rw [show PV.blw z (.tup (famP F)) = true from famP_blw _ _, decide_eq_true (by show s.g.length < (s.g ++ [_]).length; simp)]
        rfl
      · refine List.nodup_append.mpr ⟨nd, hy.2.sublist List.filter_sublist, fun a ha b hb e => ?_⟩
        subst e
        have := (List.mem_filter.mp hb).2
        exact of_decide_eq_true this ha
      · intro x
        rw [tk, List.flatten_append, List.mem_append, List.mem_append, mem x]
        constructor
        · rintro (h | h)
          · exact .inl h
          · exact .inr (by simpa using (List.mem_filter.mp h).1)
        · rintro (h | h)
          · exact .inl h
          · by_cases q : x ∈ found
            · exact .inl ((mem x).mp q)
            · exact .inr (List.mem_filter.mpr ⟨by simpa using h, decide_eq_true q⟩))
    (by
      rintro σ t ⟨rfl, _⟩
      show some (famP F)[F.length]? = _
      rw [List.getElem?_eq_none (by unfold famP; rw [List.length_map]; exact Nat.le_refl _)])
    fuel 0 σ1 ⟨s.g ++ [.lst (nms [])], z⟩ (by show F.length - 0 < 1000000; omega) (Nat.zero_le _) ⟨rfl, [], rfl, List.nodup_nil, fun x => by simp⟩
  rw [List.take_length] at mem
  obtain ⟨us, eu, asc, pm⟩ := isort_nms nd
  refine ⟨us, ?_, asc, fun x => pm.mem_iff.trans (mem x)⟩
  have st2 : evS (runD D n) (.for (.nm 2) (.seq (.v 0)) nmBody [2, 3]) σ1 ⟨s.g ++ [.lst (nms [])], s.size⟩ = some (.nx σ1, ⟨s.g ++ [.lst (nms found)], s.size⟩) := by
    rw [r_for (i_tup (r_v rfl)) hl]
    refine congrArg (fun z => some (Out.nx σ1, z)) (tidyE_same (hz _) ?_)
    show (PV.blw z (.tup (famP F)) && (decide (s.g.length < z) && true)) = true
    rw [show PV.blw z (.tup (famP F)) = true from famP_blw _ _, decide_eq_true (by show s.g.length < (s.g ++ [_]).length; simp)]
    rfl
  refine r_runL (s := s) (g := [.lst (nms found), .lst (nms us)]) (m := s.size + 1) h22 rfl (Nat.le_succ _) (by
    show (s.g ++ [_, _])[s.g.length + 1]? = _
    rw [List.getElem?_append_right (by omega), Nat.add_sub_cancel_left]
    rfl) (nms_blw _ _) ?_
  have fin : (⟨s.g ++ [.lst (nms found), .lst (nms us)], s.size⟩ : S) = (⟨s.g ++ [.lst (nms found)], s.size⟩ : S).push (.lst (nms us)) := by
    show _ = (⟨(s.g ++ [_]) ++ [_], _⟩ : S)
    rw [List.append_assoc]
    rfl
  rw [fin]
  unfold x__law_names
  have st1 : evS (runD D n) (.asg (.nm 1) (.lst .nil)) [some (.tup (famP F)), none, none, none] ⟨s.g, s.size⟩ = some (.nx σ1, ⟨s.g ++ [.lst (nms [])], s.size⟩) :=
    r_asg (r_scpL (s := ⟨s.g, s.size⟩) (g := [.lst []]) (xs := []) (r_lst r_nil (by decide)) (Nat.le_refl _) getE rfl) rfl
  refine r_nx st1 (r_nx st2 (r_rt (r_ret ?_)))
  have sz : (⟨s.g ++ [.lst (nms found)], s.size⟩ : S).size = s.size + 1 := by
    show (s.g ++ [_]).length = _
    rw [List.length_append]
    rfl
  rw [← sz]
  refine r_blt (r_cons (r_v rfl) r_nil) (b_sorted (n := s.size) (s := ⟨s.g ++ [.lst (nms found)], s.size⟩) one_get (nms_sortable ?_) eu)
  have a := nd.length_le_of_subset fun x hx => (mem x).mp hx
  have b := flat_len (b := 6) F fun ys hy => (h6 ys hy).1
  have : (36 : Nat) ≤ line := by decide
  omega
end Ev

set_option linter.all false
set_option autoImplicit false
set_option maxRecDepth 100000
set_option maxHeartbeats 4000000
/-! Sy11: tests as Booleans; is_question, the program's and the law's, at any value. -/
namespace Ev
open PySem
section
variable {C : Nat → List PV → S → Option (PV × S)} {σ σ' : Env} {s s1 s2 s3 s4 : S} {a b c e o : XE} {es : XL} {x y z v w : PV}
theorem r_orB {p q : Bool} (h1 : evE C a σ s = some (.bl p, s1)) (h2 : p = false → evE C b σ s1 = some (.bl q, s1)) : evE C (.or a b) σ s = some (.bl (p || q), s1) := by
  rw [evE, h1]
  cases p with
  | true => rfl
  | false => exact h2 rfl
theorem r_andB {p q : Bool} (h1 : evE C a σ s = some (.bl p, s1)) (h2 : p = true → evE C b σ s1 = some (.bl q, s1)) : evE C (.and a b) σ s = some (.bl (p && q), s1) := by
  rw [evE, h1]
  cases p with
  | true => exact h2 rfl
  | false => rfl
theorem r_cmp2B {o1 o2 : Cop} {p q : Bool} (h1 : evE C a σ s = some (x, s1)) (h2 : evE C b σ s1 = some (y, s2)) (h3 : cop o1 x y s2 = some p) (h4 : evE C c σ s2 = some (z, s2)) (h5 : cop o2 y z s2 = some q) : evE C (.cmp2 o1 o2 a b c) σ s = some (.bl (p && q), s2) := by
  cases p with
  | true => exact r_cmp2t h1 h2 h3 h4 h5
  | false => exact r_cmp2f h1 h2 h3
end
theorem c_ne {i j : Int} {s : S} : cop .ne (.int i) (.int j) s = some (!decide (i = j)) := rfl
theorem c_eq {i j : Int} {s : S} : cop .eq (.int i) (.int j) s = some (decide (i = j)) := rfl
theorem c_le {i j : Int} {s : S} : cop .le (.int i) (.int j) s = some (decide (i ≤ j)) := rfl
theorem c_lt {i j : Int} {s : S} : cop .lt (.int i) (.int j) s = some (decide (i < j)) := rfl
theorem c_gt {i j : Int} {s : S} : cop .gt (.int i) (.int j) s = some (decide (j < i)) := rfl
/-! ### kinds -/
def isT : PV → Bool
  | .tup _ => true
  | _ => false
def isB : PV → Bool
  | .bl _ => true
  | _ => false
def isI : PV → Bool
  | .bl _ => true
  | .int _ => true
  | _ => false
def isS : PV → Bool
  | .str _ => true
  | _ => false
theorem kind_of {s : S} {v d : PV} (h : deep s.g v = some d) : ∃ k, kind s v = some k ∧ [4].contains k = isT v ∧ [1].contains k = isB v ∧ [1, 2].contains k = isI v ∧ [3].contains k = isS v := by
  cases v with
  | non => exact ⟨0, rfl, rfl, rfl, rfl, rfl⟩
  | bl _ => exact ⟨1, rfl, rfl, rfl, rfl, rfl⟩
  | int _ => exact ⟨2, rfl, rfl, rfl, rfl, rfl⟩
  | str _ => exact ⟨3, rfl, rfl, rfl, rfl, rfl⟩
  | tup _ => exact ⟨4, rfl, rfl, rfl, rfl, rfl⟩
  | ref n =>
    refine ⟨5, ?_, rfl, rfl, rfl, rfl⟩
    have h' : lookN s.g 8 n = some d := h
    unfold lookN at h'
    unfold kind
    cases q : s.g[n]? with
    | none => rw [q] at h'; cases h'
    | some o =>
      rw [q] at h'
      cases o with
      | lst _ => simp only [q]
      | fix _ => simp only [q]
      | dct _ _ => cases h'
      | ins _ _ => cases h'
  | lv _ => cases h
theorem b_isT {s : S} {v d : PV} (h : deep s.g v = some d) : blt .isTuple [v] s = some (.bl (isT v), s) := by
  obtain ⟨k, e, h1, _⟩ := kind_of h
  show bIs [4] [v] s = _
  unfold bIs
  simp only [e, h1]
theorem b_isB {s : S} {v d : PV} (h : deep s.g v = some d) : blt .isBool [v] s = some (.bl (isB v), s) := by
  obtain ⟨k, e, _, h1, _⟩ := kind_of h
  show bIs [1] [v] s = _
  unfold bIs
  simp only [e, h1]
theorem b_isI {s : S} {v d : PV} (h : deep s.g v = some d) : blt .isInt [v] s = some (.bl (isI v), s) := by
  obtain ⟨k, e, _, _, h1, _⟩ := kind_of h
  show bIs [1, 2] [v] s = _
  unfold bIs
  simp only [e, h1]
theorem b_isS {s : S} {v d : PV} (h : deep s.g v = some d) : blt .isStr [v] s = some (.bl (isS v), s) := by
  obtain ⟨k, e, _, _, _, h1⟩ := kind_of h
  show bIs [3] [v] s = _
  unfold bIs
  simp only [e, h1]
theorem deeps_mem {look : Nat → Option PV} : ∀ {xs ds : List PV}, deepsW look xs = some ds → ∀ x ∈ xs, ∃ d, deepW look x = some d
  | y :: xs, ds, h, x, hx => by
    rw [deepsW] at h
    cases q : deepW look y with
    | none => rw [q] at h; cases h
    | some d =>
      rw [q] at h
      cases q2 : deepsW look xs with
      | none => rw [q2] at h; cases h
      | some es =>
        rcases List.mem_cons.mp hx with rfl | hx
        · exact ⟨d, q⟩
        · exact deeps_mem q2 x hx
theorem deep_tup {look : Nat → Option PV} {xs : List PV} {d : PV} (h : deepW look (.tup xs) = some d) : ∃ ds, deepsW look xs = some ds ∧ d = .tup ds := by
  rw [deepW] at h
  cases q : deepsW look xs with
  | none => rw [q] at h; cases h
  | some ds => rw [q] at h; cases h; exact ⟨ds, rfl, rfl⟩
theorem isT_ex {v : PV} (h : isT v = true) : ∃ xs, v = .tup xs := by
  cases v <;> first | exact ⟨_, rfl⟩ | cases h
/-! ### lists of Booleans -/
theorem boolsOf_map {α : Type} (p : α → Bool) : ∀ xs : List α, boolsOf (xs.map fun v => PV.bl (p v)) = some (xs.map p)
  | [] => rfl
  | x :: xs => by
    show (boolsOf (xs.map _)).map _ = _
    rw [boolsOf_map p xs]
    rfl
theorem b_allB {α : Type} {p : α → Bool} {xs : List α} {s : S} {m : Nat} (h : s.g[m]? = some (.lst (xs.map fun v => PV.bl (p v)))) : blt .all [.ref m] s = some (.bl (xs.all p), s) := by
  show bAll false [.ref m] s = _
  unfold bAll lstAt
  simp only [h]
  rw [boolsOf_map]
  show some (PV.bl ((xs.map p).all id), s) = _
  rw [List.all_map]
  rfl
theorem flat_one {α β : Type} (f : α → β) : ∀ l : List α, l.flatMap (fun x => [f x]) = l.map f
  | [] => rfl
  | x :: l => congrArg (f x :: ·) (flat_one f l)
section
variable {C : Nat → List PV → S → Option (PV × S)} {σ σ' : Env} {s s1 : S} {e it : XE}
/-- a comprehension over a tuple, one item a turn, nothing changed -/
theorem r_lcP {tg : TgE} {xs : List PV} {f : PV → PV} (hi : evE C it σ s = some (.tup xs, s)) (hx : xs.length ≤ 900000) (ht : ∀ v ∈ xs, ∃ σ2, asn tg v (wipeE σ tg.slots) = some σ2 ∧ scp (evE C e σ2) s = some (f v, s)) :
    evE C (.lc e tg (.seq it) .none) σ s = some (.ref s.size, s.push (.lst (xs.map f))) := by
  have q := lc_pure (s := s) (xs := xs) (turn := lcTurn tg (wipeE σ tg.slots) (fun σ s => evT C .none σ s) (fun σ s => evE C e σ s)) (g := fun v => [f v]) (by show _ < 1000000; omega) (by
    intro v hv
    obtain ⟨σ2, h1, h2⟩ := ht v hv
    exact turn_lc h1 t_none h2)
  rw [flat_one] at q
  exact r_lc (i_tup hi) q (by rw [List.length_map]; show _ ≤ 16777216; omega)
theorem r_allP {tg : TgE} {xs : List PV} {p : PV → Bool} (hi : evE C it σ s = some (.tup xs, s)) (hx : xs.length ≤ 900000) (ht : ∀ v ∈ xs, ∃ σ2, asn tg v (wipeE σ tg.slots) = some σ2 ∧ scp (evE C e σ2) s = some (.bl (p v), s)) :
    evE C (.blt .all (.cons (.lc e tg (.seq it) .none) .nil)) σ s = some (.bl (xs.all p), s.push (.lst (xs.map fun v => .bl (p v)))) :=
  r_blt (r_cons (r_lcP hi hx ht) r_nil) (b_allB getE)
end
/-- a body's end: a Boolean -/
def RB (s : S) (x : Option (Out × S)) (b : Bool) : Prop := ∃ j, x = some (.rt (.bl b), ⟨s.g ++ j, s.lo⟩)
theorem g_guard {C : Nat → List PV → S → Option (PV × S)} {σ : Env} {s : S} {e : XE} {B : XB} {t b : Bool} {g : List GO} (h : evE C e σ ⟨s.g, s.size⟩ = some (.bl t, ⟨s.g ++ g, s.size⟩)) (h1 : t = true → b = false) (h2 : t = false → RB s (evB C B σ s) b) :
    RB s (evB C (.cons (.iff e (.cons (.ret (.c (.bl false))) .nil) .nil) B) σ s) b := by
  have q := r_scp h rfl
  cases t with
  | true =>
    rw [h1 rfl]
    exact ⟨[], by rw [List.append_nil]; exact r_rt (r_one' q)⟩
  | false =>
    obtain ⟨j, h3⟩ := h2 rfl
    exact ⟨j, r_nx (r_iff q r_bnil) h3⟩
where
  r_one' {C : Nat → List PV → S → Option (PV × S)} {σ : Env} {s : S} {e : XE} (q : scp (evE C e σ) s = some (.bl true, s)) : evS C (.iff e (.cons (.ret (.c (.bl false))) .nil) .nil) σ s = some (.rt (.bl false), ⟨s.g, s.lo⟩) :=
    r_ift q (r_rt (r_ret r_c))
theorem r_runB {D : List (Nat × Dfn)} {k f : Nat} {d : Dfn} {vs : List PV} {s : S} {b : Bool} (hd : D.lookup f = some d) (hl : vs.length = d.np)
    (h : RB ⟨s.g, s.size⟩ (evB (runD D k) d.body (vs.map some ++ List.replicate (d.nl - d.np) none) ⟨s.g, s.size⟩) b) : runD D (k + 1) f vs s = some (.bl b, s) := by
  obtain ⟨j, h⟩ := h
  exact r_runV (g1 := s.g) hd hl rfl rfl h
/-! ### the shape of a question -/
def stOk (m : Nat) : PV → Bool
  | .int i => decide (0 ≤ i) && decide (i < m)
  | _ => false
def rowOk (n m : Nat) : PV → Bool
  | .tup xs => decide (xs.length = n) && xs.all (stOk m)
  | _ => false
def isQ (n : Nat) : PV → Bool
  | .tup [.tup as, .tup rows] => (decide (1 ≤ as.length) && decide (as.length ≤ 60)) && (as.all isB && (decide (rows.length = as.length) && rows.all (rowOk n as.length)))
  | _ => false
/-! ### the size of a value -/
mutual
def sz : PV → Nat
  | .tup xs => szs xs + 1
  | .lv xs => szs xs + 1
  | _ => 1
def szs : List PV → Nat
  | [] => 0
  | x :: xs => sz x + szs xs
end
theorem sz_pos : ∀ v : PV, 1 ≤ sz v
  | .tup xs => by rw [sz]; omega
  | .lv xs => by rw [sz]; omega
  | .non => Nat.le_refl _
  | .bl _ => Nat.le_refl _
  | .int _ => Nat.le_refl _
  | .str _ => Nat.le_refl _
  | .ref _ => Nat.le_refl _
theorem szs_len : ∀ xs : List PV, xs.length ≤ szs xs
  | [] => Nat.le_refl _
  | x :: xs => by
    rw [szs]
    have := szs_len xs
    have := sz_pos x
    show xs.length + 1 ≤ _
    omega
theorem szs_mem : ∀ {xs : List PV} {x : PV}, x ∈ xs → sz x ≤ szs xs
  | y :: xs, x, h => by
    rw [szs]
    rcases List.mem_cons.mp h with rfl | h
    · omega
    · have := szs_mem h
      omega
theorem deeps_len {look : Nat → Option PV} : ∀ {xs ds : List PV}, deepsW look xs = some ds → ds.length = xs.length
  | [], ds, h => by
    rw [deepsW] at h
    cases h
    rfl
  | y :: xs, ds, h => by
    rw [deepsW] at h
    cases q : deepW look y with
    | none => rw [q] at h; cases h
    | some d =>
      rw [q] at h
      cases q2 : deepsW look xs with
      | none => rw [q2] at h; cases h
      | some es =>
        rw [q2] at h
        cases h
        exact congrArg (· + 1) (deeps_len q2)
/-- each item's data -/
theorem deeps_mem2 {look : Nat → Option PV} : ∀ {xs ds : List PV}, deepsW look xs = some ds → ∀ x ∈ xs, ∃ d, deepW look x = some d ∧ d ∈ ds
  | y :: xs, ds, h, x, hx => by
    rw [deepsW] at h
    cases q : deepW look y with
    | none => rw [q] at h; cases h
    | some d =>
      rw [q] at h
      cases q2 : deepsW look xs with
      | none => rw [q2] at h; cases h
      | some es =>
        rw [q2] at h
        cases h
        rcases List.mem_cons.mp hx with rfl | hx
        · exact ⟨d, q, List.mem_cons_self ..⟩
        · obtain ⟨d2, h1, h2⟩ := deeps_mem2 q2 x hx
          exact ⟨d2, h1, List.mem_cons_of_mem _ h2⟩
mutual
theorem deep_blw {look : Nat → Option PV} {n : Nat} (hl : ∀ m d, look m = some d → m < n) : ∀ (v : PV) {d : PV}, deepW look v = some d → v.blw n = true
  | .non, _, _ => rfl
  | .bl _, _, _ => rfl
  | .int _, _, _ => rfl
  | .str _, _, _ => rfl
  | .ref m, d, h => decide_eq_true (hl m d h)
  | .lv _, _, h => by cases h
  | .tup xs, d, h => by
    obtain ⟨ds, hd, _⟩ := deep_tup h
    exact deeps_blw hl xs hd
theorem deeps_blw {look : Nat → Option PV} {n : Nat} (hl : ∀ m d, look m = some d → m < n) : ∀ (xs : List PV) {ds : List PV}, deepsW look xs = some ds → PV.blws n xs = true
  | [], _, _ => rfl
  | x :: xs, ds, h => by
    rw [deepsW] at h
    cases q : deepW look x with
    | none => rw [q] at h; cases h
    | some d =>
      rw [q] at h
      cases q2 : deepsW look xs with
      | none => rw [q2] at h; cases h
      | some es =>
        show (x.blw n && PV.blws n xs) = true
        rw [deep_blw hl x q, deeps_blw hl xs q2]
        rfl
end
theorem look_lt {g : List GO} {f m : Nat} {d : PV} (h : lookN g f m = some d) : m < g.length := by
  cases f with
  | zero => cases h
  | succ f =>
    unfold lookN at h
    cases q : g[m]? with
    | none => rw [q] at h; cases h
    | some o => exact (List.getElem?_eq_some_iff.mp q).1
theorem dp_blw {g : List GO} {v d : PV} (h : deep g v = some d) : v.blw g.length = true := deep_blw (fun _ _ h => look_lt h) v h
theorem g_guard0 {C : Nat → List PV → S → Option (PV × S)} {σ : Env} {s : S} {e : XE} {B : XB} {t b : Bool} (h : evE C e σ ⟨s.g, s.size⟩ = some (.bl t, ⟨s.g, s.size⟩)) (h1 : t = true → b = false) (h2 : t = false → RB s (evB C B σ s) b) :
    RB s (evB C (.cons (.iff e (.cons (.ret (.c (.bl false))) .nil) .nil) B) σ s) b := g_guard (g := []) (by rw [List.append_nil]; exact h) h1 h2
theorem g_asg {C : Nat → List PV → S → Option (PV × S)} {σ σ' : Env} {s : S} {tg : TgE} {e : XE} {B : XB} {v : PV} {b : Bool} (h : scp (evE C e σ) s = some (v, s)) (ha : asn tg v σ = some σ') (h2 : RB s (evB C B σ' s) b) : RB s (evB C (.cons (.asg tg e) B) σ s) b := by
  obtain ⟨j, h2⟩ := h2
  exact ⟨j, r_nx (r_asg h ha) h2⟩
theorem isQ_ne2 {n : Nat} {xs : List PV} (h : xs.length ≠ 2) : isQ n (.tup xs) = false := by
  unfold isQ
  split
  · next e => cases e; exact absurd rfl h
  · rfl
theorem isQ_noT {n : Nat} {v : PV} (h : isT v = false) : isQ n v = false := by
  cases v <;> first | rfl | cases h
theorem isQ_a {n : Nat} {a r : PV} (h : isT a = false) : isQ n (.tup [a, r]) = false := by
  cases a <;> first | rfl | cases h
theorem isQ_r {n : Nat} {a r : PV} (h : isT r = false) : isQ n (.tup [a, r]) = false := by
  cases r <;> first | (cases a <;> rfl) | cases h
theorem two_of {xs : List PV} (h : xs.length = 2) : ∃ a r, xs = [a, r] := by
  match xs, h with
  | [a, r], _ => exact ⟨a, r, rfl⟩
end Ev

set_option linter.all false
set_option autoImplicit false
set_option maxRecDepth 100000
set_option maxHeartbeats 4000000
/-! Sy12: is_question, the program's, at any value. -/
namespace Ev
open PySem
def x_is_integer : Dfn := ⟨1, 1, (.cons (.ret (.and (.blt .isInt (.cons (.v 0) .nil)) (.not (.blt .isBool (.cons (.v 0) .nil))))) .nil)⟩
def x_is_between : Dfn := ⟨3, 3, (.cons (.ret (.and (.call 0 (.cons (.v 0) .nil)) (.cmp2 .le .le (.v 1) (.v 0) (.v 2)))) .nil)⟩
def x_is_question_of : Dfn := ⟨2, 8, (.cons (.iff (.or (.not (.blt .isTuple (.cons (.v 1) .nil))) (.cmp .ne (.blt .len (.cons (.v 1) .nil)) (.c (.int 2)))) (.cons (.ret (.c (.bl false))) .nil) .nil) (.cons (.asg (.tp [(.nm 3), (.nm 4)]) (.v 1)) (.cons (.iff (.or (.not (.blt .isTuple (.cons (.v 3) .nil))) (.or (.not (.cmp2 .le .le (.c (.int 1)) (.blt .len (.cons (.v 3) .nil)) (.c (.int 60)))) (.not (.blt .isTuple (.cons (.v 4) .nil))))) (.cons (.ret (.c (.bl false))) .nil) .nil) (.cons (.iff (.or (.not (.blt .all (.cons (.lc (.blt .isBool (.cons (.v 7) .nil)) (.nm 7) (.seq (.v 3)) .none) .nil))) (.cmp .ne (.blt .len (.cons (.v 4) .nil)) (.blt .len (.cons (.v 3) .nil)))) (.cons (.ret (.c (.bl false))) .nil) .nil) (.cons (.asg (.nm 2) (.blt .len (.cons (.call 4 (.cons (.v 0) .nil)) .nil))) (.cons (.iff (.not (.blt .all (.cons (.lc (.and (.blt .isTuple (.cons (.v 5) .nil)) (.cmp .eq (.blt .len (.cons (.v 5) .nil)) (.v 2))) (.nm 5) (.seq (.v 4)) .none) .nil))) (.cons (.ret (.c (.bl false))) .nil) .nil) (.cons (.ret (.blt .all (.cons (.lc2 (.call 1 (.cons (.v 6) (.cons (.c (.int 0)) (.cons (.bin .sub (.blt .len (.cons (.v 3) .nil)) (.c (.int 1))) .nil)))) (.nm 5) (.seq (.v 4)) (.nm 6) (.seq (.v 5))) .nil))) .nil)))))))⟩
def x_is_question : Dfn := ⟨2, 2, (.cons (.ex (.call 6 (.cons (.v 0) .nil))) (.cons (.ret (.call 7 (.cons (.v 0) (.cons (.v 1) .nil)))) .nil))⟩
structure HasQ (D : List (Nat × Dfn)) : Prop where
  d0 : D.lookup 0 = some x_is_integer
  d1 : D.lookup 1 = some x_is_between
  d4 : D.lookup 4 = some x_names_of
  d7 : D.lookup 7 = some x_is_question_of
def isN : PV → Bool
  | .int _ => true
  | _ => false
def btw (lo hi : Int) : PV → Bool
  | .int i => decide (lo ≤ i) && decide (i ≤ hi)
  | _ => false
theorem isN_eq (v : PV) : (isI v && !isB v) = isN v := by cases v <;> rfl
theorem is_integer_run {D : List (Nat × Dfn)} (hD : HasQ D) (n : Nat) {s : S} {v d : PV} (h : deep s.g v = some d) : runD D (n + 1) 0 [v] s = some (.bl (isN v), s) := by
  refine r_runB hD.d0 rfl ⟨[], ?_⟩
  rw [← isN_eq v, List.append_nil]
  exact r_rt (r_ret (r_andB (r_blt (r_cons (r_v rfl) r_nil) (b_isI h)) fun _ => r_not (r_blt (r_cons (r_v rfl) r_nil) (b_isB h))))
theorem is_between_run {D : List (Nat × Dfn)} (hD : HasQ D) (n : Nat) {s : S} {v d : PV} {lo hi : Int} (h : deep s.g v = some d) : runD D (n + 2) 1 [v, .int lo, .int hi] s = some (.bl (btw lo hi v), s) := by
  refine r_runB hD.d1 rfl ⟨[], ?_⟩
  rw [List.append_nil]
  have e := is_integer_run hD n (s := ⟨s.g, s.size⟩) h
  cases v with
  | int i => exact r_rt (r_ret (r_andt (r_call (r_cons (r_v rfl) r_nil) e) (r_cmp2B (r_v rfl) (r_v rfl) c_le (r_v rfl) c_le)))
  | _ => exact r_rt (r_ret (r_andf (r_call (r_cons (r_v rfl) r_nil) e)))
theorem btw_st (m : Nat) (v : PV) : btw 0 ((m : Int) - 1) v = stOk m v := by
  cases v with
  | int i =>
    show (decide _ && decide _) = (decide _ && decide _)
    congr 1
    exact decide_eq_decide.mpr (by omega)
  | _ => rfl
def sizeOkT (n : Nat) : PV → Bool
  | .tup xs => decide (xs.length = n)
  | _ => false
theorem all_rows (n m : Nat) (rows : List PV) : (rows.all (sizeOkT n) && rows.all (fun r => (unP r).all (stOk m))) = rows.all (rowOk n m) := by
  induction rows with
  | nil => rfl
  | cons r rows ih =>
    rw [List.all_cons, List.all_cons, List.all_cons, ← ih]
    cases r with
    | tup xs =>
      show (decide _ && _ && (xs.all _ && _)) = (decide _ && xs.all _ && (_ && _))
      cases decide (xs.length = n) <;> cases xs.all (stOk m) <;> cases rows.all (sizeOkT n) <;> rfl
    | _ => rfl
theorem flat_le {b : Nat} (f : PV → List PV) : ∀ rows : List PV, (∀ w ∈ rows, (f w).length ≤ b) → (rows.flatMap f).length ≤ b * rows.length
  | [], _ => by simp
  | w :: rows, h => by
    have h1 := flat_le f rows fun x hx => h x (List.mem_cons_of_mem _ hx)
    have h2 := h w (List.mem_cons_self ..)
    rw [List.flatMap_cons, List.length_append, List.length_cons, Nat.mul_succ]
    omega
theorem is_question_of_run {D : List (Nat × Dfn)} (hD : HasQ D) (n : Nat) {s : S} {F : List (List Sg)} {us : List Sg} {v d : PV} (hF : Fam F us) (h : deep s.g v = some d) (hz : sz d ≤ 900000) : runD D (n + 3) 7 [.tup (famP F), v] s = some (.bl (isQ us.length v), s) := by
  refine r_runB hD.d7 rfl ?_
  have h0 : deep (⟨s.g, s.size⟩ : S).g v = some d := h
  show RB ⟨s.g, s.size⟩ (evB (runD D (n + 2)) x_is_question_of.body [some (.tup (famP F)), some v, none, none, none, none, none, none] ⟨s.g, s.size⟩) _
  unfold x_is_question_of
  by_cases hT : isT v = true
  · obtain ⟨xs, rfl⟩ := isT_ex hT
    obtain ⟨ds, hds, rfl⟩ := deep_tup h
    refine g_guard0 (r_orB (r_not (r_blt (r_cons (r_v rfl) r_nil) (b_isT h0))) fun _ => r_cmp (r_blt (r_cons (r_v rfl) r_nil) b_lenT) r_c c_ne) (fun t => isQ_ne2 ?_) fun t => ?_
    · intro e
      rw [e] at t
      cases t
    · have e2 : xs.length = 2 := by
        have : (!decide ((xs.length : Int) = 2)) = false := t
        have := of_decide_eq_true (by simpa using this : decide ((xs.length : Int) = 2) = true)
        omega
      obtain ⟨a, r, rfl⟩ := two_of e2
      obtain ⟨da, ha, ma⟩ := deeps_mem2 hds a (by simp)
      obtain ⟨dr, hr, mr⟩ := deeps_mem2 hds r (by simp)
      have za := szs_mem ma
      have zr := szs_mem mr
      have zt : sz (.tup ds) = szs ds + 1 := by rw [sz]
      refine g_asg (r_scp0 (r_v rfl) (dp_blw h)) rfl ?_
      by_cases hA : isT a = true
      · obtain ⟨as, rfl⟩ := isT_ex hA
        obtain ⟨das, hda, rfl⟩ := deep_tup ha
        have la : as.length ≤ 900000 := by
          have := szs_len das
          rw [deeps_len hda] at this
          rw [sz] at za
          omega
        refine g_guard0 (r_orB (r_not (r_blt (r_cons (r_v rfl) r_nil) (b_isT ha))) fun _ => r_orB (r_not (r_cmp2B r_c (r_blt (r_cons (r_v rfl) r_nil) b_lenT) c_le r_c c_le)) fun _ => r_not (r_blt (r_cons (r_v rfl) r_nil) (b_isT hr))) (fun t => ?_) fun t => ?_
        · by_cases hR : isT r = true
          · obtain ⟨rows, rfl⟩ := isT_ex hR
            have : ¬ (1 ≤ as.length ∧ as.length ≤ 60) := fun ⟨q1, q2⟩ => by
              rw [decide_eq_true (show (1 : Int) ≤ (as.length : Int) by omega), decide_eq_true (show (as.length : Int) ≤ 60 by omega)] at t
              cases t
            show ((decide _ && decide _) && _) = false
            by_cases q1 : 1 ≤ as.length
            · rw [decide_eq_false (fun q2 => this ⟨q1, q2⟩), Bool.and_false, Bool.false_and]
            · rw [decide_eq_false q1, Bool.false_and, Bool.false_and]
          · exact isQ_r (by simpa using hR)
        · have hR : isT r = true := by
            revert t
            cases isT r
            · intro t
              rw [show (!false) = true from rfl, Bool.or_true, Bool.or_true] at t
              cases t
            · intro _; rfl
          obtain ⟨rows, rfl⟩ := isT_ex hR
          obtain ⟨drs, hdr, rfl⟩ := deep_tup hr
          have lr : rows.length ≤ 900000 := by
            have := szs_len drs
            rw [deeps_len hdr] at this
            rw [sz] at zr
            omega
          have l1 : 1 ≤ as.length ∧ as.length ≤ 60 := by
            by_cases q1 : (1 : Int) ≤ (as.length : Int)
            · by_cases q2 : (as.length : Int) ≤ 60
              · omega
              · rw [decide_eq_false q2, Bool.and_false] at t
                cases t
            · rw [decide_eq_false q1, Bool.false_and] at t
              cases t
          have eQ : isQ us.length (.tup [.tup as, .tup rows]) = (as.all isB && (decide (rows.length = as.length) && rows.all (rowOk us.length as.length))) := by
            show ((decide _ && decide _) && _) = _
            rw [decide_eq_true l1.1, decide_eq_true l1.2]
            rfl
          rw [eQ]
          refine g_guard (r_orB (r_not (r_allP (r_v rfl) la fun w hw => ⟨_, rfl, r_scp0 (r_blt (r_cons (r_v rfl) r_nil) (b_isB (s := ⟨_, _⟩) (deeps_mem2 hda w hw).choose_spec.1)) rfl⟩)) fun _ => r_cmp (r_blt (r_cons (r_v rfl) r_nil) b_lenT) (r_blt (r_cons (r_v rfl) r_nil) b_lenT) c_ne) (fun t => ?_) fun t => ?_
          · cases qa : as.all isB with
            | false => rfl
            | true =>
              rw [qa] at t
              have : ¬ rows.length = as.length := fun e => by
                rw [e] at t
                simp at t
              rw [decide_eq_false this]
              rfl
          · have qa : as.all isB = true := by
              cases qa : as.all isB with
              | false => rw [qa] at t; cases t
              | true => rfl
            have ql : rows.length = as.length := by
              rw [qa] at t
              have : (!decide ((rows.length : Int) = (as.length : Int))) = false := t
              have := of_decide_eq_true (by simpa using this : decide ((rows.length : Int) = (as.length : Int)) = true)
              omega
            rw [qa, decide_eq_true ql, ← all_rows]
            show RB _ _ (_ && _)
            refine g_asg (v := .int us.length) (r_scp (s := ⟨s.g, s.size⟩) (g := [.lst (nms us)]) (r_blt (r_cons (r_call (r_cons (r_v rfl) r_nil) (Fam.run hD.d4 (n + 1) hF)) r_nil) ?_) rfl) rfl ?_
            · have := b_len (s := ⟨s.g ++ [.lst (nms us)], s.size⟩) (c := s.size) (xs := nms us) getE
              rw [nms_len] at this
              exact this
            refine g_guard (r_not (r_allP (p := sizeOkT us.length) (r_v rfl) lr fun w hw => ⟨_, rfl, r_scp0 ?_ rfl⟩)) (fun t => ?_) fun t => ?_
            · obtain ⟨dw, hw, _⟩ := deeps_mem2 hdr w hw
              cases w with
              | tup ys =>
                have e : sizeOkT us.length (.tup ys) = (true && decide ((ys.length : Int) = (us.length : Int))) := by
                  show decide _ = decide _
                  exact decide_eq_decide.mpr (by omega)
                rw [e]
                exact r_andB (r_blt (r_cons (r_v rfl) r_nil) (b_isT (s := ⟨_, _⟩) hw)) fun _ => r_cmp (r_blt (r_cons (r_v rfl) r_nil) b_lenT) (r_v rfl) c_eq
              | _ => exact r_andf (r_blt (r_cons (r_v rfl) r_nil) (b_isT (s := ⟨_, _⟩) hw))
            · have : rows.all (sizeOkT us.length) = false := by simpa using t
              rw [this]
              rfl
            · have tt : rows.all (sizeOkT us.length) = true := by simpa using t
              rw [tt]
              have hy : ∀ w ∈ rows, ∃ ys dys, w = .tup ys ∧ ys.length ≤ 8 ∧ deepsW (lookN s.g 8) ys = some dys := fun w hw => by
                have q := List.all_eq_true.mp tt w hw
                obtain ⟨dw, h2, _⟩ := deeps_mem2 hdr w hw
                cases w with
                | tup ys =>
                  obtain ⟨dys, h3, _⟩ := deep_tup h2
                  have : ys.length = us.length := of_decide_eq_true q
                  exact ⟨ys, dys, rfl, by have := hF.u8; omega, h3⟩
                | _ => cases q
              let σ1 : Env := [some (.tup (famP F)), some (.tup [.tup as, .tup rows]), some (.int us.length), some (.tup as), some (.tup rows), none, none, none]
              let s0 : S := ⟨s.g, s.size⟩
              have q := lc_pure (s := s0) (xs := rows) (turn := lcTurn2 (.nm 5) (.nm 6) (wipeE (wipeE σ1 [6]) [5]) (fun σ s => evI (runD D (n + 2)) (.seq (.v 5)) σ s) (fun σ s => evE (runD D (n + 2)) (.call 1 (.cons (.v 6) (.cons (.c (.int 0)) (.cons (.bin .sub (.blt .len (.cons (.v 3) .nil)) (.c (.int 1))) .nil)))) σ s)) (g := fun r => (unP r).map fun x => .bl (stOk as.length x)) (by show _ < 1000000; omega) (by
                intro w hw
                obtain ⟨ys, dys, rfl, l8, hdy⟩ := hy w hw
                refine turn_lc2 rfl (i_tup (r_v rfl)) ?_
                have q := lc_pure (s := s0) (xs := ys) (turn := lcTurn (.nm 6) (wipeE (σ1.set 5 (some (.tup ys))) [6]) yes (fun σ s => evE (runD D (n + 2)) (.call 1 (.cons (.v 6) (.cons (.c (.int 0)) (.cons (.bin .sub (.blt .len (.cons (.v 3) .nil)) (.c (.int 1))) .nil)))) σ s)) (g := fun x => [.bl (stOk as.length x)]) (by show _ < 1000000; omega) (by
                  intro x hx
                  obtain ⟨dx, hdx, _⟩ := deeps_mem2 hdy x hx
                  have e := is_between_run hD n (s := s0) (lo := 0) (hi := (as.length : Int) - 1) hdx
                  rw [btw_st] at e
                  exact turn_lc rfl rfl (r_scp0 (r_call (r_cons (r_v rfl) (r_cons r_c (r_cons (r_bin (r_blt (r_cons (r_v rfl) r_nil) b_lenT) r_c b_sub) r_nil))) e) rfl))
                rw [flat_one] at q
                exact q)
              have ef : (rows.flatMap fun r => (unP r).map fun x => PV.bl (stOk as.length x)) = (rows.flatMap unP).map fun x => PV.bl (stOk as.length x) := by rw [List.map_flatMap]
              have ll : (rows.flatMap unP).length ≤ 8 * rows.length := flat_le unP rows fun w hw => by
                obtain ⟨ys, _, rfl, l8, _⟩ := hy w hw
                exact l8
              rw [ef] at q
              refine ⟨[.lst ((rows.flatMap unP).map fun x => PV.bl (stOk as.length x))], ?_⟩
              have e : (true && rows.all fun r => (unP r).all (stOk as.length)) = (rows.flatMap unP).all (stOk as.length) := by rw [List.all_flatMap]; rfl
              rw [e]
              exact r_rt (r_ret (r_blt (r_cons (r_lc2 (i_tup (r_v rfl)) q (by rw [List.length_map]; show _ ≤ 16777216; omega)) r_nil) (b_allB getE)))
      · have hA : isT a = false := by simpa using hA
        refine g_guard0 (t := true) (r_ort (by have := r_not (C := runD D (n + 2)) (r_blt (σ := [some (.tup (famP F)), some (.tup [a, r]), none, some a, some r, none, none, none]) (r_cons (r_v (i := 3) rfl) r_nil) (b_isT (s := ⟨s.g, s.size⟩) ha)); rw [hA] at this; exact this)) (fun _ => isQ_a hA) fun t => by cases t
  · have hT : isT v = false := by simpa using hT
    refine g_guard0 (t := true) (r_ort (by have := r_not (C := runD D (n + 2)) (r_blt (σ := [some (.tup (famP F)), some v, none, none, none, none, none, none]) (r_cons (r_v (i := 1) rfl) r_nil) (b_isT h0)); rw [hT] at this; exact this)) (fun _ => isQ_noT hT) fun t => by cases t
end Ev

set_option linter.all false
set_option autoImplicit false
set_option maxRecDepth 100000
set_option maxHeartbeats 4000000
/-! Sy13: is_question, the law's, at any value; loops that give up. -/
namespace Ev
open PySem
section
variable {C : Nat → List PV → S → Option (PV × S)}
def alt (p : Bool) (σ : Env) (s : S) : Out × S := if p then (.nx σ, s) else (.rt (.bl false), s)
theorem forL_allB {turn : PV → Env → S → Option (Out × S)} {σ : Env} {s : S} {xs : List PV} {p : PV → Bool} (ht : ∀ v ∈ xs, turn v σ s = some (alt (p v) σ s)) : ∀ f i, xs.length - i < f → i ≤ xs.length →
    forL (fun s i => IT.get s (.vals xs) i) turn f i σ s = some (alt ((xs.drop i).all p) σ s)
  | 0, _, h, _ => absurd h (Nat.not_lt_zero _)
  | f + 1, i, h, hi => by
    unfold forL
    show (match some xs[i]? with
      | none => none
      | some none => some (Out.nx σ, s)
      | some (some v) => _) = _
    by_cases e : i < xs.length
    · rw [List.getElem?_eq_getElem e]
      simp only
      rw [ht _ (List.getElem_mem e), List.drop_eq_getElem_cons e, List.all_cons]
      cases q : p xs[i] with
      | false => rfl
      | true =>
        show forL _ _ f (i + 1) σ s = _
        rw [forL_allB ht f (i + 1) (by omega) (by omega)]
        rfl
    · rw [List.getElem?_eq_none (by omega), List.drop_eq_nil_of_le (by omega)]
      rfl
theorem r_forB {tg : TgE} {it : XE} {B : XB} {kills : List Nat} {σ : Env} {g : List GO} {xs : List PV} {p : PV → Bool} (hi : evE C it σ ⟨g, g.length⟩ = some (.tup xs, ⟨g, g.length⟩)) (hx : xs.length ≤ 900000) (hb : envBlw g.length σ = true)
    (ht : ∀ v ∈ xs, forTurn tg kills (fun σ s => evB C B σ s) v σ ⟨g, g.length⟩ = some (alt (p v) σ ⟨g, g.length⟩)) : evS C (.for tg (.seq it) B kills) σ ⟨g, g.length⟩ = some (alt (xs.all p) σ ⟨g, g.length⟩) := by
  rw [evS, i_tup (s := ⟨g, g.length⟩) hi]
  simp only
  rw [forL_allB (s := ⟨g, g.length⟩) ht fuel 0 (by show _ < 1000000; omega) (Nat.zero_le _), List.drop_zero]
  cases xs.all p with
  | true =>
    show some (Out.nx σ, tidyE g.length g.length σ ⟨g, g.length⟩) = _
    rw [tidyE_same rfl hb]
    rfl
  | false =>
    show some (Out.rt _, (⟨g, min g.length g.length⟩ : S)) = _
    rw [Nat.min_self]
    rfl
theorem turn_B {tg : TgE} {B : XB} {kills : List Nat} {σ σ2 : Env} {g : List GO} {v : PV} {p : Bool} (ha : asn tg v σ = some σ2) (hw : wipeE σ2 kills = σ) (hb : envBlw g.length σ = true)
    (h : evB C B σ2 ⟨g, g.length⟩ = some (alt p σ2 ⟨g, g.length⟩)) : forTurn tg kills (fun σ s => evB C B σ s) v σ ⟨g, g.length⟩ = some (alt p σ ⟨g, g.length⟩) := by
  unfold forTurn
  rw [ha]
  simp only
  rw [h]
  cases p with
  | true =>
    show some (Out.nx (wipeE σ2 kills), tidyE g.length g.length (wipeE σ2 kills) ⟨g, g.length⟩) = _
    rw [hw, tidyE_same rfl hb]
    rfl
  | false =>
    show some (Out.rt _, (⟨g, min g.length g.length⟩ : S)) = _
    rw [Nat.min_self]
    rfl
/-- a test that gives up, then the rest -/
theorem a_guard {σ : Env} {s : S} {e : XE} {B : XB} {t q p : Bool} (h : evE C e σ ⟨s.g, s.size⟩ = some (.bl t, ⟨s.g, s.size⟩)) (h2 : t = false → evB C B σ s = some (alt q σ s)) (hp : p = (!t && q)) :
    evB C (.cons (.iff e (.cons (.ret (.c (.bl false))) .nil) .nil) B) σ s = some (alt p σ s) := by
  have z := r_scp0 h rfl
  subst hp
  cases t with
  | true => exact r_rt (r_ift z (r_rt (r_ret r_c)))
  | false => exact r_nx (r_iff z r_bnil) (h2 rfl)
end
theorem b_alt {C : Nat → List PV → S → Option (PV × S)} {σ : Env} {s : S} {st : XS} {p : Bool} (h : evS C st σ s = some (alt p σ s)) : evB C (.cons st .nil) σ s = some (alt p σ s) := by
  cases p with
  | true => exact r_nx h r_bnil
  | false => exact r_rt h
theorem bools_deeps {α : Type} (look : Nat → Option PV) (p : α → Bool) : ∀ xs : List α, deepsW look (xs.map fun v => PV.bl (p v)) = some (xs.map fun v => PV.bl (p v))
  | [] => rfl
  | x :: xs => by
    show (match deepW look (.bl (p x)) with
      | none => none
      | some d => match deepsW look (xs.map fun v => PV.bl (p v)) with
        | none => none
        | some ds => some (d :: ds)) = _
    rw [bools_deeps look p xs]
    rfl
theorem c_inB {α : Type} {p : α → Bool} {xs : List α} {s : S} {m : Nat} (h : s.g[m]? = some (.lst (xs.map fun v => PV.bl (p v)))) : cop .isin (.bl false) (.ref m) s = some (!xs.all p) := by
  show (match s.g[m]? with
    | some (.lst ys) => inD s.g (.bl false) ys
    | some (.fix ys) => inD s.g (.bl false) ys
    | _ => none) = _
  rw [h]
  show inD s.g (.bl false) _ = _
  unfold inD
  have e1 : deep s.g (.bl false) = some (.bl false) := rfl
  have e2 : deeps s.g (xs.map fun v => PV.bl (p v)) = some (xs.map fun v => PV.bl (p v)) := bools_deeps _ p xs
  rw [e1, e2]
  simp only
  rw [if_pos (by show min 0 _ ≤ 60; omega)]
  refine congrArg some ?_
  rw [List.any_map]
  clear h e2
  induction xs with
  | nil => rfl
  | cons x xs ih =>
    rw [List.any_cons, List.all_cons, ih]
    show ((p x == false) || _) = _
    cases p x <;> rfl
def x__law_is_question : Dfn := ⟨2, 7, (.cons (.iff (.or (.not (.blt .isTuple (.cons (.v 1) .nil))) (.cmp .ne (.blt .len (.cons (.v 1) .nil)) (.c (.int 2)))) (.cons (.ret (.c (.bl false))) .nil) .nil) (.cons (.asg (.tp [(.nm 3), (.nm 4)]) (.v 1)) (.cons (.iff (.or (.not (.blt .isTuple (.cons (.v 3) .nil))) (.or (.not (.cmp2 .le .le (.c (.int 1)) (.blt .len (.cons (.v 3) .nil)) (.c (.int 60)))) (.not (.blt .isTuple (.cons (.v 4) .nil))))) (.cons (.ret (.c (.bl false))) .nil) .nil) (.cons (.iff (.or (.cmp .ne (.blt .len (.cons (.v 4) .nil)) (.blt .len (.cons (.v 3) .nil))) (.cmp .isin (.c (.bl false)) (.lc (.blt .isBool (.cons (.v 6) .nil)) (.nm 6) (.seq (.v 3)) .none))) (.cons (.ret (.c (.bl false))) .nil) .nil) (.cons (.for (.nm 2) (.seq (.v 4)) (.cons (.iff (.or (.not (.blt .isTuple (.cons (.v 2) .nil))) (.cmp .ne (.blt .len (.cons (.v 2) .nil)) (.blt .len (.cons (.v 0) .nil)))) (.cons (.ret (.c (.bl false))) .nil) .nil) (.cons (.for (.nm 5) (.seq (.v 2)) (.cons (.iff (.or (.blt .isBool (.cons (.v 5) .nil)) (.or (.not (.blt .isInt (.cons (.v 5) .nil))) (.not (.cmp2 .le .lt (.c (.int 0)) (.v 5) (.blt .len (.cons (.v 3) .nil)))))) (.cons (.ret (.c (.bl false))) .nil) .nil) .nil) [5]) .nil)) [2, 5]) (.cons (.ret (.c (.bl true))) .nil))))))⟩
def stTest : XE := (.or (.blt .isBool (.cons (.v 5) .nil)) (.or (.not (.blt .isInt (.cons (.v 5) .nil))) (.not (.cmp2 .le .lt (.c (.int 0)) (.v 5) (.blt .len (.cons (.v 3) .nil))))))
theorem stTest_run {C : Nat → List PV → S → Option (PV × S)} {σ : Env} {s : S} {x d : PV} {as : List PV} (h5 : σ[5]? = some (some x)) (h3 : σ[3]? = some (some (.tup as))) (h : deep s.g x = some d) : evE C stTest σ s = some (.bl (!stOk as.length x), s) := by
  have k1 : evE C (.blt .isBool (.cons (.v 5) .nil)) σ s = some (.bl (isB x), s) := r_blt (r_cons (r_v h5) r_nil) (b_isB h)
  have k2 : evE C (.not (.blt .isInt (.cons (.v 5) .nil))) σ s = some (.bl (!isI x), s) := r_not (r_blt (r_cons (r_v h5) r_nil) (b_isI h))
  cases x with
  | bl b => exact r_ort k1
  | int i =>
    have e : (!stOk as.length (.int i)) = (false || (false || !(decide ((0 : Int) ≤ i) && decide (i < (as.length : Int))))) := rfl
    rw [e]
    exact r_orB k1 fun _ => r_orB k2 fun _ => r_not (r_cmp2B r_c (r_v h5) c_le (r_blt (r_cons (r_v h3) r_nil) b_lenT) c_lt)
  | _ => exact r_orf k1 (r_ort k2)
theorem law_is_question_run {D : List (Nat × Dfn)} (h28 : D.lookup 28 = some x__law_is_question) (n : Nat) {s : S} {us : List Sg} {m : Nat} {v d : PV} (hm : s.g[m]? = some (.lst (nms us))) (hu : us.length ≤ 8) (h : deep s.g v = some d) (hz : sz d ≤ 900000) : runD D (n + 1) 28 [.ref m, v] s = some (.bl (isQ us.length v), s) := by
  refine r_runB h28 rfl ?_
  have h0 : deep (⟨s.g, s.size⟩ : S).g v = some d := h
  have hmz : m < s.g.length := (List.getElem?_eq_some_iff.mp hm).1
  show RB ⟨s.g, s.size⟩ (evB (runD D n) x__law_is_question.body [some (.ref m), some v, none, none, none, none, none] ⟨s.g, s.size⟩) _
  unfold x__law_is_question
  by_cases hT : isT v = true
  · obtain ⟨xs, rfl⟩ := isT_ex hT
    obtain ⟨ds, hds, rfl⟩ := deep_tup h
    refine g_guard0 (r_orB (r_not (r_blt (r_cons (r_v rfl) r_nil) (b_isT h0))) fun _ => r_cmp (r_blt (r_cons (r_v rfl) r_nil) b_lenT) r_c c_ne) (fun t => isQ_ne2 ?_) fun t => ?_
    · intro e
      rw [e] at t
      cases t
    · have e2 : xs.length = 2 := by
        have : (!decide ((xs.length : Int) = 2)) = false := t
        have := of_decide_eq_true (by simpa using this : decide ((xs.length : Int) = 2) = true)
        omega
      obtain ⟨a, r, rfl⟩ := two_of e2
      obtain ⟨da, ha, ma⟩ := deeps_mem2 hds a (by simp)
      obtain ⟨dr, hr, mr⟩ := deeps_mem2 hds r (by simp)
      have za := szs_mem ma
      have zr := szs_mem mr
      have zt : sz (.tup ds) = szs ds + 1 := by rw [sz]
      refine g_asg (r_scp0 (r_v rfl) (dp_blw h)) rfl ?_
      by_cases hA : isT a = true
      · obtain ⟨as, rfl⟩ := isT_ex hA
        obtain ⟨das, hda, rfl⟩ := deep_tup ha
        have la : as.length ≤ 900000 := by
          have := szs_len das
          rw [deeps_len hda] at this
          rw [sz] at za
          omega
        refine g_guard0 (r_orB (r_not (r_blt (r_cons (r_v rfl) r_nil) (b_isT ha))) fun _ => r_orB (r_not (r_cmp2B r_c (r_blt (r_cons (r_v rfl) r_nil) b_lenT) c_le r_c c_le)) fun _ => r_not (r_blt (r_cons (r_v rfl) r_nil) (b_isT hr))) (fun t => ?_) fun t => ?_
        · by_cases hR : isT r = true
          · obtain ⟨rows, rfl⟩ := isT_ex hR
            have : ¬ (1 ≤ as.length ∧ as.length ≤ 60) := fun ⟨q1, q2⟩ => by
              rw [decide_eq_true (show (1 : Int) ≤ (as.length : Int) by omega), decide_eq_true (show (as.length : Int) ≤ 60 by omega)] at t
              cases t
            show ((decide _ && decide _) && _) = false
            by_cases q1 : 1 ≤ as.length
            · rw [decide_eq_false (fun q2 => this ⟨q1, q2⟩), Bool.and_false, Bool.false_and]
            · rw [decide_eq_false q1, Bool.false_and, Bool.false_and]
          · exact isQ_r (by simpa using hR)
        · have hR : isT r = true := by
            revert t
            cases isT r
            · intro t
              rw [show (!false) = true from rfl, Bool.or_true, Bool.or_true] at t
              cases t
            · intro _; rfl
          obtain ⟨rows, rfl⟩ := isT_ex hR
          obtain ⟨drs, hdr, rfl⟩ := deep_tup hr
          have lr : rows.length ≤ 900000 := by
            have := szs_len drs
            rw [deeps_len hdr] at this
            rw [sz] at zr
            omega
          have l1 : 1 ≤ as.length ∧ as.length ≤ 60 := by
            by_cases q1 : (1 : Int) ≤ (as.length : Int)
            · by_cases q2 : (as.length : Int) ≤ 60
              · omega
              · rw [decide_eq_false q2, Bool.and_false] at t
                cases t
            · rw [decide_eq_false q1, Bool.false_and] at t
              cases t
          have eQ : isQ us.length (.tup [.tup as, .tup rows]) = (as.all isB && (decide (rows.length = as.length) && rows.all (rowOk us.length as.length))) := by
            show ((decide _ && decide _) && _) = _
            rw [decide_eq_true l1.1, decide_eq_true l1.2]
            rfl
          rw [eQ]
          have zr' : sz (.tup drs) = szs drs + 1 := by rw [sz]
          let σ1 : Env := [some (.ref m), some (.tup [.tup as, .tup rows]), none, some (.tup as), some (.tup rows), none, none]
          have hb1 : envBlw s.g.length σ1 = true := by
            show (decide (m < s.g.length) && (PV.blw s.g.length (.tup [.tup as, .tup rows]) && (PV.blw s.g.length (.tup as) && (PV.blw s.g.length (.tup rows) && true)))) = true
            rw [decide_eq_true hmz, dp_blw h, dp_blw ha, dp_blw hr]
            rfl
          by_cases ql : rows.length = as.length
          · refine g_guard (t := !as.all isB) (r_orf (r_cmp (r_blt (r_cons (r_v rfl) r_nil) b_lenT) (r_blt (r_cons (r_v rfl) r_nil) b_lenT) (c_ne.trans (by rw [decide_eq_true (show (rows.length : Int) = (as.length : Int) by omega)]; rfl))) (r_cmp r_c (r_lcP (f := fun w => .bl (isB w)) (r_v rfl) la fun w hw => ⟨_, rfl, r_scp0 (r_blt (r_cons (r_v rfl) r_nil) (b_isB (s := ⟨s.g, s.g.length⟩) (deeps_mem2 hda w hw).choose_spec.1)) rfl⟩) (c_inB (p := isB) getE))) (fun t => ?_) fun t => ?_
            · have : as.all isB = false := by
                revert t
                cases as.all isB <;> intro t
                · rfl
                · cases t
              rw [this]
              rfl
            · have qa : as.all isB = true := by
                revert t
                cases as.all isB <;> intro t
                · cases t
                · rfl
              rw [qa, decide_eq_true ql]
              show RB _ _ (rows.all (rowOk us.length as.length))
              have e := r_forB (C := runD D n) (tg := .nm 2) (kills := [2, 5]) (σ := σ1) (g := s.g) (it := .v 4) (p := rowOk us.length as.length) (B := (.cons (.iff (.or (.not (.blt .isTuple (.cons (.v 2) .nil))) (.cmp .ne (.blt .len (.cons (.v 2) .nil)) (.blt .len (.cons (.v 0) .nil)))) (.cons (.ret (.c (.bl false))) .nil) .nil) (.cons (.for (.nm 5) (.seq (.v 2)) (.cons (.iff stTest (.cons (.ret (.c (.bl false))) .nil) .nil) .nil) [5]) .nil))) (r_v rfl) lr hb1 (by
                intro w hw
                obtain ⟨dw, hdw, mw⟩ := deeps_mem2 hdr w hw
                have zw := szs_mem mw
                have hb2 : envBlw s.g.length (σ1.set 2 (some w)) = true := by
                  show (decide (m < s.g.length) && (PV.blw s.g.length (.tup [.tup as, .tup rows]) && (PV.blw s.g.length w && (PV.blw s.g.length (.tup as) && (PV.blw s.g.length (.tup rows) && true))))) = true
                  rw [decide_eq_true hmz, dp_blw h, dp_blw ha, dp_blw hr, dp_blw hdw]
                  rfl
                refine turn_B (σ2 := σ1.set 2 (some w)) rfl rfl hb1 ?_
                by_cases hW : isT w = true
                · obtain ⟨ys, rfl⟩ := isT_ex hW
                  obtain ⟨dys, hdy, rfl⟩ := deep_tup hdw
                  have ly : ys.length ≤ 900000 := by
                    have := szs_len dys
                    rw [deeps_len hdy] at this
                    rw [sz] at zw
                    omega
                  have ln : blt .len [.ref m] (⟨s.g, s.g.length⟩ : S) = some (.int us.length, ⟨s.g, s.g.length⟩) := by
                    have := b_len (s := ⟨s.g, s.g.length⟩) hm
                    rw [nms_len] at this
                    exact this
                  refine a_guard (t := !decide ((ys.length : Int) = (us.length : Int))) (q := ys.all (stOk as.length)) (r_orf (r_not (r_blt (r_cons (r_v rfl) r_nil) (b_isT (s := ⟨s.g, s.g.length⟩) hdw))) (r_cmp (r_blt (r_cons (r_v rfl) r_nil) b_lenT) (r_blt (r_cons (r_v rfl) r_nil) ln) c_ne)) (fun _ => b_alt (r_forB (r_v rfl) ly hb2 fun x hx => ?_)) ?_
                  · exact turn_B (σ2 := (σ1.set 2 (some (.tup ys))).set 5 (some x)) rfl rfl hb2 (a_guard (t := !stOk as.length x) (q := true) (stTest_run rfl rfl (deeps_mem2 hdy x hx).choose_spec.1) (fun _ => r_bnil) (by cases stOk as.length x <;> rfl))
                  · rw [Bool.not_not]
                    show (decide _ && _) = (decide _ && _)
                    congr 1
                    exact decide_eq_decide.mpr (by omega)
                · have hW : isT w = false := by simpa using hW
                  have k := r_not (C := runD D n) (r_blt (σ := σ1.set 2 (some w)) (r_cons (r_v (i := 2) rfl) r_nil) (b_isT (s := ⟨s.g, s.g.length⟩) hdw))
                  rw [hW] at k
                  refine a_guard (t := true) (q := true) (r_ort k) (fun t => by cases t) ?_
                  cases w <;> first | rfl | cases hW)
              revert e
              cases rows.all (rowOk us.length as.length) with
              | true => intro e; exact ⟨[], by rw [List.append_nil]; exact r_nx e (r_rt (r_ret r_c))⟩
              | false => intro e; exact ⟨[], by rw [List.append_nil]; exact r_rt e⟩
          · refine g_guard0 (t := true) (r_ort (r_cmp (r_blt (r_cons (r_v rfl) r_nil) b_lenT) (r_blt (r_cons (r_v rfl) r_nil) b_lenT) (c_ne.trans (by rw [decide_eq_false (show ¬ (rows.length : Int) = (as.length : Int) by omega)]; rfl)))) (fun _ => ?_) fun t => by cases t
            rw [decide_eq_false ql]
            cases as.all isB <;> rfl
      · have hA : isT a = false := by simpa using hA
        refine g_guard0 (t := true) (r_ort (by have := r_not (C := runD D n) (r_blt (σ := [some (.ref m), some (.tup [a, r]), none, some a, some r, none, none]) (r_cons (r_v (i := 3) rfl) r_nil) (b_isT (s := ⟨s.g, s.size⟩) ha)); rw [hA] at this; exact this)) (fun _ => isQ_a hA) fun t => by cases t
  · have hT : isT v = false := by simpa using hT
    refine g_guard0 (t := true) (r_ort (by have := r_not (C := runD D n) (r_blt (σ := [some (.ref m), some v, none, none, none, none, none]) (r_cons (r_v (i := 1) rfl) r_nil) (b_isT h0)); rw [hT] at this; exact this)) (fun _ => isQ_noT hT) fun t => by cases t
end Ev

set_option linter.all false
set_option autoImplicit false
set_option maxRecDepth 100000
set_option maxHeartbeats 4000000
/-! Sy14: comprehensions that draw; _law_log. -/
namespace Ev
open PySem
section
variable {C : Nat → List PV → S → Option (PV × S)} {c : Ct} {R : List GO} {lo : Nat}
theorem get_lref {xs : List PV} {q : Nat} (hq : R[q]? = some (.lst xs)) (k seed : Int) (i : Nat) : IT.get (G c k seed R lo) (.lref (q + 3)) i = some xs[i]? := by
  unfold IT.get lstAt
  rw [show (G c k seed R lo).g[q + 3]? = some (.lst xs) from hq]
  rfl
theorem lc_pen {it : IT} {xs : List PV} {turn : PV → S → Option (List PV × S)} {P : PV → Prop} {b w B : Nat} {k seed : Int} (hg : ∀ k seed i, it.get (G c k seed R lo) i = some xs[i]?) (hx : xs.length ≤ 900000)
    (ht : ∀ v ∈ xs, ∀ b k seed, Ok b k seed → b < B → ∃ x k' seed', turn v (G c k seed R lo) = some ([x], G c k' seed' R lo) ∧ P x ∧ Ok (b + w) k' seed')
    (h : Ok b k seed) (hb : b + xs.length * w < B) :
    ∃ acc k' seed', lcL (fun s i => it.get s i) turn fuel 0 [] (G c k seed R lo) = some (acc, G c k' seed' R lo) ∧ acc.length = xs.length ∧ (∀ x ∈ acc, P x) ∧ Ok (b + xs.length * w) k' seed' := by
  obtain ⟨acc, s', hl, k', seed', rfl, hlen, hP, ok⟩ := lc_go (get := fun s i => it.get s i) (turn := turn) (n := xs.length)
    (P := fun i acc s => ∃ k' seed', s = G c k' seed' R lo ∧ acc.length = i ∧ (∀ x ∈ acc, P x) ∧ Ok (b + i * w) k' seed')
    (by
      rintro i acc s hi ⟨k', seed', rfl, hlen, hP, ok⟩
      have hm : i * w + w ≤ xs.length * w := by
        have := Nat.mul_le_mul_right w (show i + 1 ≤ xs.length by omega)
        rw [Nat.add_mul, Nat.one_mul] at this
        exact this
      obtain ⟨x, k2, seed2, e, px, ok2⟩ := ht xs[i] (List.getElem_mem hi) (b + i * w) k' seed' ok (by omega)
      refine ⟨xs[i], [x], G c k2 seed2 R lo, ?_, e, k2, seed2, rfl, ?_, ?_, ?_⟩
      · show it.get _ i = _
        rw [hg, List.getElem?_eq_getElem hi]
      · rw [List.length_append, hlen]; rfl
      · intro y hy
        rcases List.mem_append.mp hy with hy | hy
        · exact hP y hy
        · rw [List.mem_singleton.mp hy]; exact px
      · rw [Nat.add_mul, Nat.one_mul, ← Nat.add_assoc]
        exact ok2)
    (by
      rintro acc s ⟨k', seed', rfl, _⟩
      show it.get _ _ = _
      rw [hg, List.getElem?_eq_none (Nat.le_refl _)])
    fuel 0 [] (G c k seed R lo) (by show _ < 1000000; omega) (Nat.zero_le _) ⟨k, seed, rfl, rfl, (fun x hx => by cases hx), by rw [Nat.zero_mul, Nat.add_zero]; exact h⟩
  exact ⟨acc, k', seed', hl, hlen, hP, ok⟩
/-- [e for tg in it]: one item a turn, the pen alone changes -/
theorem r_lcPenB {tg : TgE} {e : XE} {itx : XI} {it : IT} {σ : Env} {xs : List PV} {P : PV → Prop} {b w B : Nat} {k seed k1 seed1 : Int} (hi : evI C itx σ (G c k seed R lo) = some (it, G c k1 seed1 R lo)) (hg : ∀ k seed i, it.get (G c k seed R lo) i = some xs[i]?) (hx : xs.length ≤ 900000)
    (ht : ∀ v ∈ xs, ∃ σ2, asn tg v (wipeE σ tg.slots) = some σ2 ∧ ∀ b k seed, Ok b k seed → b < B → ∃ x k' seed', scp (evE C e σ2) (G c k seed R lo) = some (x, G c k' seed' R lo) ∧ P x ∧ Ok (b + w) k' seed')
    (h : Ok b k1 seed1) (hb : b + xs.length * w < B) :
    ∃ acc k' seed', evE C (.lc e tg itx .none) σ (G c k seed R lo) = some (.ref (R.length + 3), G c k' seed' (R ++ [.lst acc]) lo) ∧ acc.length = xs.length ∧ (∀ x ∈ acc, P x) ∧ Ok (b + xs.length * w) k' seed' := by
  obtain ⟨acc, k', seed', hl, hlen, hP, ok⟩ := lc_pen (it := it) (turn := lcTurn tg (wipeE σ tg.slots) (fun σ s => evT C .none σ s) (fun σ s => evE C e σ s)) (P := P) (w := w) hg hx (by
    intro v hv b k seed hok hb
    obtain ⟨σ2, ha, hh⟩ := ht v hv
    obtain ⟨x, k', seed', e, px, ok⟩ := hh b k seed hok hb
    exact ⟨x, k', seed', turn_lc ha t_none e, px, ok⟩) h hb
  exact ⟨acc, k', seed', r_lc hi hl (by rw [hlen]; show _ ≤ 16777216; omega), hlen, hP, ok⟩
theorem r_lcPen {tg : TgE} {e : XE} {itx : XI} {it : IT} {σ : Env} {xs : List PV} {P : PV → Prop} {b w : Nat} {k seed k1 seed1 : Int} (hi : evI C itx σ (G c k seed R lo) = some (it, G c k1 seed1 R lo)) (hg : ∀ k seed i, it.get (G c k seed R lo) i = some xs[i]?) (hx : xs.length ≤ 900000)
    (ht : ∀ v ∈ xs, ∃ σ2, asn tg v (wipeE σ tg.slots) = some σ2 ∧ ∀ b k seed, Ok b k seed → b < 3000000000 → ∃ x k' seed', scp (evE C e σ2) (G c k seed R lo) = some (x, G c k' seed' R lo) ∧ P x ∧ Ok (b + w) k' seed')
    (h : Ok b k1 seed1) (hb : b + xs.length * w < 3000000000) :
    ∃ acc k' seed', evE C (.lc e tg itx .none) σ (G c k seed R lo) = some (.ref (R.length + 3), G c k' seed' (R ++ [.lst acc]) lo) ∧ acc.length = xs.length ∧ (∀ x ∈ acc, P x) ∧ Ok (b + xs.length * w) k' seed' :=
  r_lcPenB hi hg hx ht h hb
theorem G_size' {k seed : Int} : (G c k seed R lo).size = R.length + 3 := rfl
/-- what was made in an item goes -/
theorem scp_G {f : S → Option (PV × S)} {k seed k' seed' : Int} {j : List GO} {v : PV} (h : f (G c k seed R (R.length + 3)) = some (v, G c k' seed' (R ++ j) (R.length + 3))) (hv : v.blw (R.length + 3) = true) : scp f (G c k seed R lo) = some (v, G c k' seed' R lo) :=
  r_scpMG (s := G c k seed R lo) (g1 := (G c k' seed' R lo).g) (j := j) h rfl hv
theorem scp_G0 {f : S → Option (PV × S)} {k seed k' seed' : Int} {v : PV} (h : f (G c k seed R (R.length + 3)) = some (v, G c k' seed' R (R.length + 3))) (hv : v.blw (R.length + 3) = true) : scp f (G c k seed R lo) = some (v, G c k' seed' R lo) :=
  scp_G (j := []) (by rw [List.append_nil]; exact h) hv
/-- a new list stays -/
theorem scp_GL {f : S → Option (PV × S)} {k seed k' seed' : Int} {j : List GO} {xs : List PV} {m : Nat} (h : f (G c k seed R (R.length + 3)) = some (.ref (m + 3), G c k' seed' (R ++ j) (R.length + 3))) (hm : R.length ≤ m) (hg : (R ++ j)[m]? = some (.lst xs)) (hx : PV.blws (R.length + 3) xs = true) :
    scp f (G c k seed R lo) = some (.ref (R.length + 3), G c k' seed' (R ++ [.lst xs]) lo) :=
  r_scpLM (s := G c k seed R lo) (g1 := (G c k' seed' R lo).g) (g := j) h rfl (by show R.length + 3 ≤ m + 3; omega) hg hx
/-- a def's run: a value with nothing new in it -/
theorem run_G {D : List (Nat × Dfn)} {n f : Nat} {d : Dfn} {vs : List PV} {k seed k' seed' : Int} {j : List GO} {v : PV} (hd : D.lookup f = some d) (hl : vs.length = d.np) (hv : v.blw (R.length + 3) = true)
    (h : evB (runD D n) d.body (vs.map some ++ List.replicate (d.nl - d.np) none) (G c k seed R (R.length + 3)) = some (.rt v, G c k' seed' (R ++ j) (R.length + 3))) : runD D (n + 1) f vs (G c k seed R lo) = some (v, G c k' seed' R lo) :=
  r_runV (s := G c k seed R lo) (g1 := (G c k' seed' R lo).g) (g := j) hd hl rfl hv h
end
theorem range_len (j : Nat) : (rangeV 0 (j : Int)).length = j := by
  unfold rangeV
  rw [List.length_map, List.length_range]
  omega
theorem range_mem {j : Nat} {v : PV} (h : v ∈ rangeV 0 (j : Int)) : ∃ i : Nat, v = .int i ∧ i < j := by
  unfold rangeV at h
  obtain ⟨i, hi, rfl⟩ := List.mem_map.mp h
  exact ⟨i, by rw [Int.zero_add], by have := List.mem_range.mp hi; omega⟩
theorem range_at {j i : Nat} (h : i < j) : (rangeV 0 (j : Int))[i]? = some (.int i) := by
  unfold rangeV
  rw [List.getElem?_map, List.getElem?_range (by omega)]
  show some (PV.int (0 + (i : Int))) = _
  rw [Int.zero_add]
theorem blws_of {m : Nat} : ∀ {xs : List PV}, (∀ x ∈ xs, x.blw m = true) → PV.blws m xs = true
  | [], _ => rfl
  | x :: xs, h => by
    show (x.blw m && PV.blws m xs) = true
    rw [h x (List.mem_cons_self ..), blws_of fun y hy => h y (List.mem_cons_of_mem _ hy)]
    rfl
/-- the items are texts -/
theorem nms_of {us : List Sg} : ∀ {acc : List PV}, (∀ x ∈ acc, ∃ y ∈ us, x = .str y) → ∃ xs : List Sg, acc = nms xs ∧ ∀ y ∈ xs, y ∈ us
  | [], _ => ⟨[], rfl, fun y hy => by cases hy⟩
  | x :: acc, h => by
    obtain ⟨xs, rfl, hx⟩ := nms_of fun y hy => h y (List.mem_cons_of_mem _ hy)
    obtain ⟨y, hy, rfl⟩ := h _ (List.mem_cons_self ..)
    exact ⟨y :: xs, rfl, fun z hz => by
      rcases List.mem_cons.mp hz with rfl | hz
      · exact hy
      · exact hx z hz⟩
theorem b_tupL {s : S} {n : Nat} {xs : List PV} (h : s.g[n]? = some (.lst xs)) : blt .tuple [.ref n] s = some (.tup xs, s) := by
  show bTuple [.ref n] s = _
  unfold bTuple seqOf lstAt
  simp only [h]
theorem b_tupG {c : Ct} {k seed : Int} {R : List GO} {lo q : Nat} {xs : List PV} (h : R[q]? = some (.lst xs)) : blt .tuple [.ref (q + 3)] (G c k seed R lo) = some (.tup xs, G c k seed R lo) := b_tupL (s := G c k seed R lo) (n := q + 3) h
def x__law_log : Dfn := ⟨3, 4, (.cons (.ret (.blt .tuple (.cons (.lc (.call 19 (.cons (.v 0) (.cons (.v 1) .nil))) (.nm 3) (.rng (.call 18 (.cons (.v 0) (.cons (.bin .add (.v 2) (.c (.int 1))) .nil)))) .none) .nil))) .nil)⟩
theorem log_run {D : List (Nat × Dfn)} (hD : HasP D) (h24 : D.lookup 24 = some x__law_log) (n : Nat) {c : Ct} {b : Nat} {k seed : Int} {R : List GO} {lo m most : Nat} {us : List Sg} (h : Ok b k seed) (hb : b < 900000000) (hm : R[m]? = some (.lst (nms us))) (hu : us ≠ []) (hu8 : us.length ≤ 8) (h8 : most ≤ 100) :
    ∃ xs k' seed', runD D (n + 4) 24 [.ref 2, .ref (m + 3), .int most] (G c k seed R lo) = some (.tup (nms xs), G c k' seed' R lo) ∧ xs.length ≤ most ∧ (∀ y ∈ xs, y ∈ us) ∧ Ok (b + 101) k' seed' := by
  obtain ⟨r, k1, seed1, e1, r0, r1, ok1⟩ := take_G (c := c) (rest := R) (lo := R.length + 3) hD (n + 1) (many := (most : Int) + 1) h (by omega) (by omega) (by omega)
  obtain ⟨j, rfl⟩ : ∃ j : Nat, r = j := ⟨r.toNat, by omega⟩
  obtain ⟨acc, k2, seed2, e2, hlen, hP, ok2⟩ := r_lcPen (C := runD D (n + 3)) (c := c) (R := R) (lo := R.length + 3) (tg := .nm 3) (e := .call 19 (.cons (.v 0) (.cons (.v 1) .nil))) (itx := .rng (.call 18 (.cons (.v 0) (.cons (.bin .add (.v 2) (.c (.int 1))) .nil)))) (it := .vals (rangeV 0 (j : Int))) (xs := rangeV 0 (j : Int)) (P := fun x => ∃ y ∈ us, x = .str y) (w := 1) (k := k) (seed := seed)
    (σ := [some (.ref 2), some (.ref (m + 3)), some (.int most), none])
    (i_rng (r_call (r_cons (r_v rfl) (r_cons (r_bin (r_v rfl) r_c b_add) r_nil)) e1) (by unfold intOk; exact decide_eq_true (by omega))) (fun k seed i => rfl) (by rw [range_len]; omega)
    (fun v hv => ⟨_, rfl, fun b k seed ok hb => by
      obtain ⟨x, k', seed', e, hx, ok'⟩ := oneL_G (c := c) (rest := R) (lo := R.length + 3) hD n ok (by omega) hm (by intro z; apply hu; cases us with
        | nil => rfl
        | cons a l => cases z) (by rw [nms_len]; omega) (nms_blw _ _)
      obtain ⟨y, hy, rfl⟩ := nms_mem hx
      exact ⟨.str y, k', seed', scp_G0 (r_call (r_cons (r_v rfl) (r_cons (r_v rfl) r_nil)) e) rfl, ⟨y, hy, rfl⟩, ok'⟩⟩) ok1 (by rw [range_len]; omega)
  obtain ⟨xs, rfl, hx⟩ := nms_of hP
  rw [range_len, nms_len] at hlen
  rw [range_len] at ok2
  refine ⟨xs, k2, seed2, run_G (j := [.lst (nms xs)]) h24 rfl (nms_blw _ _) ?_, by omega, hx, ok2.le (by omega)⟩
  exact r_rt (r_ret (r_blt (r_cons e2 r_nil) (b_tupG (q := R.length) getE)))
end Ev

set_option linter.all false
set_option autoImplicit false
set_option maxRecDepth 100000
set_option maxHeartbeats 4000000
/-! Sy15: _law_question. -/
namespace Ev
open PySem
def ivs (r : List Int) : List PV := r.map PV.int
def bls (as : List Bool) : List PV := as.map PV.bl
def rowsP (rows : List (List Int)) : List PV := rows.map fun r => .tup (ivs r)
/-- a row of w states below m -/
def RowI (w m : Nat) (r : List Int) : Prop := r.length = w ∧ ∀ i ∈ r, 0 ≤ i ∧ i < m
/-- a question of at most `most` states -/
structure Qn (w most : Nat) (as : List Bool) (rows : List (List Int)) : Prop where
  l1 : 1 ≤ as.length
  lm : as.length ≤ most
  len : rows.length = as.length
  row : ∀ r ∈ rows, RowI w as.length r
def qP (as : List Bool) (rows : List (List Int)) : PV := .tup [.tup (bls as), .tup (rowsP rows)]
theorem ints_blw (m : Nat) : ∀ r : List Int, PV.blws m (ivs r) = true
  | [] => rfl
  | i :: r => ints_blw m r
theorem bls_blw (m : Nat) : ∀ r : List Bool, PV.blws m (bls r) = true
  | [] => rfl
  | i :: r => bls_blw m r
theorem rowsP_blw (m : Nat) : ∀ rows : List (List Int), PV.blws m (rowsP rows) = true
  | [] => rfl
  | r :: rows => by
    show (PV.blws m (ivs r) && PV.blws m (rowsP rows)) = true
    rw [ints_blw, rowsP_blw m rows]
    rfl
theorem rowsP_snoc (rows : List (List Int)) (r : List Int) : rowsP rows ++ [.tup (ivs r)] = rowsP (rows ++ [r]) := by
  unfold rowsP
  rw [List.map_append]
  rfl
theorem rowsP_len (rows : List (List Int)) : (rowsP rows).length = rows.length := List.length_map ..
theorem ints_len (r : List Int) : (ivs r).length = r.length := List.length_map ..
theorem bls_len (r : List Bool) : (bls r).length = r.length := List.length_map ..
theorem ints_of {p : Int → Prop} : ∀ {acc : List PV}, (∀ x ∈ acc, ∃ i : Int, x = .int i ∧ p i) → ∃ r : List Int, acc = ivs r ∧ ∀ i ∈ r, p i
  | [], _ => ⟨[], rfl, fun y hy => by cases hy⟩
  | x :: acc, h => by
    obtain ⟨r, rfl, hx⟩ := ints_of fun y hy => h y (List.mem_cons_of_mem _ hy)
    obtain ⟨i, rfl, hi⟩ := h _ (List.mem_cons_self ..)
    exact ⟨i :: r, rfl, fun z hz => by
      rcases List.mem_cons.mp hz with rfl | hz
      · exact hi
      · exact hx z hz⟩
theorem bls_of : ∀ {acc : List PV}, (∀ x ∈ acc, ∃ t : Bool, x = .bl t) → ∃ r : List Bool, acc = bls r
  | [], _ => ⟨[], rfl⟩
  | x :: acc, h => by
    obtain ⟨r, rfl⟩ := bls_of fun y hy => h y (List.mem_cons_of_mem _ hy)
    obtain ⟨i, rfl⟩ := h _ (List.mem_cons_self ..)
    exact ⟨i :: r, rfl⟩
def x__law_question : Dfn := ⟨3, 11, (.cons (.asg (.tp [(.nm 5), (.nm 6), (.nm 7)]) (.tup (.cons (.bin .add (.c (.int 1)) (.call 18 (.cons (.v 0) (.cons (.v 2) .nil)))) (.cons (.call 18 (.cons (.v 0) (.cons (.c (.int 4)) .nil))) (.cons (.lst .nil) .nil))))) (.cons (.asg (.nm 3) (.lc (.call 19 (.cons (.v 0) (.cons (.lst (.cons (.c (.int 0)) (.cons (.c (.int 0)) (.cons (.c (.int 1)) (.cons (.call 18 (.cons (.v 0) (.cons (.v 5) .nil))) .nil))))) .nil))) (.nm 9) (.seq (.v 1)) .none)) (.cons (.for (.nm 4) (.rng (.v 5)) (.cons (.asg (.nm 8) (.lc (.bin .mod (.blt .int (.cons (.bin .add (.v 4) (.v 10)) .nil)) (.v 5)) (.nm 10) (.seq (.v 3)) .none)) (.cons (.iff (.cmp .gt (.v 6) (.c (.int 0))) (.cons (.asg (.nm 8) (.lc (.ite (.cmp .eq (.v 10) (.c (.int 0))) (.v 4) (.call 18 (.cons (.v 0) (.cons (.v 5) .nil)))) (.nm 10) (.seq (.v 3)) .none)) .nil) .nil) (.cons (.ex (.mth .append (.v 7) (.cons (.blt .tuple (.cons (.v 8) .nil)) .nil))) .nil))) [4, 8, 10]) (.cons (.ret (.tup (.cons (.blt .tuple (.cons (.lc (.cmp .eq (.call 18 (.cons (.v 0) (.cons (.c (.int 2)) .nil))) (.c (.int 0))) (.nm 8) (.seq (.v 7)) .none) .nil)) (.cons (.blt .tuple (.cons (.v 7) .nil)) .nil)))) .nil))))⟩
def qB1 : XS := (.asg (.nm 8) (.lc (.bin .mod (.blt .int (.cons (.bin .add (.v 4) (.v 10)) .nil)) (.v 5)) (.nm 10) (.seq (.v 3)) .none))
def qB2 : XS := (.iff (.cmp .gt (.v 6) (.c (.int 0))) (.cons (.asg (.nm 8) (.lc (.ite (.cmp .eq (.v 10) (.c (.int 0))) (.v 4) (.call 18 (.cons (.v 0) (.cons (.v 5) .nil)))) (.nm 10) (.seq (.v 3)) .none)) .nil) .nil)
def qB3 : XS := (.ex (.mth .append (.v 7) (.cons (.blt .tuple (.cons (.v 8) .nil)) .nil)))
/-- a comprehension that changes nothing -/
theorem r_lcPL {C : Nat → List PV → S → Option (PV × S)} {σ : Env} {s : S} {e : XE} {tg : TgE} {itx : XI} {it : IT} {xs : List PV} {f : PV → PV} (hi : evI C itx σ s = some (it, s)) (hg : ∀ i, it.get s i = some xs[i]?) (hx : xs.length ≤ 900000)
    (ht : ∀ v ∈ xs, ∃ σ2, asn tg v (wipeE σ tg.slots) = some σ2 ∧ scp (evE C e σ2) s = some (f v, s)) : evE C (.lc e tg itx .none) σ s = some (.ref s.size, s.push (.lst (xs.map f))) := by
  obtain ⟨acc, s', hl, rfl, rfl⟩ := lc_go (get := fun s i => it.get s i) (turn := lcTurn tg (wipeE σ tg.slots) (fun σ s => evT C .none σ s) (fun σ s => evE C e σ s)) (n := xs.length)
    (P := fun i acc t => acc = (xs.take i).map f ∧ t = s)
    (by
      rintro i acc t hii ⟨rfl, rfl⟩
      obtain ⟨σ2, ha, hh⟩ := ht xs[i] (List.getElem_mem hii)
      refine ⟨xs[i], [f xs[i]], t, ?_, turn_lc ha t_none hh, ?_, rfl⟩
      · show it.get _ i = _
        rw [hg, List.getElem?_eq_getElem hii]
      · show _ = List.map f (List.take (i + 1) xs)
        rw [List.take_add_one, List.getElem?_eq_getElem hii, List.map_append]
        rfl)
    (by
      rintro acc t ⟨_, rfl⟩
      show it.get _ _ = _
      rw [hg, List.getElem?_eq_none (Nat.le_refl _)])
    fuel 0 [] s (by show _ < 1000000; omega) (Nat.zero_le _) ⟨rfl, rfl⟩
  rw [List.take_length] at hl
  exact r_lc hi hl (by rw [List.length_map]; show _ ≤ 16777216; omega)
theorem ints_mem {r : List Int} {v : PV} (h : v ∈ ivs r) : ∃ i, v = .int i ∧ i ∈ r := by
  obtain ⟨i, hi, rfl⟩ := List.mem_map.mp h
  exact ⟨i, rfl, hi⟩
theorem len2 {rest : List GO} {a b : GO} : (rest ++ [a, b]).length = rest.length + 2 := by
  rw [List.length_append]
  rfl
def modP (st many : Int) : PV → PV
  | .int a => .int ((st + a) % many)
  | v => v
def qS (w1 w2 : Option PV) (rest : List GO) (many : Nat) (sort : Int) (st r8 : Option PV) : Env := [some (.ref 2), w1, w2, some (.ref (rest.length + 1 + 3)), st, some (.int many), some (.int sort), some (.ref (rest.length + 3)), r8, none, none]
section
variable {C : Nat → List PV → S → Option (PV × S)} {c : Ct} {rest : List GO} {w2 w1 : Option PV} {many : Nat} {sort : Int}
theorem i_lstG {C : Nat → List PV → S → Option (PV × S)} {c : Ct} {R : List GO} {σ : Env} {e : XE} {k seed : Int} {lo q : Nat} {xs : List PV} (h : evE C e σ (G c k seed R lo) = some (.ref (q + 3), G c k seed R lo)) (hq : R[q]? = some (.lst xs)) : evI C (.seq e) σ (G c k seed R lo) = some (.lref (q + 3), G c k seed R lo) :=
  i_lst (xs := xs) h (by
    unfold lstAt
    rw [show (G c k seed R lo).g[q + 3]? = some (.lst xs) from hq])
theorem q_row1 {a : GO} {adds : List Int} {st : Nat} {k seed : Int} {lo : Nat} (hm : 0 < many) (ha : adds.length ≤ 8) :
    ∃ r, RowI adds.length many r ∧ evS C qB1 (qS w1 w2 rest many sort (some (.int st)) none) (G c k seed (rest ++ [a, .lst (ivs adds)]) lo) = some (.nx (qS w1 w2 rest many sort (some (.int st)) (some (.ref (rest.length + 2 + 3)))), G c k seed ((rest ++ [a, .lst (ivs adds)]) ++ [.lst (ivs r)]) lo) := by
  refine ⟨adds.map fun x => ((st : Int) + x) % (many : Int), ⟨List.length_map .., fun i hi => ?_⟩, ?_⟩
  · obtain ⟨x, _, rfl⟩ := List.mem_map.mp hi
    exact ⟨Int.emod_nonneg _ (by omega), Int.emod_lt_of_pos _ (by omega)⟩
  · have q := r_lcPL (C := C) (σ := qS w1 w2 rest many sort (some (.int st)) none) (s := G c k seed (rest ++ [a, .lst (ivs adds)]) ((rest ++ [a, GO.lst (ivs adds)]).length + 3)) (e := .bin .mod (.blt .int (.cons (.bin .add (.v 4) (.v 10)) .nil)) (.v 5)) (tg := .nm 10) (itx := .seq (.v 3)) (it := .lref (rest.length + 1 + 3)) (xs := ivs adds) (f := modP st many)
      (i_lstG (r_v rfl) two_get1) (fun i => get_lref two_get1 _ _ _) (by rw [ints_len]; omega) (by
        intro v hv
        obtain ⟨x, rfl, _⟩ := ints_mem hv
        exact ⟨_, rfl, r_scp0 (r_bin (r_int (r_bin (r_v rfl) (r_v rfl) b_add)) (r_v rfl) (b_mod (by omega))) rfl⟩)
    have em : (ivs adds).map (modP st many) = ivs (adds.map fun x => ((st : Int) + x) % (many : Int)) := by
      unfold ivs
      rw [List.map_map, List.map_map]
      rfl
    rw [em] at q
    have z := r_asg (tg := .nm 8) (σ := qS w1 w2 rest many sort (some (.int st)) none) (scp_GL (c := c) (lo := lo) (R := rest ++ [a, .lst (ivs adds)]) (j := [.lst (ivs (adds.map fun x => ((st : Int) + x) % (many : Int)))]) (m := (rest ++ [a, GO.lst (ivs adds)]).length) q (Nat.le_refl _) getE (ints_blw _ _)) rfl
    rw [len2] at z
    exact z
theorem q_row2 {D : List (Nat × Dfn)} (hD : HasP D) (n : Nat) {a : GO} {adds r : List Int} {st b : Nat} {k seed : Int} {lo : Nat} (hm : 0 < many) (h8 : many ≤ 8) (hs : st < many) (ha : adds.length ≤ 8) (hr : RowI adds.length many r) (h : Ok b k seed) (hb : b < 900000000) :
    ∃ r2 k' seed' j q, RowI adds.length many r2 ∧ Ok (b + 8) k' seed' ∧ ((rest ++ [a, .lst (ivs adds)]) ++ j)[q]? = some (.lst (ivs r2)) ∧ evS (runD D (n + 2)) qB2 (qS w1 w2 rest many sort (some (.int st)) (some (.ref (rest.length + 2 + 3)))) (G c k seed ((rest ++ [a, .lst (ivs adds)]) ++ [.lst (ivs r)]) lo)
      = some (.nx (qS w1 w2 rest many sort (some (.int st)) (some (.ref (q + 3)))), G c k' seed' ((rest ++ [a, .lst (ivs adds)]) ++ j) lo) := by
  let R := (rest ++ [a, .lst (ivs adds)]) ++ [.lst (ivs r)]
  by_cases h0 : (0 : Int) < sort
  · have g1 : R[rest.length + 1]? = some (.lst (ivs adds)) := get_left two_get1
    obtain ⟨acc, k2, seed2, e2, hlen, hP, ok2⟩ := r_lcPen (C := runD D (n + 2)) (c := c) (R := R) (lo := R.length + 3) (tg := .nm 10) (e := .ite (.cmp .eq (.v 10) (.c (.int 0))) (.v 4) (.call 18 (.cons (.v 0) (.cons (.v 5) .nil)))) (itx := .seq (.v 3)) (it := .lref (rest.length + 1 + 3)) (xs := ivs adds) (P := fun x => ∃ i : Int, x = .int i ∧ (0 ≤ i ∧ i < many)) (w := 1) (k := k) (seed := seed)
      (σ := qS w1 w2 rest many sort (some (.int st)) (some (.ref (rest.length + 2 + 3)))) (i_lstG (r_v rfl) g1) (get_lref g1) (by rw [ints_len]; omega) (by
        intro v hv
        obtain ⟨x, rfl, _⟩ := ints_mem hv
        refine ⟨_, rfl, fun b k seed ok hb => ?_⟩
        by_cases x0 : x = 0
        · exact ⟨.int st, k, seed, scp_G0 (r_itet (r_cmp (r_v rfl) r_c (c_eq.trans (by rw [decide_eq_true x0]))) (r_v rfl)) rfl, ⟨st, rfl, by omega, by omega⟩, ok.le (by omega)⟩
        · obtain ⟨y, k', seed', e, y0, y1, ok'⟩ := take_G (c := c) (rest := R) (lo := R.length + 3) hD n (many := many) ok (by omega) (by omega) (by omega)
          exact ⟨.int y, k', seed', scp_G0 (r_itef (r_cmp (r_v rfl) r_c (c_eq.trans (by rw [decide_eq_false x0]))) (r_call (r_cons (r_v rfl) (r_cons (r_v rfl) r_nil)) e)) rfl, ⟨y, rfl, y0, y1⟩, ok'⟩) h (by rw [ints_len]; omega)
    obtain ⟨r2, rfl, hr2⟩ := ints_of hP
    rw [ints_len, ints_len] at hlen
    rw [ints_len] at ok2
    refine ⟨r2, k2, seed2, [.lst (ivs r), .lst (ivs r2)], R.length, ⟨hlen, hr2⟩, ok2.le (by omega), ?_, ?_⟩
    · have : (rest ++ [a, GO.lst (ivs adds)]) ++ [GO.lst (ivs r), .lst (ivs r2)] = R ++ [.lst (ivs r2)] := by
        show _ = (_ ++ [_]) ++ [_]
        rw [List.append_assoc (rest ++ _)]
        rfl
      rw [this]
      exact getE
    · have : (rest ++ [a, GO.lst (ivs adds)]) ++ [GO.lst (ivs r), .lst (ivs r2)] = R ++ [.lst (ivs r2)] := by
        show _ = (_ ++ [_]) ++ [_]
        rw [List.append_assoc (rest ++ _)]
        rfl
      rw [this]
      exact r_ift (scp_G0 (r_cmp (r_v rfl) r_c (c_gt.trans (by rw [decide_eq_true h0]))) rfl) (r_nx (r_asg (scp_GL (j := [.lst (ivs r2)]) (m := R.length) e2 (Nat.le_refl _) getE (ints_blw _ _)) rfl) r_bnil)
  · refine ⟨r, k, seed, [.lst (ivs r)], rest.length + 2, hr, h.le (by omega), ?_, ?_⟩
    · have := getE (l := rest ++ [a, GO.lst (ivs adds)]) (x := GO.lst (ivs r))
      rw [len2] at this
      exact this
    · exact r_iff (scp_G0 (r_cmp (r_v rfl) r_c (c_gt.trans (by rw [decide_eq_false h0]))) rfl) r_bnil
theorem q_app {adds r : List Int} {done : List (List Int)} {j : List GO} {st : Option PV} {k seed : Int} {lo q : Nat} (hd : done.length ≤ 60) (hq : ((rest ++ [.lst (rowsP done), .lst (ivs adds)]) ++ j)[q]? = some (.lst (ivs r))) :
    evS C qB3 (qS w1 w2 rest many sort st (some (.ref (q + 3)))) (G c k seed ((rest ++ [.lst (rowsP done), .lst (ivs adds)]) ++ j) lo) = some (.nx (qS w1 w2 rest many sort st (some (.ref (q + 3)))), G c k seed ((rest ++ [.lst (rowsP (done ++ [r])), .lst (ivs adds)]) ++ j) lo) := by
  let R := (rest ++ [.lst (rowsP done), .lst (ivs adds)]) ++ j
  have g0 : R[rest.length]? = some (.lst (rowsP done)) := get_left two_get0
  have t0 : mthTy .append (.ref (rest.length + 3)) (G c k seed R (R.length + 3)) = true := by
    unfold mthTy
    simp only [show (G c k seed R (R.length + 3)).g[rest.length + 3]? = some (.lst (rowsP done)) from g0]
  have z := m_append (s := G c k seed R (R.length + 3)) (n := rest.length + 3) (xs := rowsP done) (v := .tup (ivs r)) g0 (by
    rw [rowsP_len]
    exact Nat.lt_of_le_of_lt hd (by decide))
  rw [show (PV.tup (ivs r)).rf = true from ints_blw 0 r, G_wr, rowsP_snoc] at z
  have es : R.set rest.length (.lst (rowsP (done ++ [r]))) = (rest ++ [.lst (rowsP (done ++ [r])), .lst (ivs adds)]) ++ j := by
    rw [List.set_append_left _ _ (by rw [len2]; omega), two_set0]
  rw [es] at z
  refine r_ex (r_scpMG (s := G c k seed R lo) (g1 := (G c k seed ((rest ++ [.lst (rowsP (done ++ [r])), .lst (ivs adds)]) ++ j) lo).g) (j := []) (r_mth (r_v rfl) t0 (r_cons (r_blt (r_cons (r_v rfl) r_nil) (b_tupG hq)) r_nil) (by rw [List.append_nil]; exact z)) ?_ rfl)
  show (((rest ++ [_, _]) ++ j).length + 3) = ((rest ++ [_, _]) ++ j).length + 3
  rw [List.length_append, len2, List.length_append, len2]
end
theorem question_run {D : List (Nat × Dfn)} (hD : HasP D) (h23 : D.lookup 23 = some x__law_question) (n : Nat) {c : Ct} {b : Nat} {k seed : Int} {rest : List GO} {lo m most : Nat} {us : List Sg} (h : Ok b k seed) (hb : b < 800000000) (hm : rest[m]? = some (.lst (nms us))) (hu8 : us.length ≤ 8) (h1 : 0 < most) (h8 : most ≤ 8) :
    ∃ as rows k' seed', runD D (n + 4) 23 [.ref 2, .ref (m + 3), .int most] (G c k seed rest lo) = some (qP as rows, G c k' seed' rest lo) ∧ Qn us.length most as rows ∧ Ok (b + 100) k' seed' := by
  let z := rest.length + 3
  obtain ⟨r0, k1, seed1, e1, r00, r01, ok1⟩ := take_G (c := c) (rest := rest) (lo := z) hD (n + 1) (many := most) h (by omega) (by omega) (by omega)
  obtain ⟨many', rfl⟩ : ∃ j : Nat, r0 = j := ⟨r0.toNat, by omega⟩
  obtain ⟨many, em⟩ : ∃ j : Nat, j = many' + 1 := ⟨_, rfl⟩
  have em' : (1 : Int) + (many' : Int) = (many : Int) := by omega
  obtain ⟨sort, k2, seed2, e2, s0, s1, ok2⟩ := take_G (c := c) (rest := rest) (lo := z) hD (n + 1) (many := 4) ok1 (by omega) (by omega) (by omega)
  let R0 := rest ++ [GO.lst (rowsP [])]
  have lR0 : R0.length = rest.length + 1 := by
    show (rest ++ [_]).length = _
    rw [List.length_append]
    rfl
  have hmR : R0[m]? = some (.lst (nms us)) := get_left hm
  let σ0 : Env := [some (.ref 2), some (.ref (m + 3)), some (.int most), none, none, none, none, none, none, none, none]
  let σ1 : Env := [some (.ref 2), some (.ref (m + 3)), some (.int most), none, none, some (.int many), some (.int sort), some (.ref (rest.length + 3)), none, none, none]
  have st1 : evS (runD D (n + 3)) (.asg (.tp [(.nm 5), (.nm 6), (.nm 7)]) (.tup (.cons (.bin .add (.c (.int 1)) (.call 18 (.cons (.v 0) (.cons (.v 2) .nil)))) (.cons (.call 18 (.cons (.v 0) (.cons (.c (.int 4)) .nil))) (.cons (.lst .nil) .nil))))) σ0 (G c k seed rest z) = some (.nx σ1, G c k2 seed2 R0 z) := by
    have q : evE (runD D (n + 3)) (.tup (.cons (.bin .add (.c (.int 1)) (.call 18 (.cons (.v 0) (.cons (.v 2) .nil)))) (.cons (.call 18 (.cons (.v 0) (.cons (.c (.int 4)) .nil))) (.cons (.lst .nil) .nil)))) σ0 (G c k seed rest z)
        = some (.tup [.int (1 + (many' : Int)), .int sort, .ref (rest.length + 3)], G c k2 seed2 R0 z) :=
      r_tup (r_cons (r_bin r_c (r_call (r_cons (r_v rfl) (r_cons (r_v rfl) r_nil)) e1) b_add) (r_cons (r_call (r_cons (r_v rfl) (r_cons r_c r_nil)) e2) (r_cons (r_lst r_nil (by decide)) r_nil))) (by show 3 ≤ line; decide)
    rw [em'] at q
    exact r_asg (r_scpK (s := G c k seed rest z) (g := (G c k2 seed2 R0 z).g) q (by
      show (true && (true && (decide (rest.length + 3 < rest.length + 3) && _))) = false
      rw [decide_eq_false (Nat.lt_irrefl _)]
      rfl)) rfl
  obtain ⟨acc, k3, seed3, e3, hlen, hP, ok3⟩ := r_lcPen (C := runD D (n + 3)) (c := c) (R := R0) (lo := R0.length + 3) (tg := .nm 9) (e := .call 19 (.cons (.v 0) (.cons (.lst (.cons (.c (.int 0)) (.cons (.c (.int 0)) (.cons (.c (.int 1)) (.cons (.call 18 (.cons (.v 0) (.cons (.v 5) .nil))) .nil))))) .nil))) (itx := .seq (.v 1)) (it := .lref (m + 3)) (xs := nms us) (P := fun x => ∃ i : Int, x = .int i ∧ True) (w := 2) (k := k2) (seed := seed2) (σ := σ1)
    (i_lstG (r_v rfl) hmR) (get_lref hmR) (by rw [nms_len]; omega) (by
      intro v hv
      refine ⟨_, rfl, fun b k seed ok hb => ?_⟩
      obtain ⟨y, k', seed', e, y0, y1, ok'⟩ := take_G (c := c) (rest := R0) (lo := R0.length + 3) hD (n + 1) (many := many) ok (by omega) (by omega) (by omega)
      obtain ⟨x, k'', seed'', e', hx, ok''⟩ := oneL_G (c := c) (rest := R0 ++ [.lst [.int 0, .int 0, .int 1, .int y]]) (lo := R0.length + 3) hD n ok' (by omega) getE (by simp) (by show 4 < 2 ^ 62; omega) rfl
      refine ⟨x, k'', seed'', scp_G (j := [.lst [.int 0, .int 0, .int 1, .int y]]) (r_call (r_cons (r_v rfl) (r_cons (r_lst (r_cons r_c (r_cons r_c (r_cons r_c (r_cons (r_call (r_cons (r_v rfl) (r_cons (r_v rfl) r_nil)) e) r_nil)))) (by show 4 ≤ line; decide)) r_nil)) e') ?_, ?_, ok''⟩
      · simp at hx
        rcases hx with rfl | rfl | rfl <;> rfl
      · simp at hx
        rcases hx with rfl | rfl | rfl <;> exact ⟨_, rfl, trivial⟩) ok2 (by rw [nms_len]; omega)
  obtain ⟨adds, rfl, _⟩ := ints_of hP
  rw [nms_len, ints_len] at hlen
  rw [nms_len] at ok3
  let w1 : Option PV := some (.ref (m + 3))
  let w2 : Option PV := some (.int most)
  let σ2 := qS w1 w2 rest many sort none none
  let R := fun done : List (List Int) => rest ++ [GO.lst (rowsP done), .lst (ivs adds)]
  have hR0 : R0 ++ [.lst (ivs adds)] = R [] := by
    show (rest ++ [_]) ++ [_] = _
    rw [List.append_assoc]
    rfl
  have st2 : evS (runD D (n + 3)) (.asg (.nm 3) (.lc (.call 19 (.cons (.v 0) (.cons (.lst (.cons (.c (.int 0)) (.cons (.c (.int 0)) (.cons (.c (.int 1)) (.cons (.call 18 (.cons (.v 0) (.cons (.v 5) .nil))) .nil))))) .nil))) (.nm 9) (.seq (.v 1)) .none)) σ1 (G c k2 seed2 R0 z) = some (.nx σ2, G c k3 seed3 (R []) z) := by
    have q := r_asg (tg := .nm 3) (σ := σ1) (scp_GL (c := c) (lo := z) (R := R0) (j := [.lst (ivs adds)]) (m := R0.length) e3 (Nat.le_refl _) getE (ints_blw _ _)) rfl
    rw [hR0, lR0] at q
    exact q
  have hz : ∀ {k seed : Int} {done : List (List Int)} {lo : Nat}, (G c k seed (R done) lo).size = rest.length + 5 := by
    intro k seed done lo
    show (rest ++ [_, _]).length + 3 = _
    rw [len2]
  have hbl : envBlw (rest.length + 5) σ2 = true := by
    have hmz : m < rest.length := (List.getElem?_eq_some_iff.mp hm).1
    show (decide (2 < rest.length + 5) && (decide (m + 3 < rest.length + 5) && (true && (decide (rest.length + 1 + 3 < rest.length + 5) && (true && (true && (decide (rest.length + 3 < rest.length + 5) && true))))))) = true
    rw [decide_eq_true (by omega), decide_eq_true (by omega), decide_eq_true (by omega), decide_eq_true (by omega)]
    rfl
  obtain ⟨σ', s', hl, rfl, done, k4, seed4, rfl, hdl, hdr, ok4⟩ := for_go (get := fun s i => IT.get s (.vals (rangeV 0 (many : Int))) i) (turn := forTurn (.nm 4) [4, 8, 10] (fun σ s => evB (runD D (n + 3)) (.cons qB1 (.cons qB2 (.cons qB3 .nil))) σ s)) (n := many)
    (P := fun i σ s => σ = σ2 ∧ ∃ done k seed, s = G c k seed (R done) (rest.length + 5) ∧ done.length = i ∧ (∀ r ∈ done, RowI us.length many r) ∧ Ok (b + 18 + i * 8) k seed)
    (by
      rintro i σ s hi ⟨rfl, done, k, seed, rfl, hdl, hdr, ok⟩
      obtain ⟨r, hr, f1⟩ := q_row1 (C := runD D (n + 3)) (c := c) (rest := rest) (w1 := w1) (w2 := w2) (many := many) (sort := sort) (a := .lst (rowsP done)) (adds := adds) (st := i) (k := k) (seed := seed) (lo := rest.length + 5) (by omega) (by omega)
      obtain ⟨r2, k', seed', j, q, hr2, ok', hq, f2⟩ := q_row2 (c := c) (rest := rest) (w1 := w1) (w2 := w2) (many := many) (sort := sort) hD (n + 1) (a := .lst (rowsP done)) (adds := adds) (r := r) (st := i) (k := k) (seed := seed) (lo := rest.length + 5) (by omega) (by omega) hi (by omega) hr ok (by omega)
      have f3 := q_app (C := runD D (n + 3)) (c := c) (rest := rest) (w1 := w1) (w2 := w2) (many := many) (sort := sort) (adds := adds) (r := r2) (done := done) (j := j) (st := some (.int i)) (k := k') (seed := seed') (lo := rest.length + 5) (q := q) (by omega) hq
      have t := turn_nx (tg := .nm 4) (kills := [4, 8, 10]) (v := .int i) (σ := σ2) (s := G c k seed (R done) (rest.length + 5)) (σ2 := qS w1 w2 rest many sort (some (.int i)) none) (run := fun σ s => evB (runD D (n + 3)) (.cons qB1 (.cons qB2 (.cons qB3 .nil))) σ s) rfl (by
        rw [hz]
        exact r_nx f1 (r_nx f2 (r_nx f3 r_bnil)))
      refine ⟨.int i, σ2, G c k' seed' (R (done ++ [r2])) (rest.length + 5), ?_, ?_, rfl, done ++ [r2], k', seed', rfl, ?_, ?_, ?_⟩
      · show some (rangeV 0 (many : Int))[i]? = _
        rw [range_at hi]
      · rw [t, hz]
        exact congrArg (fun s => some (Out.nx σ2, s)) (tidyE_drop (g := (G c k' seed' (R (done ++ [r2])) (rest.length + 5)).g) (j := j) (hz (lo := 0)) (Nat.le_refl _) hbl)
      · rw [List.length_append, hdl]; rfl
      · intro x hx
        rcases List.mem_append.mp hx with hx | hx
        · exact hdr x hx
        · rw [List.mem_singleton.mp hx, ← hlen]; exact hr2
      · exact ok'.le (by omega))
    (by
      rintro σ s _
      show some (rangeV 0 (many : Int))[many]? = _
      rw [List.getElem?_eq_none (by rw [range_len]; exact Nat.le_refl _)])
    fuel 0 σ2 (G c k3 seed3 (R []) (rest.length + 5)) (by show _ < 1000000; omega) (Nat.zero_le _) ⟨rfl, [], k3, seed3, rfl, rfl, (fun x hx => by cases hx), ok3.le (by omega)⟩
  have st3 : evS (runD D (n + 3)) (.for (.nm 4) (.rng (.v 5)) (.cons qB1 (.cons qB2 (.cons qB3 .nil))) [4, 8, 10]) σ2 (G c k3 seed3 (R []) z) = some (.nx σ2, G c k4 seed4 (R done) z) := by
    have q := r_for (C := runD D (n + 3)) (tg := .nm 4) (it := .rng (.v 5)) (B := (.cons qB1 (.cons qB2 (.cons qB3 .nil)))) (kills := [4, 8, 10]) (σ := σ2) (s := G c k3 seed3 (R []) z) (by
      rw [hz]
      exact i_rng (r_v rfl) (by unfold intOk; exact decide_eq_true (by omega))) hl
    rw [q, hz]
    exact congrArg (fun s => some (Out.nx σ2, s)) (tidyE_same (g := (G c k4 seed4 (R done) (rest.length + 5)).g) (hz (lo := 0)) hbl)
  have g0 : (R done)[rest.length]? = some (.lst (rowsP done)) := two_get0
  obtain ⟨acc, k5, seed5, e5, hlen5, hP5, ok5⟩ := r_lcPen (C := runD D (n + 3)) (c := c) (R := R done) (lo := z) (tg := .nm 8) (e := .cmp .eq (.call 18 (.cons (.v 0) (.cons (.c (.int 2)) .nil))) (.c (.int 0))) (itx := .seq (.v 7)) (it := .lref (rest.length + 3)) (xs := rowsP done) (P := fun x => ∃ t : Bool, x = .bl t) (w := 1) (k := k4) (seed := seed4) (σ := σ2)
    (i_lstG (r_v rfl) g0) (get_lref g0) (by rw [rowsP_len]; omega) (by
      intro v hv
      refine ⟨_, rfl, fun b k seed ok hb => ?_⟩
      obtain ⟨y, k', seed', e, y0, y1, ok'⟩ := take_G (c := c) (rest := R done) (lo := (R done).length + 3) hD (n + 1) (many := 2) ok (by omega) (by omega) (by omega)
      exact ⟨.bl (decide (y = 0)), k', seed', scp_G0 (r_cmp (r_call (r_cons (r_v rfl) (r_cons r_c r_nil)) e) r_c c_eq) rfl, ⟨_, rfl⟩, ok'⟩) ok4 (by rw [rowsP_len]; omega)
  obtain ⟨as, rfl⟩ := bls_of hP5
  rw [bls_len, rowsP_len] at hlen5
  rw [rowsP_len] at ok5
  refine ⟨as, done, k5, seed5, run_G (j := [.lst (rowsP done), .lst (ivs adds), .lst (bls as)]) h23 rfl ?_ ?_, ⟨by omega, by omega, by omega, ?_⟩, ok5.le (by omega)⟩
  · show (PV.blws _ (bls as) && (PV.blws _ (rowsP done) && true)) = true
    rw [bls_blw, rowsP_blw]
    rfl
  · have eR : rest ++ [GO.lst (rowsP done), .lst (ivs adds), .lst (bls as)] = R done ++ [.lst (bls as)] := by
      show _ = (rest ++ [_, _]) ++ [_]
      rw [List.append_assoc]
      rfl
    rw [eR]
    exact r_nx st1 (r_nx st2 (r_nx st3 (r_rt (r_ret (r_tup (r_cons (r_blt (r_cons e5 r_nil) (b_tupG (q := (R done).length) getE)) (r_cons (r_blt (r_cons (r_v rfl) r_nil) (b_tupG (q := rest.length) (get_left g0))) r_nil)) (by show 2 ≤ line; decide))))))
  · intro r hr
    have := hdr r hr
    rw [hlen5, hdl]
    exact this
end Ev

set_option linter.all false
set_option autoImplicit false
set_option maxRecDepth 100000
set_option maxHeartbeats 4000000
/-! Sy16: the state to which a log leads; answer_to. -/
namespace Ev
open PySem
def nxt (rows : List (List Int)) (us : List Sg) (i : Int) (y : Sg) : Int := (rows.getD i.toNat []).getD (us.idxOf y) 0
theorem at_ok {α : Type} {xs : List α} {i : Int} (h0 : 0 ≤ i) (h1 : i < xs.length) : at? xs i = xs[i.toNat]? := by
  unfold at? ixE
  rw [if_pos h0, if_pos h1]
  rfl
theorem indexOf_nms {y : Sg} : ∀ {us : List Sg}, y ∈ us → indexOf (.str y) (nms us) = some (us.idxOf y)
  | z :: us, h => by
    show (if decide (z = y) = true then some 0 else (indexOf (.str y) (nms us)).map (· + 1)) = _
    by_cases e : z = y
    · subst e
      rw [if_pos (decide_eq_true rfl), List.idxOf_cons_self]
    · rw [if_neg (by rw [decide_eq_false e]; exact Bool.false_ne_true)]
      have hy : y ∈ us := by
        rcases List.mem_cons.mp h with q | q
        · exact absurd q.symm e
        · exact q
      rw [indexOf_nms hy, List.idxOf_cons, show (z == y) = false from beq_eq_false_iff_ne.mpr e]
      rfl
theorem nms_flat : ∀ us : List Sg, (nms us).all flatP = true
  | [] => rfl
  | x :: us => by
    show (true && (nms us).all flatP) = true
    rw [nms_flat us]
    rfl
theorem m_index {s : S} {m : Nat} {us : List Sg} {y : Sg} (h : s.g[m]? = some (.lst (nms us))) (hy : y ∈ us) : mth .index (.ref m) [.str y] s = some (.int (us.idxOf y), s) := by
  show mIndex (.ref m) [.str y] s = _
  unfold mIndex
  simp only [h]
  rw [nms_flat, indexOf_nms hy]
  rfl
theorem step_run {C : Nat → List PV → S → Option (PV × S)} {σ : Env} {s : S} {most : Nat} {as : List Bool} {rows : List (List Int)} {us : List Sg} {m q st nm x : Nat} {i : Int} {y : Sg} (Q : Qn us.length most as rows)
    (hq : σ[q]? = some (some (qP as rows))) (hst : σ[st]? = some (some (.int i))) (hnm : σ[nm]? = some (some (.ref m))) (hx : σ[x]? = some (some (.str y))) (hm : s.g[m]? = some (.lst (nms us))) (hy : y ∈ us) (h0 : 0 ≤ i) (h1 : i < as.length) :
    evE C (.idx (.idx (.idx (.v q) (.c (.int 1))) (.v st)) (.mth .index (.v nm) (.cons (.v x) .nil))) σ s = some (.int (nxt rows us i y), s) ∧ 0 ≤ nxt rows us i y ∧ nxt rows us i y < as.length := by
  have hi : i.toNat < rows.length := by have := Q.len; omega
  have hr := Q.row rows[i.toNat] (List.getElem_mem hi)
  have hk : us.idxOf y < rows[i.toNat].length := by rw [hr.1]; exact List.idxOf_lt_length_of_mem hy
  have e1 : rows.getD i.toNat [] = rows[i.toNat] := by rw [List.getD_eq_getElem?_getD, List.getElem?_eq_getElem hi]; rfl
  have e2 : nxt rows us i y = rows[i.toNat][us.idxOf y] := by
    unfold nxt
    rw [e1, List.getD_eq_getElem?_getD, List.getElem?_eq_getElem hk]
    rfl
  have b := hr.2 _ (List.getElem_mem hk)
  refine ⟨?_, by rw [e2]; exact b.1, by rw [e2]; exact b.2⟩
  have t0 : mthTy .index (.ref m) s = true := by
    unfold mthTy
    simp only [hm]
  rw [e2]
  refine r_idx (r_idx (r_idx (r_v hq) r_c rfl) (r_v hst) (?_ : _ = some (.tup (ivs rows[i.toNat])))) (r_mth (r_v hnm) t0 (r_cons (r_v hx) r_nil) (m_index hm hy)) ?_
  · show at? (rowsP rows) i = _
    rw [at_ok h0 (by rw [rowsP_len, Q.len]; exact h1)]
    unfold rowsP
    rw [List.getElem?_map, List.getElem?_eq_getElem hi]
    rfl
  · show at? (ivs rows[i.toNat]) ((us.idxOf y : Nat) : Int) = _
    rw [at_ok (by omega) (by rw [ints_len]; omega)]
    show (List.map _ _)[us.idxOf y]? = _
    rw [List.getElem?_map, List.getElem?_eq_getElem hk]
    rfl
theorem fold_for {turn : PV → Env → S → Option (Out × S)} {env : Int → Env} {s : S} {f : Int → Sg → Int} {I : Int → Prop} {ys : List Sg} (hl : ys.length ≤ 900000)
    (ht : ∀ i, I i → ∀ y ∈ ys, turn (.str y) (env i) s = some (.nx (env (f i y)), s) ∧ I (f i y)) {i0 : Int} (h0 : I i0) :
    forL (fun s i => IT.get s (.vals (nms ys)) i) turn fuel 0 (env i0) s = some (.nx (env (ys.foldl f i0)), s) ∧ I (ys.foldl f i0) := by
  obtain ⟨σ', s', e, rfl, rfl, hI⟩ := for_go (get := fun s i => IT.get s (.vals (nms ys)) i) (turn := turn) (n := ys.length) (P := fun j σ t => t = s ∧ σ = env ((ys.take j).foldl f i0) ∧ I ((ys.take j).foldl f i0))
    (by
      rintro j σ t hj ⟨rfl, rfl, hI⟩
      have tk : ys.take (j + 1) = ys.take j ++ [ys[j]] := by
        rw [List.take_add_one, List.getElem?_eq_getElem hj]
        rfl
      obtain ⟨h1, h2⟩ := ht _ hI ys[j] (List.getElem_mem hj)
      refine ⟨.str ys[j], _, _, ?_, h1, rfl, ?_, ?_⟩
      · show some (nms ys)[j]? = _
        rw [nms_get hj]
      · rw [tk, List.foldl_append]; rfl
      · rw [tk, List.foldl_append]; exact h2)
    (by
      rintro σ t _
      show some (nms ys)[ys.length]? = _
      rw [List.getElem?_eq_none (by rw [nms_len]; exact Nat.le_refl _)])
    fuel 0 (env i0) s (by show _ < 1000000; omega) (Nat.zero_le _) ⟨rfl, rfl, h0⟩
  rw [List.take_length] at e hI
  exact ⟨e, hI⟩
theorem qP_blw (m : Nat) (as : List Bool) (rows : List (List Int)) : (qP as rows).blw m = true := by
  show (PV.blws m (bls as) && (PV.blws m (rowsP rows) && true)) = true
  rw [bls_blw, rowsP_blw]
  rfl
def endI (rows : List (List Int)) (us : List Sg) (ys : List Sg) : Int := ys.foldl (nxt rows us) 0
def x_is_log_of : Dfn := ⟨2, 3, (.cons (.iff (.or (.not (.blt .isTuple (.cons (.v 1) .nil))) (.not (.blt .all (.cons (.lc (.blt .isStr (.cons (.v 2) .nil)) (.nm 2) (.seq (.v 1)) .none) .nil)))) (.cons (.ret (.c (.bl false))) .nil) .nil) (.cons (.ret (.blt .all (.cons (.lc (.cmp .isin (.v 2) (.call 4 (.cons (.v 0) .nil))) (.nm 2) (.seq (.v 1)) .none) .nil))) .nil))⟩
def x_find_end : Dfn := ⟨3, 6, (.cons (.asg (.nm 3) (.call 4 (.cons (.v 0) .nil))) (.cons (.asg (.nm 4) (.c (.int 0))) (.cons (.for (.nm 5) (.seq (.v 2)) (.cons (.asg (.nm 4) (.idx (.idx (.idx (.v 1) (.c (.int 1))) (.v 4)) (.mth .index (.v 3) (.cons (.v 5) .nil)))) .nil) [5]) (.cons (.ret (.v 4)) .nil))))⟩
def x_find_answer : Dfn := ⟨3, 3, (.cons (.ret (.idx (.idx (.v 1) (.c (.int 0))) (.call 9 (.cons (.v 0) (.cons (.v 1) (.cons (.v 2) .nil)))))) .nil)⟩
def x_require_question : Dfn := ⟨2, 2, (.cons (.iff (.not (.call 7 (.cons (.v 0) (.cons (.v 1) .nil)))) (.cons .never .nil) .nil) .nil)⟩
def x_require_log_of : Dfn := ⟨2, 2, (.cons (.iff (.not (.call 8 (.cons (.v 0) (.cons (.v 1) .nil)))) (.cons .never .nil) .nil) .nil)⟩
def x_answer_to : Dfn := ⟨3, 3, (.cons (.ex (.call 6 (.cons (.v 0) .nil))) (.cons (.ex (.call 11 (.cons (.v 0) (.cons (.v 1) .nil)))) (.cons (.ex (.call 12 (.cons (.v 0) (.cons (.v 2) .nil)))) (.cons (.ret (.call 10 (.cons (.v 0) (.cons (.v 1) (.cons (.v 2) .nil))))) .nil))))⟩
def x__law_end : Dfn := ⟨3, 5, (.cons (.asg (.nm 3) (.c (.int 0))) (.cons (.for (.nm 4) (.seq (.v 2)) (.cons (.asg (.nm 3) (.idx (.idx (.idx (.v 0) (.c (.int 1))) (.v 3)) (.mth .index (.v 1) (.cons (.v 4) .nil)))) .nil) [4]) (.cons (.ret (.v 3)) .nil)))⟩
def x__law_says : Dfn := ⟨3, 3, (.cons (.ret (.idx (.idx (.v 0) (.c (.int 0))) (.call 25 (.cons (.v 0) (.cons (.v 1) (.cons (.v 2) .nil)))))) .nil)⟩
section
variable {D : List (Nat × Dfn)} {s : S} {us ys : List Sg} {as : List Bool} {rows : List (List Int)} {most m : Nat} (Q : Qn us.length most as rows) (hy : ∀ y ∈ ys, y ∈ us) (hl : ys.length ≤ 900000)
include Q hy hl in
theorem law_end_run (h25 : D.lookup 25 = some x__law_end) (n : Nat) (hm : s.g[m]? = some (.lst (nms us))) : runD D (n + 1) 25 [qP as rows, .ref m, .tup (nms ys)] s = some (.int (endI rows us ys), s) ∧ 0 ≤ endI rows us ys ∧ endI rows us ys < as.length := by
  let S1 : S := ⟨s.g, s.size⟩
  have hmz : m < s.g.length := (List.getElem?_eq_some_iff.mp hm).1
  let env : Int → Env := fun i => [some (qP as rows), some (.ref m), some (.tup (nms ys)), some (.int i), none]
  have hb : ∀ i, envBlw s.g.length (env i) = true := fun i => by
    show ((qP as rows).blw _ && (decide (m < s.g.length) && (PV.blws _ (nms ys) && true))) = true
    rw [qP_blw, nms_blw, decide_eq_true hmz]
    rfl
  obtain ⟨e, I⟩ := fold_for (turn := forTurn (.nm 4) [4] (fun σ s => evB (runD D n) (.cons (.asg (.nm 3) (.idx (.idx (.idx (.v 0) (.c (.int 1))) (.v 3)) (.mth .index (.v 1) (.cons (.v 4) .nil)))) .nil) σ s)) (env := env) (s := S1) (f := nxt rows us) (I := fun i => 0 ≤ i ∧ i < as.length) hl (by
      intro i hi y hys
      obtain ⟨e, b1, b2⟩ := step_run (C := runD D n) (σ := [some (qP as rows), some (.ref m), some (.tup (nms ys)), some (.int i), some (.str y)]) (s := S1) (q := 0) (st := 3) (nm := 1) (x := 4) Q rfl rfl rfl rfl hm (hy y hys) hi.1 hi.2
      refine ⟨?_, b1, b2⟩
      have t := turn_nx (tg := .nm 4) (kills := [4]) (v := .str y) (σ := env i) (s := S1) (run := fun σ s => evB (runD D n) (.cons (.asg (.nm 3) (.idx (.idx (.idx (.v 0) (.c (.int 1))) (.v 3)) (.mth .index (.v 1) (.cons (.v 4) .nil)))) .nil) σ s) rfl (r_nx (r_asg (r_scp0 e rfl) rfl) r_bnil)
      rw [t]
      exact congrArg (fun t => some (Out.nx (env (nxt rows us i y)), t)) (tidyE_same (n := s.g.length) rfl (hb _))) (i0 := 0) ⟨Int.le_refl _, by have := Q.l1; omega⟩
  refine ⟨r_runV (g1 := s.g) (g := []) h25 rfl rfl rfl ?_, I⟩
  rw [List.append_nil]
  refine r_nx (r_asg (σ' := env 0) (r_scp0 r_c rfl) rfl) (r_nx (σ' := env (endI rows us ys)) (s1 := S1) ?_ (r_rt (r_ret (r_v rfl))))
  rw [r_for (s := S1) (i_tup (r_v rfl)) e]
  exact congrArg (fun t => some (Out.nx (env (endI rows us ys)), t)) (tidyE_same (n := s.g.length) rfl (hb _))
include Q hy hl in
theorem law_says_run (h25 : D.lookup 25 = some x__law_end) (h26 : D.lookup 26 = some x__law_says) (n : Nat) (hm : s.g[m]? = some (.lst (nms us))) : runD D (n + 2) 26 [qP as rows, .ref m, .tup (nms ys)] s = some (.bl (as.getD (endI rows us ys).toNat false), s) := by
  obtain ⟨e, h0, h1⟩ := law_end_run (s := ⟨s.g, s.size⟩) Q hy hl h25 n hm
  refine r_runB h26 rfl ⟨[], ?_⟩
  rw [List.append_nil]
  refine r_rt (r_ret (r_idx (r_idx (r_v rfl) r_c rfl) (r_call (r_cons (r_v rfl) (r_cons (r_v rfl) (r_cons (r_v rfl) r_nil))) e) ?_))
  show at? (bls as) _ = _
  rw [at_ok h0 (by rw [bls_len]; exact h1)]
  unfold bls
  rw [List.getElem?_map, List.getD_eq_getElem?_getD, List.getElem?_eq_getElem (by omega)]
  rfl
variable {F : List (List Sg)} (hF : Fam F us)
include Q hy hl hF in
theorem find_end_run (h4 : D.lookup 4 = some x_names_of) (h9 : D.lookup 9 = some x_find_end) (n : Nat) : runD D (n + 2) 9 [.tup (famP F), qP as rows, .tup (nms ys)] s = some (.int (endI rows us ys), s) ∧ 0 ≤ endI rows us ys ∧ endI rows us ys < as.length := by
  let A := s.g ++ [GO.lst (nms us)]
  let S0 : S := ⟨A, s.size⟩
  let S1 : S := ⟨A, A.length⟩
  have lA : A.length = s.g.length + 1 := by
    show (s.g ++ [_]).length = _
    rw [List.length_append]
    rfl
  have hm : A[s.size]? = some (.lst (nms us)) := getE
  let env : Int → Env := fun i => [some (.tup (famP F)), some (qP as rows), some (.tup (nms ys)), some (.ref s.size), some (.int i), none]
  have hb : ∀ i, envBlw A.length (env i) = true := fun i => by
    show (PV.blws _ (famP F) && ((qP as rows).blw _ && (PV.blws _ (nms ys) && (decide (s.g.length < A.length) && true)))) = true
    rw [famP_blw, qP_blw, nms_blw, decide_eq_true (by omega)]
    rfl
  obtain ⟨e, I⟩ := fold_for (turn := forTurn (.nm 5) [5] (fun σ s => evB (runD D (n + 1)) (.cons (.asg (.nm 4) (.idx (.idx (.idx (.v 1) (.c (.int 1))) (.v 4)) (.mth .index (.v 3) (.cons (.v 5) .nil)))) .nil) σ s)) (env := env) (s := S1) (f := nxt rows us) (I := fun i => 0 ≤ i ∧ i < as.length) hl (by
      intro i hi y hys
      obtain ⟨e, b1, b2⟩ := step_run (C := runD D (n + 1)) (σ := [some (.tup (famP F)), some (qP as rows), some (.tup (nms ys)), some (.ref s.size), some (.int i), some (.str y)]) (s := S1) (q := 1) (st := 4) (nm := 3) (x := 5) Q rfl rfl rfl rfl hm (hy y hys) hi.1 hi.2
      refine ⟨?_, b1, b2⟩
      have t := turn_nx (tg := .nm 5) (kills := [5]) (v := .str y) (σ := env i) (s := S1) (run := fun σ s => evB (runD D (n + 1)) (.cons (.asg (.nm 4) (.idx (.idx (.idx (.v 1) (.c (.int 1))) (.v 4)) (.mth .index (.v 3) (.cons (.v 5) .nil)))) .nil) σ s) rfl (r_nx (r_asg (r_scp0 e rfl) rfl) r_bnil)
      rw [t]
      exact congrArg (fun t => some (Out.nx (env (nxt rows us i y)), t)) (tidyE_same (n := A.length) rfl (hb _))) (i0 := 0) ⟨Int.le_refl _, by have := Q.l1; omega⟩
  refine ⟨r_runV (g1 := s.g) (g := [.lst (nms us)]) h9 rfl rfl rfl ?_, I⟩
  refine r_nx (s1 := S0) (r_asg (σ' := [some (.tup (famP F)), some (qP as rows), some (.tup (nms ys)), some (.ref s.size), none, none]) (r_scpL (s := ⟨s.g, s.size⟩) (g := [.lst (nms us)]) (m := s.size) (r_call (r_cons (r_v rfl) r_nil) (Fam.run h4 n hF)) (Nat.le_refl _) getE (nms_blw _ _)) rfl) ?_
  refine r_nx (r_asg (σ' := env 0) (r_scp0 r_c rfl) rfl) (r_nx (σ' := env (endI rows us ys)) (s1 := S0) ?_ (r_rt (r_ret (r_v rfl))))
  rw [r_for (s := S0) (i_tup (r_v rfl)) e]
  exact congrArg (fun t => some (Out.nx (env (endI rows us ys)), t)) (tidyE_same (n := A.length) rfl (hb _))
include Q hy hl hF in
theorem find_answer_run (h4 : D.lookup 4 = some x_names_of) (h9 : D.lookup 9 = some x_find_end) (h10 : D.lookup 10 = some x_find_answer) (n : Nat) : runD D (n + 3) 10 [.tup (famP F), qP as rows, .tup (nms ys)] s = some (.bl (as.getD (endI rows us ys).toNat false), s) := by
  obtain ⟨e, h0, h1⟩ := find_end_run (s := ⟨s.g, s.size⟩) Q hy hl hF h4 h9 n
  refine r_runB h10 rfl ⟨[], ?_⟩
  rw [List.append_nil]
  refine r_rt (r_ret (r_idx (r_idx (r_v rfl) r_c rfl) (r_call (r_cons (r_v rfl) (r_cons (r_v rfl) (r_cons (r_v rfl) r_nil))) e) ?_))
  show at? (bls as) _ = _
  rw [at_ok h0 (by rw [bls_len]; exact h1)]
  unfold bls
  rw [List.getElem?_map, List.getD_eq_getElem?_getD, List.getElem?_eq_getElem (by omega)]
  rfl
theorem c_in_nms {x : Sg} {s : S} {m : Nat} (h : s.g[m]? = some (.lst (nms us))) : cop .isin (.str x) (.ref m) s = some (decide (x ∈ us)) := by
  have : cop .isin (.str x) (.ref m) s = (match s.g[m]? with
    | some (.lst ys) => inD s.g (.str x) ys
    | some (.fix ys) => inD s.g (.str x) ys
    | _ => none) := by
      unfold cop
      cases x with
      | nil => rfl
      | cons a l => cases l <;> rfl
  rw [this, h]
  exact nms_in
theorem nms_deep_t (look : Nat → Option PV) (xs : List Sg) : deepW look (.tup (nms xs)) = some (.tup (nms xs)) := by
  rw [deepW, nms_deeps]
  rfl
include hy hl hF in
theorem is_log_of_run (h4 : D.lookup 4 = some x_names_of) (h8 : D.lookup 8 = some x_is_log_of) (n : Nat) : runD D (n + 2) 8 [.tup (famP F), .tup (nms ys)] s = some (.bl true, s) := by
  refine r_runB h8 rfl ?_
  have all1 : (nms ys).all isS = true := by
    rw [List.all_eq_true]
    intro v hv
    obtain ⟨x, _, rfl⟩ := nms_mem hv
    rfl
  have q := r_allP (C := runD D (n + 1)) (σ := [some (.tup (famP F)), some (.tup (nms ys)), none]) (s := ⟨s.g, s.size⟩) (e := .blt .isStr (.cons (.v 2) .nil)) (it := .v 1) (tg := .nm 2) (p := isS) (xs := nms ys) (r_v rfl) (by rw [nms_len]; exact hl) (fun v hv => by
    obtain ⟨x, _, rfl⟩ := nms_mem hv
    exact ⟨_, rfl, r_scp0 (r_blt (r_cons (r_v rfl) r_nil) rfl) rfl⟩)
  rw [all1] at q
  refine g_guard (t := false) (r_orf (r_not (d := true) (r_blt (r_cons (r_v rfl) r_nil) rfl)) (r_not (d := true) q)) (fun t => by cases t) fun _ => ?_
  have q2 := r_allP (C := runD D (n + 1)) (σ := [some (.tup (famP F)), some (.tup (nms ys)), none]) (s := ⟨s.g, s.size⟩) (e := .cmp .isin (.v 2) (.call 4 (.cons (.v 0) .nil))) (it := .v 1) (tg := .nm 2) (p := fun _ => true) (xs := nms ys) (r_v rfl) (by rw [nms_len]; exact hl) (fun v hv => by
    obtain ⟨x, hx, rfl⟩ := nms_mem hv
    have e := Fam.run (s := ⟨s.g, s.size⟩) h4 n hF
    exact ⟨_, rfl, r_scp (s := ⟨s.g, s.size⟩) (g := [.lst (nms us)]) (r_cmp (r_v rfl) (r_call (r_cons (r_v rfl) r_nil) e) ((c_in_nms (us := us) getE).trans (by rw [decide_eq_true (hy x hx)]))) rfl⟩)
  have a2 : (nms ys).all (fun _ => true) = true := by rw [List.all_eq_true]; intro _ _; rfl
  rw [a2] at q2
  exact ⟨_, r_rt (r_ret q2)⟩
include hy hl hF in
theorem require_log_run (h4 : D.lookup 4 = some x_names_of) (h8 : D.lookup 8 = some x_is_log_of) (h12 : D.lookup 12 = some x_require_log_of) (n : Nat) : runD D (n + 3) 12 [.tup (famP F), .tup (nms ys)] s = some (.non, s) :=
  r_run_nx h12 rfl (r_nx (r_iff (r_scp0 (r_not (r_call (r_cons (r_v rfl) (r_cons (r_v rfl) r_nil)) (is_log_of_run hy hl hF h4 h8 n))) rfl) r_bnil) r_bnil)
include hF in
theorem require_question_run (hD : HasQ D) (h11 : D.lookup 11 = some x_require_question) (n : Nat) {v d : PV} (h : deep s.g v = some d) (hz : sz d ≤ 900000) (hq : isQ us.length v = true) : runD D (n + 4) 11 [.tup (famP F), v] s = some (.non, s) := by
  have e := is_question_of_run hD n (s := ⟨s.g, s.size⟩) hF h hz
  rw [hq] at e
  have h0 : deep (⟨s.g, s.size⟩ : S).g v = some d := h
  exact r_run_nx h11 rfl (r_nx (r_iff (r_scp0 (r_not (r_call (r_cons (r_v rfl) (r_cons (r_v rfl) r_nil)) e)) rfl) r_bnil) r_bnil)
include hF in
theorem is_question_run (hD : HasQ D) (hD2 : HasF D) (h13 : D.lookup 13 = some x_is_question) (n : Nat) {v d : PV} (h : deep s.g v = some d) (hz : sz d ≤ 900000) : runD D (n + 5) 13 [.tup (famP F), v] s = some (.bl (isQ us.length v), s) := by
  have e := is_question_of_run hD (n + 1) (s := ⟨s.g, s.size⟩) hF h hz
  have e2 := require_family_ok hD2 n (s := ⟨s.g, s.size⟩) hF
  refine r_runB h13 rfl ⟨[], ?_⟩
  rw [List.append_nil]
  exact r_nx (r_ex (r_scp0 (r_call (r_cons (r_v rfl) r_nil) e2) rfl)) (r_rt (r_ret (r_call (r_cons (r_v rfl) (r_cons (r_v rfl) r_nil)) e)))
include Q hy hl hF in
theorem answer_to_run (hD : HasQ D) (hD2 : HasF D) (h8 : D.lookup 8 = some x_is_log_of) (h9 : D.lookup 9 = some x_find_end) (h10 : D.lookup 10 = some x_find_answer) (h11 : D.lookup 11 = some x_require_question) (h12 : D.lookup 12 = some x_require_log_of) (h14 : D.lookup 14 = some x_answer_to) (n : Nat) {d : PV} (h : deep s.g (qP as rows) = some d) (hz : sz d ≤ 900000) (hq : isQ us.length (qP as rows) = true) :
    runD D (n + 5) 14 [.tup (famP F), qP as rows, .tup (nms ys)] s = some (.bl (as.getD (endI rows us ys).toNat false), s) := by
  have e1 := require_family_ok hD2 n (s := ⟨s.g, s.size⟩) hF
  have e2 := require_question_run hF hD h11 n (s := ⟨s.g, s.size⟩) h hz hq
  have e3 := require_log_run hy hl hF hD.d4 h8 h12 (n + 1) (s := ⟨s.g, s.size⟩)
  have e4 := find_answer_run Q hy hl hF hD.d4 h9 h10 (n + 1) (s := ⟨s.g, s.size⟩)
  refine r_runB h14 rfl ⟨[], ?_⟩
  rw [List.append_nil]
  exact r_nx (r_ex (r_scp0 (r_call (r_cons (r_v rfl) r_nil) e1) rfl)) (r_nx (r_ex (r_scp0 (r_call (r_cons (r_v rfl) (r_cons (r_v rfl) r_nil)) e2) rfl)) (r_nx (r_ex (r_scp0 (r_call (r_cons (r_v rfl) (r_cons (r_v rfl) r_nil)) e3) rfl)) (r_rt (r_ret (r_call (r_cons (r_v rfl) (r_cons (r_v rfl) (r_cons (r_v rfl) r_nil))) e4)))))
end
end Ev

set_option linter.all false
set_option autoImplicit false
set_option maxRecDepth 100000
set_option maxHeartbeats 4000000
/-! Sy17: values with lists in them; _law_bent. -/
namespace Ev
open PySem
/-- the data of the lists of flat values in R -/
def lookR (R : List GO) (n : Nat) : Option PV :=
  if n < 3 then none else match R[n - 3]? with
    | some (.lst xs) => if rfs xs then some (.lv xs) else none
    | _ => none
abbrev Vd (R : List GO) (v d : PV) : Prop := deepW (lookR R) v = some d
theorem lookR_ex {R : List GO} {n : Nat} {d : PV} (h : lookR R n = some d) : ∃ m xs, n = m + 3 ∧ R[m]? = some (.lst xs) ∧ rfs xs = true ∧ d = .lv xs := by
  unfold lookR at h
  by_cases h3 : n < 3
  · rw [if_pos h3] at h
    cases h
  · rw [if_neg h3] at h
    cases q : R[n - 3]? with
    | none => rw [q] at h; cases h
    | some o =>
      rw [q] at h
      cases o with
      | lst xs =>
        simp only at h
        by_cases hr : rfs xs = true
        · rw [if_pos hr] at h
          cases h
          exact ⟨n - 3, xs, by omega, q, hr, rfl⟩
        · rw [if_neg hr] at h
          cases h
      | _ => cases h
theorem lookR_mk {R : List GO} {m : Nat} {xs : List PV} (h : R[m]? = some (.lst xs)) (hr : rfs xs = true) : lookR R (m + 3) = some (.lv xs) := by
  unfold lookR
  rw [if_neg (by omega), Nat.add_sub_cancel, h]
  simp only
  rw [if_pos hr]
mutual
theorem deep_cg {l1 l2 : Nat → Option PV} {n : Nat} (hl : ∀ m d, m < n → l1 m = some d → l2 m = some d) : ∀ (v : PV) {d : PV}, v.blw n = true → deepW l1 v = some d → deepW l2 v = some d
  | .non, _, _, h => h
  | .bl _, _, _, h => h
  | .int _, _, _, h => h
  | .str _, _, _, h => h
  | .ref m, d, hb, h => hl m d (of_decide_eq_true hb) h
  | .lv _, _, _, h => by cases h
  | .tup xs, d, hb, h => by
    obtain ⟨ds, hd, rfl⟩ := deep_tup h
    rw [deepW, deeps_cg hl xs hb hd]
    rfl
theorem deeps_cg {l1 l2 : Nat → Option PV} {n : Nat} (hl : ∀ m d, m < n → l1 m = some d → l2 m = some d) : ∀ (xs : List PV) {ds : List PV}, PV.blws n xs = true → deepsW l1 xs = some ds → deepsW l2 xs = some ds
  | [], _, _, h => h
  | x :: xs, ds, hb, h => by
    have hb' : (x.blw n && PV.blws n xs) = true := hb
    rw [Bool.and_eq_true] at hb'
    rw [deepsW] at h ⊢
    cases q : deepW l1 x with
    | none => rw [q] at h; cases h
    | some d =>
      rw [q] at h
      rw [deep_cg hl x hb'.1 q]
      cases q2 : deepsW l1 xs with
      | none => rw [q2] at h; cases h
      | some es =>
        rw [q2] at h
        simp only
        rw [deeps_cg hl xs hb'.2 q2]
        exact h
end
mutual
theorem rf_deep (look : Nat → Option PV) : ∀ v : PV, v.blw 0 = true → deepW look v = some v
  | .non, _ => rfl
  | .bl _, _ => rfl
  | .int _, _ => rfl
  | .str _, _ => rfl
  | .ref m, h => absurd (of_decide_eq_true (show decide (m < 0) = true from h)) (Nat.not_lt_zero _)
  | .lv _, h => by cases h
  | .tup xs, h => by
    rw [deepW, rfs_deep look xs h]
    rfl
theorem rfs_deep (look : Nat → Option PV) : ∀ xs : List PV, PV.blws 0 xs = true → deepsW look xs = some xs
  | [], _ => rfl
  | x :: xs, h => by
    have h' : (x.blw 0 && PV.blws 0 xs) = true := h
    rw [Bool.and_eq_true] at h'
    rw [deepsW, rf_deep look x h'.1]
    simp only
    rw [rfs_deep look xs h'.2]
end
theorem lookR_lt {R : List GO} {m : Nat} {d : PV} (h : lookR R m = some d) : m < R.length + 3 := by
  obtain ⟨m, xs, rfl, hg, _⟩ := lookR_ex h
  have := (List.getElem?_eq_some_iff.mp hg).1
  omega
section
variable {R j : List GO} {v d : PV}
theorem Vd.blw (h : Vd R v d) : v.blw (R.length + 3) = true := deep_blw (fun _ _ h => lookR_lt h) v h
theorem Vd.deep {c : Ct} {k seed : Int} {lo : Nat} (h : Vd R v d) : Ev.deep (G c k seed R lo).g v = some d := by
  refine deep_cg (n := R.length + 3) (fun m d _ hl => ?_) v h.blw h
  obtain ⟨m, xs, rfl, hg, hr, rfl⟩ := lookR_ex hl
  show (match (G c k seed R lo).g[m + 3]? with
    | some (.lst xs) => (deepsW (lookN (G c k seed R lo).g 7) xs).map PV.lv
    | some (.fix xs) => (deepsW (lookN (G c k seed R lo).g 7) xs).map PV.lv
    | _ => none) = _
  rw [show (G c k seed R lo).g[m + 3]? = some (.lst xs) from hg]
  simp only
  rw [rfs_deep _ xs hr]
  rfl
theorem Vd.app (h : Vd R v d) (j : List GO) : Vd (R ++ j) v d := by
  refine deep_cg (n := R.length + 3) (fun m d _ hl => ?_) v h.blw h
  obtain ⟨m, xs, rfl, hg, hr, rfl⟩ := lookR_ex hl
  exact lookR_mk (get_left hg) hr
theorem Vd.cut (h : Vd (R ++ j) v d) (hb : v.blw (R.length + 3) = true) : Vd R v d := by
  refine deep_cg (n := R.length + 3) (fun m d hm hl => ?_) v hb h
  obtain ⟨m, xs, rfl, hg, hr, rfl⟩ := lookR_ex hl
  rw [List.getElem?_append_left (by omega)] at hg
  exact lookR_mk hg hr
theorem Vd.rf (h : v.rf = true) : Vd R v v := rf_deep _ v h
end
theorem tidy_V {c : Ct} {R j : List GO} {v d : PV} {k seed : Int} {lo : Nat} (hv : Vd (R ++ j) v d) : ∃ j2 v2, tidy (R.length + 3) lo v (G c k seed (R ++ j) (R.length + 3)) = (v2, G c k seed (R ++ j2) lo) ∧ Vd (R ++ j2) v2 d := by
  unfold tidy
  rw [if_pos (show R.length + 3 ≤ (G c k seed (R ++ j) (R.length + 3)).lo from Nat.le_refl _)]
  have tk : (G c k seed (R ++ j) (R.length + 3)).g.take (R.length + 3) = (G c k seed R lo).g := by
    show _ :: _ :: _ :: (R ++ j).take R.length = _
    rw [List.take_left]
    rfl
  by_cases hb : v.blw (R.length + 3) = true
  · rw [if_pos hb, tk]
    exact ⟨[], v, by rw [List.append_nil]; rfl, by rw [List.append_nil]; exact hv.cut hb⟩
  · rw [if_neg hb]
    cases v with
    | ref m =>
      obtain ⟨m', xs, rfl, hg, hr, rfl⟩ := lookR_ex hv
      have hg' : (G c k seed (R ++ j) (R.length + 3)).g[m' + 3]? = some (.lst xs) := hg
      simp only [hg']
      rw [if_pos (PV.blws_mono (Nat.zero_le _) xs hr), tk]
      exact ⟨[.lst xs], .ref (R.length + 3), rfl, lookR_mk getE hr⟩
    | tup xs => exact ⟨j, .tup xs, rfl, hv⟩
    | lv _ => cases hv
    | _ => exact absurd rfl hb
theorem scp_V {c : Ct} {R j : List GO} {f : S → Option (PV × S)} {v d : PV} {k seed k' seed' : Int} {lo : Nat} (h : f (G c k seed R (R.length + 3)) = some (v, G c k' seed' (R ++ j) (R.length + 3))) (hv : Vd (R ++ j) v d) :
    ∃ j2 v2, scp f (G c k seed R lo) = some (v2, G c k' seed' (R ++ j2) lo) ∧ Vd (R ++ j2) v2 d := by
  obtain ⟨j2, v2, e, h2⟩ := tidy_V (c := c) (k := k') (seed := seed') (lo := lo) hv
  refine ⟨j2, v2, ?_, h2⟩
  unfold scp
  show (match f (G c k seed R (R.length + 3)) with
    | none => none
    | some r => some (tidy (R.length + 3) lo r.1 r.2)) = _
  rw [h]
  exact congrArg some e
theorem run_V {c : Ct} {R j : List GO} {D : List (Nat × Dfn)} {n f : Nat} {dd : Dfn} {vs : List PV} {v d : PV} {k seed k' seed' : Int} {lo : Nat} (hd : D.lookup f = some dd) (hl : vs.length = dd.np)
    (h : evB (runD D n) dd.body (vs.map some ++ List.replicate (dd.nl - dd.np) none) (G c k seed R (R.length + 3)) = some (.rt v, G c k' seed' (R ++ j) (R.length + 3))) (hv : Vd (R ++ j) v d) :
    ∃ j2 v2, runD D (n + 1) f vs (G c k seed R lo) = some (v2, G c k' seed' (R ++ j2) lo) ∧ Vd (R ++ j2) v2 d := by
  rw [runD, hd]
  simp only
  rw [if_pos hl]
  exact scp_V (j := j) (v := v) (by simp only [h]) hv
/-! ### leaves, sizes -/
def okInt (i : Int) : Bool := decide (-1 ≤ i ∧ i ≤ 100) || decide (i = 10 ^ 20)
def okStrs : List Sg := [] :: pool8
mutual
def okD : PV → Bool
  | .tup xs => okDs xs
  | .lv xs => okDs xs
  | .ref _ => false
  | .int i => okInt i
  | .str x => decide (x ∈ okStrs)
  | _ => true
def okDs : List PV → Bool
  | [] => true
  | x :: xs => okD x && okDs xs
end
theorem szs_app : ∀ xs ys : List PV, szs (xs ++ ys) = szs xs + szs ys
  | [], ys => by rw [List.nil_append, szs, Nat.zero_add]
  | x :: xs, ys => by rw [List.cons_append, szs, szs, szs_app xs ys, Nat.add_assoc]
theorem deps_app : ∀ xs ys : List PV, PV.deps (xs ++ ys) = max (PV.deps xs) (PV.deps ys)
  | [], ys => by rw [List.nil_append, PV.deps, Nat.zero_max]
  | x :: xs, ys => by rw [List.cons_append, PV.deps, PV.deps, deps_app xs ys, Nat.max_assoc]
theorem okDs_app : ∀ xs ys : List PV, okDs (xs ++ ys) = (okDs xs && okDs ys)
  | [], ys => by rw [List.nil_append, okDs, Bool.true_and]
  | x :: xs, ys => by rw [List.cons_append, okDs, okDs, okDs_app xs ys, Bool.and_assoc]
theorem rfs_app : ∀ xs ys : List PV, rfs (xs ++ ys) = (rfs xs && rfs ys)
  | [], ys => by
    show rfs ys = (true && rfs ys)
    rw [Bool.true_and]
  | x :: xs, ys => by
    show (x.rf && rfs (xs ++ ys)) = ((x.rf && rfs xs) && rfs ys)
    rw [rfs_app xs ys, Bool.and_assoc]
theorem okDs_mem : ∀ {xs : List PV}, okDs xs = true ↔ ∀ x ∈ xs, okD x = true
  | [] => ⟨(fun _ _ h => by cases h), fun _ => by rw [okDs]⟩
  | x :: xs => by
    rw [okDs, Bool.and_eq_true, okDs_mem (xs := xs)]
    constructor
    · rintro ⟨h1, h2⟩ y hy
      rcases List.mem_cons.mp hy with rfl | hy
      · exact h1
      · exact h2 y hy
    · intro h
      exact ⟨h x (List.mem_cons_self ..), fun y hy => h y (List.mem_cons_of_mem _ hy)⟩
theorem rfs_iff : ∀ {xs : List PV}, rfs xs = true ↔ ∀ x ∈ xs, x.rf = true
  | [] => ⟨(fun _ _ h => by cases h), fun _ => rfl⟩
  | x :: xs => by
    show (x.rf && rfs xs) = true ↔ _
    rw [Bool.and_eq_true, rfs_iff (xs := xs)]
    constructor
    · rintro ⟨h1, h2⟩ y hy
      rcases List.mem_cons.mp hy with rfl | hy
      · exact h1
      · exact h2 y hy
    · intro h
      exact ⟨h x (List.mem_cons_self ..), fun y hy => h y (List.mem_cons_of_mem _ hy)⟩
theorem deps_mem : ∀ {xs : List PV} {x : PV}, x ∈ xs → x.dep ≤ PV.deps xs
  | y :: xs, x, h => by
    rw [PV.deps]
    rcases List.mem_cons.mp h with rfl | h
    · omega
    · have := deps_mem h
      omega
/-- a part of a flat list -/
structure Part (xs ys : List PV) : Prop where
  rf : rfs ys = true
  ok : okDs ys = true
  sz : szs ys ≤ szs xs
  dep : PV.deps ys ≤ PV.deps xs
  len : ys.length ≤ xs.length
theorem szs_sub {xs ys : List PV} (h : ys.Sublist xs) : szs ys ≤ szs xs := by
  induction h with
  | slnil => exact Nat.le_refl _
  | cons a _ ih => rw [szs]; omega
  | cons_cons a _ ih => rw [szs, szs]; omega
theorem deps_sub {xs ys : List PV} (h : ys.Sublist xs) : PV.deps ys ≤ PV.deps xs := by
  induction h with
  | slnil => exact Nat.le_refl _
  | cons a _ ih => rw [PV.deps]; omega
  | cons_cons a _ ih => rw [PV.deps, PV.deps]; omega
theorem Part.of {xs ys : List PV} (h : ys.Sublist xs) (hr : rfs xs = true) (ho : okDs xs = true) : Part xs ys :=
  ⟨rfs_iff.mpr fun x hx => rfs_iff.mp hr x (h.subset hx), okDs_mem.mpr fun x hx => okDs_mem.mp ho x (h.subset hx), szs_sub h, deps_sub h, h.length_le⟩
theorem cut_sub (xs : List PV) (lo hi : Option Int) : (Ev.cut xs lo hi).Sublist xs := (List.take_sublist ..).trans (List.drop_sublist ..)
theorem deeps_app {look : Nat → Option PV} : ∀ {xs ys ds es : List PV}, deepsW look xs = some ds → deepsW look ys = some es → deepsW look (xs ++ ys) = some (ds ++ es)
  | [], ys, ds, es, h, h2 => by
    rw [deepsW] at h
    cases h
    exact h2
  | x :: xs, ys, ds, es, h, h2 => by
    rw [deepsW] at h
    cases q : deepW look x with
    | none => rw [q] at h; cases h
    | some d =>
      rw [q] at h
      cases q2 : deepsW look xs with
      | none => rw [q2] at h; cases h
      | some fs =>
        rw [q2] at h
        cases h
        rw [List.cons_append, deepsW, q]
        simp only
        rw [deeps_app q2 h2]
        rfl
theorem b_addT {xs ys : List PV} {s : S} (h : xs.length + ys.length ≤ line) : bop .add (.tup xs) (.tup ys) s = some (.tup (xs ++ ys), s) := by
  show (if xs.length + ys.length ≤ line then _ else _) = _
  rw [if_pos h]
theorem sl_T {xs : List PV} {lo hi : Option Int} {s : S} : slice (.tup xs) lo hi s = some (.tup (Ev.cut xs lo hi), s) := rfl
/-- data of a value, within bounds -/
structure Fine (R : List GO) (v : PV) (m p : Nat) : Prop where
  ex : ∃ d, Vd R v d ∧ okD d = true ∧ sz d ≤ m ∧ d.dep ≤ p
def x__law_bent : Dfn := ⟨2, 4, (.cons (.iff (.or (.not (.blt .isTuple (.cons (.v 1) .nil))) (.or (.cmp .eq (.v 1) (.tup .nil)) (.cmp .eq (.call 18 (.cons (.v 0) (.cons (.c (.int 7)) .nil))) (.c (.int 0))))) (.cons (.ret (.call 19 (.cons (.v 0) (.cons (.lst (.cons (.c .non) (.cons (.c (.int 0)) (.cons (.c (.int 1)) (.cons (.c (.int 2)) (.cons (.c (.int 5)) (.cons (.neg (.c (.int 1))) (.cons (.c (.bl true)) (.cons (.c (.bl false)) (.cons (.c (.str [97])) (.cons (.c (.str [])) (.cons (.tup .nil) (.cons (.lst .nil) (.cons (.tup (.cons (.c (.int 0)) .nil)) (.cons (.tup (.cons (.c (.bl true)) .nil)) (.cons (.tup (.cons (.tup .nil) .nil)) (.cons (.bin .pow (.c (.int 10)) (.c (.int 20))) (.cons (.c (.str [122, 122])) .nil)))))))))))))))))) .nil)))) .nil) .nil) (.cons (.asg (.tp [(.nm 2), (.nm 3)]) (.tup (.cons (.call 18 (.cons (.v 0) (.cons (.blt .len (.cons (.v 1) .nil)) .nil))) (.cons (.call 18 (.cons (.v 0) (.cons (.c (.int 8)) .nil))) .nil)))) (.cons (.iff (.cmp .eq (.v 3) (.c (.int 0))) (.cons (.ret (.bin .add (.sl (.v 1) .none (.some (.v 2))) (.sl (.v 1) (.some (.bin .add (.v 2) (.c (.int 1)))) .none))) .nil) .nil) (.cons (.iff (.cmp .eq (.v 3) (.c (.int 1))) (.cons (.ret (.bin .add (.v 1) (.sl (.v 1) (.some (.v 2)) (.some (.bin .add (.v 2) (.c (.int 1))))))) .nil) .nil) (.cons (.iff (.cmp .eq (.v 3) (.c (.int 2))) (.cons (.ret (.blt .list (.cons (.v 1) .nil))) .nil) .nil) (.cons (.ret (.bin .add (.bin .add (.sl (.v 1) .none (.some (.v 2))) (.tup (.cons (.call 27 (.cons (.v 0) (.cons (.idx (.v 1) (.v 2)) .nil))) .nil))) (.sl (.v 1) (.some (.bin .add (.v 2) (.c (.int 1)))) .none))) .nil))))))⟩
def leavesL : XL := (.cons (.c .non) (.cons (.c (.int 0)) (.cons (.c (.int 1)) (.cons (.c (.int 2)) (.cons (.c (.int 5)) (.cons (.neg (.c (.int 1))) (.cons (.c (.bl true)) (.cons (.c (.bl false)) (.cons (.c (.str [97])) (.cons (.c (.str [])) (.cons (.tup .nil) (.cons (.lst .nil) (.cons (.tup (.cons (.c (.int 0)) .nil)) (.cons (.tup (.cons (.c (.bl true)) .nil)) (.cons (.tup (.cons (.tup .nil) .nil)) (.cons (.bin .pow (.c (.int 10)) (.c (.int 20))) (.cons (.c (.str [122, 122])) .nil)))))))))))))))))
def leavesX : XE := .lst leavesL
def leavesP (r : Nat) : List PV := [.non, .int 0, .int 1, .int 2, .int 5, .int (-1), .bl true, .bl false, .str [97], .str [], .tup [], .ref r, .tup [.int 0], .tup [.bl true], .tup [.tup []], .int (10 ^ 20), .str [122, 122]]
section
variable {D : List (Nat × Dfn)} (hD : HasP D) (n : Nat) {c : Ct} {R : List GO}
include hD
theorem leaf_run {b : Nat} {k seed : Int} {σ : Env} {lo : Nat} (h0 : σ[0]? = some (some (.ref 2))) (h : Ok b k seed) (hb : b < 3000000000) :
    ∃ x k' seed' j, evE (runD D (n + 3)) (.call 19 (.cons (.v 0) (.cons leavesX .nil))) σ (G c k seed R lo) = some (x, G c k' seed' (R ++ j) lo) ∧ Fine (R ++ j) x 3 2 ∧ Ok (b + 1) k' seed' := by
  let R2 := (R ++ [GO.lst []]) ++ [GO.lst (leavesP (R.length + 3))]
  have kp : ∀ s : S, bop .pow (.int 10) (.int 20) s = some (.int (10 ^ 20), s) := fun s => b_pow (i := 10) (n := 20) (by decide) (by decide)
  have e0 : evE (runD D (n + 3)) (.lst .nil) σ (G c k seed R lo) = some (.ref (R.length + 3), G c k seed (R ++ [.lst []]) lo) := r_lst r_nil (Nat.zero_le _)
  have eL : evL (runD D (n + 3)) leavesL σ (G c k seed R lo) = some (leavesP (R.length + 3), G c k seed (R ++ [.lst []]) lo) := by
    unfold leavesP leavesL
    exact (r_cons r_c (r_cons r_c (r_cons r_c (r_cons r_c (r_cons r_c (r_cons (r_neg r_c) (r_cons r_c (r_cons r_c (r_cons r_c (r_cons r_c (r_cons (r_tup r_nil (Nat.zero_le _)) (r_cons e0 (r_cons (r_tup (r_cons r_c r_nil) (by show 1 ≤ line; decide)) (r_cons (r_tup (r_cons r_c r_nil) (by show 1 ≤ line; decide)) (r_cons (r_tup (r_cons (r_tup r_nil (Nat.zero_le _)) r_nil) (by show 1 ≤ line; decide)) (r_cons (r_bin r_c r_c (kp _)) (r_cons r_c r_nil)))))))))))))))))
  have e1 : evE (runD D (n + 3)) leavesX σ (G c k seed R lo) = some (.ref ((R ++ [GO.lst []]).length + 3), G c k seed R2 lo) := r_lst eL (by show 17 ≤ line; decide)
  have hR2 : R2[(R ++ [GO.lst []]).length]? = some (.lst (leavesP (R.length + 3))) := getE
  have l1 : (R ++ [GO.lst []]).length = R.length + 1 := by rw [List.length_append]; rfl
  have l2 : R2.length = R.length + 2 := by
    show ((R ++ [_]) ++ [_]).length = _
    rw [List.length_append, l1]
    rfl
  obtain ⟨x, k', seed', e, hx, ok⟩ := oneL_G (c := c) (rest := R2) (lo := lo) hD n h (by omega) hR2 (by unfold leavesP; exact List.cons_ne_nil _ _) (by show 17 < 2 ^ 62; decide) (by
    show (decide (R.length + 3 < R2.length + 3) && true) = true
    rw [decide_eq_true (by omega)]
    rfl)
  have e0 : R2 = R ++ [.lst [], .lst (leavesP (R.length + 3))] := by
    show (R ++ [_]) ++ [_] = _
    rw [List.append_assoc]
    rfl
  refine ⟨x, k', seed', [.lst [], .lst (leavesP (R.length + 3))], ?_, ⟨?_⟩, ok⟩
  · rw [← e0]
    exact r_call (r_cons (r_v h0) (r_cons e1 r_nil)) e
  · have g0 : (R ++ [GO.lst [], .lst (leavesP (R.length + 3))])[R.length]? = some (.lst []) := two_get0
    unfold leavesP at hx
    simp only [List.mem_cons, List.not_mem_nil, or_false] at hx
    rcases hx with rfl | rfl | rfl | rfl | rfl | rfl | rfl | rfl | rfl | rfl | rfl | rfl | rfl | rfl | rfl | rfl | rfl
    case inr.inr.inr.inr.inr.inr.inr.inr.inr.inr.inr.inl => exact ⟨.lv [], lookR_mk g0 rfl, by decide, by decide, by decide⟩
    all_goals exact ⟨_, Vd.rf rfl, by decide, by decide, by decide⟩
end
end Ev

set_option linter.all false
set_option autoImplicit false
set_option maxRecDepth 100000
set_option maxHeartbeats 4000000
/-! Sy18: _law_bent. -/
namespace Ev
open PySem
theorem Fine.le {R : List GO} {v : PV} {m p m' p' : Nat} (h : Fine R v m p) (hm : m ≤ m') (hp : p ≤ p') : Fine R v m' p' := by
  obtain ⟨d, a, b, c, e⟩ := h.ex
  exact ⟨d, a, b, by omega, by omega⟩
theorem Fine.app {R : List GO} {v : PV} {m p : Nat} (h : Fine R v m p) (j : List GO) : Fine (R ++ j) v m p := by
  obtain ⟨d, a, b, c, e⟩ := h.ex
  exact ⟨d, a.app j, b, c, e⟩
theorem run_F {c : Ct} {R j : List GO} {D : List (Nat × Dfn)} {n f : Nat} {dd : Dfn} {vs : List PV} {v : PV} {m p : Nat} {k seed k' seed' : Int} {lo : Nat} (hd : D.lookup f = some dd) (hl : vs.length = dd.np)
    (h : evB (runD D n) dd.body (vs.map some ++ List.replicate (dd.nl - dd.np) none) (G c k seed R (R.length + 3)) = some (.rt v, G c k' seed' (R ++ j) (R.length + 3))) (hv : Fine (R ++ j) v m p) :
    ∃ j2 v2, runD D (n + 1) f vs (G c k seed R lo) = some (v2, G c k' seed' (R ++ j2) lo) ∧ Fine (R ++ j2) v2 m p := by
  obtain ⟨d, a, b, e, g⟩ := hv.ex
  obtain ⟨j2, v2, h2, h3⟩ := run_V hd hl h a
  exact ⟨j2, v2, h2, ⟨d, h3, b, e, g⟩⟩
/-- a flat value -/
theorem fine_flat {R : List GO} {v : PV} {m p : Nat} (hr : v.rf = true) (ho : okD v = true) (hm : sz v ≤ m) (hp : v.dep ≤ p) : Fine R v m p := ⟨v, Vd.rf hr, ho, hm, hp⟩
theorem eq_nil {xs : List PV} {s : S} (hr : rfs xs = true) : cop .eq (.tup xs) (.tup []) s = some xs.isEmpty := by
  show eqD s.g (.tup xs) (.tup []) = _
  unfold eqD
  rw [show deep s.g (.tup xs) = some (.tup xs) from rf_deep _ (.tup xs) hr, show deep s.g (.tup []) = some (.tup []) from rfl]
  simp only
  rw [if_pos (Nat.le_trans (Nat.min_le_right _ _) (by decide))]
  cases xs <;> rfl
section
variable {D : List (Nat × Dfn)} (hD : HasP D) (h27 : D.lookup 27 = some x__law_bent) (n : Nat) {c : Ct} {R : List GO}
include hD h27
theorem bent_step {M w b : Nat} {v : PV} {k seed : Int} {lo : Nat} (hr : v.rf = true) (ho : okD v = true) (hz : sz v ≤ 1000) (hok : Ok b k seed) (hb : b < 900000000)
    (IH : ∀ xs, v = .tup xs → ∀ x ∈ xs, ∀ {b' : Nat} {k seed : Int} {lo : Nat}, Ok b' k seed → b' ≤ b + 3 → ∃ x' j k' seed', runD D (n + 3) 27 [.ref 2, x] (G c k seed R lo) = some (x', G c k' seed' (R ++ j) lo) ∧ Fine (R ++ j) x' M (x.dep + 2) ∧ Ok (b' + w) k' seed') :
    ∃ v' j k' seed', runD D (n + 4) 27 [.ref 2, v] (G c k seed R lo) = some (v', G c k' seed' (R ++ j) lo) ∧ Fine (R ++ j) v' (2 * sz v + 3 + M) (v.dep + 2) ∧ Ok (b + w + 4) k' seed' := by
  let z := R.length + 3
  let σ : Env := [some (.ref 2), some v, none, none]
  have main : ∃ v' j k' seed', evB (runD D (n + 3)) x__law_bent.body σ (G c k seed R z) = some (.rt v', G c k' seed' (R ++ j) z) ∧ Fine (R ++ j) v' (2 * sz v + 3 + M) (v.dep + 2) ∧ Ok (b + w + 4) k' seed' := by
    have sv := sz_pos v
    have kT : evE (runD D (n + 3)) (.not (.blt .isTuple (.cons (.v 1) .nil))) σ (G c k seed R z) = some (.bl (!isT v), G c k seed R z) := r_not (r_blt (r_cons (r_v rfl) r_nil) (b_isT (Vd.deep (R := R) (Vd.rf hr))))
    have leaf : ∀ {k1 seed1 : Int} {b1 : Nat}, Ok b1 k1 seed1 → b1 ≤ b + 1 → scp (evE (runD D (n + 3)) (.or (.not (.blt .isTuple (.cons (.v 1) .nil))) (.or (.cmp .eq (.v 1) (.tup .nil)) (.cmp .eq (.call 18 (.cons (.v 0) (.cons (.c (.int 7)) .nil))) (.c (.int 0))))) σ) (G c k seed R z) = some (.bl true, G c k1 seed1 R z) →
        ∃ v' j k' seed', evB (runD D (n + 3)) x__law_bent.body σ (G c k seed R z) = some (.rt v', G c k' seed' (R ++ j) z) ∧ Fine (R ++ j) v' (2 * sz v + 3 + M) (v.dep + 2) ∧ Ok (b + w + 4) k' seed' := by
      intro k1 seed1 b1 ok1 hb1 ht
      obtain ⟨x, k', seed', j, e, F, ok⟩ := leaf_run hD n (c := c) (R := R) (σ := σ) (lo := z) rfl ok1 (by omega)
      exact ⟨x, j, k', seed', r_rt (r_ift ht (r_rt (r_ret e))), F.le (by omega) (by omega), ok.le (by omega)⟩
    by_cases hT : isT v = true
    · obtain ⟨xs, rfl⟩ := isT_ex hT
      have hrs : rfs xs = true := hr
      have hos : okDs xs = true := by rw [okD] at ho; exact ho
      have hzx : sz (.tup xs) = szs xs + 1 := by rw [sz]
      have hdx : (PV.tup xs).dep = PV.deps xs + 1 := by rw [PV.dep]
      have hlen := szs_len xs
      have kE : evE (runD D (n + 3)) (.cmp .eq (.v 1) (.tup .nil)) σ (G c k seed R z) = some (.bl xs.isEmpty, G c k seed R z) := r_cmp (r_v rfl) (r_tup r_nil (Nat.zero_le _)) (eq_nil hrs)
      by_cases hE : xs = []
      · have hne : xs.isEmpty = true := by rw [hE]; rfl
        rw [hne] at kE
        exact leaf hok (by omega) (scp_G0 (r_orf kT (r_ort kE)) rfl)
      · have hne : xs.isEmpty = false := by
          cases xs with
          | nil => exact absurd rfl hE
          | cons _ _ => rfl
        rw [hne] at kE
        have hpos : 0 < xs.length := List.length_pos_iff.mpr hE
        obtain ⟨r, k1, seed1, e1, r0, r1, ok1⟩ := take_G (c := c) (rest := R) (lo := z) hD (n + 1) (many := 7) hok (by omega) (by omega) (by omega)
        have kR : evE (runD D (n + 3)) (.or (.not (.blt .isTuple (.cons (.v 1) .nil))) (.or (.cmp .eq (.v 1) (.tup .nil)) (.cmp .eq (.call 18 (.cons (.v 0) (.cons (.c (.int 7)) .nil))) (.c (.int 0))))) σ (G c k seed R z) = some (.bl (decide (r = 0)), G c k1 seed1 R z) :=
          r_orf kT (r_orf kE (r_cmp (r_call (r_cons (r_v rfl) (r_cons r_c r_nil)) e1) r_c c_eq))
        by_cases hr0 : r = 0
        · rw [decide_eq_true hr0] at kR
          exact leaf ok1 (Nat.le_refl _) (scp_G0 kR rfl)
        · rw [decide_eq_false hr0] at kR
          obtain ⟨a', k2, seed2, e2, a0, a1, ok2⟩ := take_G (c := c) (rest := R) (lo := z) hD (n + 1) (many := (xs.length : Int)) ok1 (by omega) (by omega) (by omega)
          obtain ⟨a, rfl⟩ : ∃ a : Nat, a' = a := ⟨a'.toNat, by omega⟩
          obtain ⟨t, k3, seed3, e3, t0, t1, ok3⟩ := take_G (c := c) (rest := R) (lo := z) hD (n + 1) (many := 8) ok2 (by omega) (by omega) (by omega)
          let σ3 : Env := [some (.ref 2), some (.tup xs), some (.int a), some (.int t)]
          have s1 : evS (runD D (n + 3)) (.asg (.tp [(.nm 2), (.nm 3)]) (.tup (.cons (.call 18 (.cons (.v 0) (.cons (.blt .len (.cons (.v 1) .nil)) .nil))) (.cons (.call 18 (.cons (.v 0) (.cons (.c (.int 8)) .nil))) .nil)))) σ (G c k1 seed1 R z) = some (.nx σ3, G c k3 seed3 R z) :=
            r_asg (scp_G0 (r_tup (r_cons (r_call (r_cons (r_v rfl) (r_cons (r_blt (r_cons (r_v rfl) r_nil) b_lenT) r_nil)) e2) (r_cons (r_call (r_cons (r_v rfl) (r_cons r_c r_nil)) e3) r_nil)) (by show 2 ≤ line; decide)) rfl) rfl
          have tst : ∀ i : Int, scp (evE (runD D (n + 3)) (.cmp .eq (.v 3) (.c (.int i))) σ3) (G c k3 seed3 R z) = some (.bl (decide (t = i)), G c k3 seed3 R z) := fun i => scp_G0 (r_cmp (r_v rfl) r_c c_eq) rfl
          have P1 := Part.of (cut_sub xs none (some (a : Int))) hrs hos
          have P2 := Part.of (cut_sub xs (some ((a : Int) + 1)) none) hrs hos
          have P3 := Part.of (cut_sub xs (some (a : Int)) (some ((a : Int) + 1))) hrs hos
          have k4 : evE (runD D (n + 3)) (.sl (.v 1) .none (.some (.v 2))) σ3 (G c k3 seed3 R z) = some (.tup (Ev.cut xs none (some (a : Int))), G c k3 seed3 R z) := r_sl (r_v rfl) r_on (r_os (r_v rfl)) sl_T
          have k5 : ∀ {s : S}, evE (runD D (n + 3)) (.sl (.v 1) (.some (.bin .add (.v 2) (.c (.int 1)))) .none) σ3 s = some (.tup (Ev.cut xs (some ((a : Int) + 1)) none), s) := r_sl (r_v rfl) (r_os (r_bin (r_v rfl) r_c b_add)) r_on sl_T
          have k6 : evE (runD D (n + 3)) (.sl (.v 1) (.some (.v 2)) (.some (.bin .add (.v 2) (.c (.int 1))))) σ3 (G c k3 seed3 R z) = some (.tup (Ev.cut xs (some (a : Int)) (some ((a : Int) + 1))), G c k3 seed3 R z) := r_sl (r_v rfl) (r_os (r_v rfl)) (r_os (r_bin (r_v rfl) r_c b_add)) sl_T
          have ll : ∀ i : Nat, i ≤ 3000 → i ≤ line := fun i h => Nat.le_trans h (by decide)
          have fine2 : ∀ {ys zs : List PV}, Part xs ys → Part xs zs → Fine (R ++ []) (.tup (ys ++ zs)) (2 * sz (.tup xs) + 3 + M) ((PV.tup xs).dep + 2) := fun {ys zs} p q =>
            fine_flat (by show rfs (ys ++ zs) = true; rw [rfs_app, p.rf, q.rf]; rfl) (by rw [okD, okDs_app, p.ok, q.ok]; rfl) (by have := p.sz; have := q.sz; rw [sz, szs_app]; omega) (by have := p.dep; have := q.dep; rw [PV.dep, deps_app]; omega)
          have pxs : Part xs xs := Part.of (List.Sublist.refl _) hrs hos
          have nil : R ++ [] = R := List.append_nil R
          have i1 : evS (runD D (n + 3)) (.iff (.or (.not (.blt .isTuple (.cons (.v 1) .nil))) (.or (.cmp .eq (.v 1) (.tup .nil)) (.cmp .eq (.call 18 (.cons (.v 0) (.cons (.c (.int 7)) .nil))) (.c (.int 0))))) (.cons (.ret (.call 19 (.cons (.v 0) (.cons leavesX .nil)))) .nil) .nil) σ (G c k seed R z) = some (.nx σ, G c k1 seed1 R z) := r_iff (scp_G0 kR rfl) r_bnil
          by_cases h0 : t = 0
          · exact ⟨_, [], k3, seed3, by rw [nil]; exact r_nx i1 (r_nx s1 (r_rt (r_ift ((tst 0).trans (by rw [decide_eq_true h0])) (r_rt (r_ret (r_bin k4 k5 (b_addT (ll _ (by have := P1.len; have := P2.len; omega))))))))), fine2 P1 P2, ok3.le (by omega)⟩
          · have i2 : ∀ {A B : XB} {q : Option (Out × S)}, evB (runD D (n + 3)) B σ3 (G c k3 seed3 R z) = q → evB (runD D (n + 3)) (.cons (.iff (.cmp .eq (.v 3) (.c (.int 0))) A .nil) B) σ3 (G c k3 seed3 R z) = q := fun h => r_nx (r_iff ((tst 0).trans (by rw [decide_eq_false h0])) r_bnil) h
            by_cases h1 : t = 1
            · exact ⟨_, [], k3, seed3, by rw [nil]; exact r_nx i1 (r_nx s1 (i2 (r_rt (r_ift ((tst 1).trans (by rw [decide_eq_true h1])) (r_rt (r_ret (r_bin (r_v rfl) k6 (b_addT (ll _ (by have := P3.len; omega)))))))))), fine2 pxs P3, ok3.le (by omega)⟩
            · have i3 : ∀ {A B : XB} {q : Option (Out × S)}, evB (runD D (n + 3)) B σ3 (G c k3 seed3 R z) = q → evB (runD D (n + 3)) (.cons (.iff (.cmp .eq (.v 3) (.c (.int 1))) A .nil) B) σ3 (G c k3 seed3 R z) = q := fun h => r_nx (r_iff ((tst 1).trans (by rw [decide_eq_false h1])) r_bnil) h
              by_cases h2 : t = 2
              · refine ⟨.ref (R.length + 3), [.lst xs], k3, seed3, r_nx i1 (r_nx s1 (i2 (i3 (r_rt (r_ift ((tst 2).trans (by rw [decide_eq_true h2])) (r_rt (r_ret (r_blt (r_cons (r_v rfl) r_nil) (b_list (s := G c k3 seed3 R z) (xs := xs) rfl))))))))), ⟨.lv xs, lookR_mk getE hrs, ?_, ?_, ?_⟩, ok3.le (by omega)⟩
                · rw [okD]; exact hos
                · have : sz (.lv xs) = szs xs + 1 := by rw [sz]
                  omega
                · have : (PV.lv xs).dep = PV.deps xs + 1 := by rw [PV.dep]
                  omega
              · have i4 : ∀ {A B : XB} {q : Option (Out × S)}, evB (runD D (n + 3)) B σ3 (G c k3 seed3 R z) = q → evB (runD D (n + 3)) (.cons (.iff (.cmp .eq (.v 3) (.c (.int 2))) A .nil) B) σ3 (G c k3 seed3 R z) = q := fun h => r_nx (r_iff ((tst 2).trans (by rw [decide_eq_false h2])) r_bnil) h
                have ha : a < xs.length := by omega
                obtain ⟨x', j, k4', seed4, e4, F, ok4⟩ := IH xs rfl xs[a] (List.getElem_mem ha) (lo := z) ok3 (by omega)
                have ki : evE (runD D (n + 3)) (.idx (.v 1) (.v 2)) σ3 (G c k3 seed3 R z) = some (xs[a], G c k3 seed3 R z) := r_idx (r_v rfl) (r_v rfl) ((at_ok (by omega) (by omega)).trans (by rw [Int.toNat_natCast, List.getElem?_eq_getElem ha]))
                refine ⟨.tup ((Ev.cut xs none (some (a : Int)) ++ [x']) ++ Ev.cut xs (some ((a : Int) + 1)) none), j, k4', seed4, r_nx i1 (r_nx s1 (i2 (i3 (i4 (r_rt (r_ret (r_bin (r_bin k4 (r_tup (r_cons (r_call (r_cons (r_v rfl) (r_cons ki r_nil)) e4) r_nil) (by show 1 ≤ line; decide)) (b_addT (ll _ (by have := P1.len; show _ + 1 ≤ 3000; omega)))) k5 (b_addT (ll _ (by have := P1.len; have := P2.len; rw [List.length_append]; show _ + 1 + _ ≤ 3000; omega)))))))))), ?_, ok4.le (by omega)⟩
                obtain ⟨d, hd, od, zd, pd⟩ := F.ex
                have one : deepsW (lookR (R ++ j)) [x'] = some [d] := by
                  rw [deepsW, hd]
                  rfl
                have dx := deps_mem (List.getElem_mem ha)
                refine ⟨.tup ((Ev.cut xs none (some (a : Int)) ++ [d]) ++ Ev.cut xs (some ((a : Int) + 1)) none), ?_, ?_, ?_, ?_⟩
                · show deepW _ _ = _
                  rw [deepW, deeps_app (deeps_app (rfs_deep _ _ P1.rf) one) (rfs_deep _ _ P2.rf)]
                  rfl
                · rw [okD, okDs_app, okDs_app, P1.ok, P2.ok]
                  simp only [okDs, od]
                  rfl
                · have := P1.sz
                  have := P2.sz
                  rw [sz, szs_app, szs_app]
                  simp only [szs]
                  omega
                · have := P1.dep
                  have := P2.dep
                  rw [PV.dep, deps_app, deps_app]
                  simp only [PV.deps]
                  omega
    · have hT' : isT v = false := by simpa using hT
      rw [hT'] at kT
      exact leaf hok (by omega) (scp_G0 (r_ort kT) rfl)
  obtain ⟨v1, j1, k', seed', e, F, ok⟩ := main
  obtain ⟨j2, v2, e2, F2⟩ := run_F (c := c) (R := R) (j := j1) (lo := lo) (vs := [.ref 2, v]) h27 rfl e F
  exact ⟨v2, j2, k', seed', e2, F2, ok⟩
theorem bent_run : ∀ (N : Nat) {b : Nat} {v : PV} {k seed : Int} {R : List GO} {lo : Nat}, v.dep ≤ N → v.rf = true → okD v = true → sz v ≤ 100 → Ok b k seed → b + 4 * N < 900000000 →
    ∃ v' j k' seed', runD D (n + N + 4) 27 [.ref 2, v] (G c k seed R lo) = some (v', G c k' seed' (R ++ j) lo) ∧ Fine (R ++ j) v' ((2 * 100 + 3) * (N + 1)) (v.dep + 2) ∧ Ok (b + 4 * (N + 1)) k' seed'
  | 0, b, v, k, seed, R, lo, hp, hr, ho, hz, hok, hb => by
    obtain ⟨v', j, k', seed', e, F, ok⟩ := bent_step hD h27 n (c := c) (R := R) (lo := lo) (M := 0) (w := 0) hr ho (by omega) hok (by omega) (by
      intro xs hx
      subst hx
      rw [PV.dep] at hp
      omega)
    exact ⟨v', j, k', seed', e, F.le (by omega) (Nat.le_refl _), ok.le (by omega)⟩
  | N + 1, b, v, k, seed, R, lo, hp, hr, ho, hz, hok, hb => by
    obtain ⟨v', j, k', seed', e, F, ok⟩ := bent_step hD h27 (n + N + 1) (c := c) (R := R) (lo := lo) (M := (2 * 100 + 3) * (N + 1)) (w := 4 * (N + 1)) hr ho (by omega) hok (by omega) (by
      intro xs hx x hxs b' k seed lo hok hb'
      subst hx
      rw [PV.dep] at hp
      have dx := deps_mem hxs
      have sx := szs_mem hxs
      rw [sz] at hz
      exact bent_run N (by omega) (rfs_iff.mp hr x hxs) (okDs_mem.mp (by rw [okD] at ho; exact ho) x hxs) (by omega) hok (by omega))
    exact ⟨v', j, k', seed', e, F.le (by rw [Nat.mul_add (2 * 100 + 3) (N + 1) 1]; omega) (Nat.le_refl _), ok.le (by omega)⟩
end
end Ev

set_option linter.all false
set_option autoImplicit false
set_option maxRecDepth 100000
set_option maxHeartbeats 4000000
/-! Sy19: flat values, their size; lists of values. -/
namespace Ev
open PySem
structure Fl (v : PV) (m p : Nat) : Prop where
  rf : v.rf = true
  ok : okD v = true
  sz : Ev.sz v ≤ m
  dep : v.dep ≤ p
structure FlL (xs : List PV) (m p : Nat) : Prop where
  rf : rfs xs = true
  ok : okDs xs = true
  sz : szs xs ≤ m
  dep : PV.deps xs ≤ p
theorem Fl.fine {R : List GO} {v : PV} {m p : Nat} (h : Fl v m p) : Fine R v m p := fine_flat h.rf h.ok h.sz h.dep
theorem Fl.le {v : PV} {m p m' p' : Nat} (h : Fl v m p) (hm : m ≤ m') (hp : p ≤ p') : Fl v m' p' := ⟨h.rf, h.ok, Nat.le_trans h.sz hm, Nat.le_trans h.dep hp⟩
theorem FlL.le {v : List PV} {m p m' p' : Nat} (h : FlL v m p) (hm : m ≤ m') (hp : p ≤ p') : FlL v m' p' := ⟨h.rf, h.ok, Nat.le_trans h.sz hm, Nat.le_trans h.dep hp⟩
theorem FlL.nil {p : Nat} : FlL [] 0 p := ⟨rfl, by rw [okDs], by rw [szs]; omega, by rw [PV.deps]; omega⟩
theorem FlL.cons {x : PV} {xs : List PV} {m m' p : Nat} (h : Fl x m p) (h2 : FlL xs m' p) : FlL (x :: xs) (m + m') p :=
  ⟨by show (x.rf && rfs xs) = true; rw [h.rf, h2.rf]; rfl, by rw [okDs, h.ok, h2.ok]; rfl, by rw [szs]; have := h.sz; have := h2.sz; omega, by rw [PV.deps]; have := h.dep; have := h2.dep; omega⟩
theorem FlL.app {xs ys : List PV} {m m' p : Nat} (h : FlL xs m p) (h2 : FlL ys m' p) : FlL (xs ++ ys) (m + m') p :=
  ⟨by rw [rfs_app, h.rf, h2.rf]; rfl, by rw [okDs_app, h.ok, h2.ok]; rfl, by rw [szs_app]; have := h.sz; have := h2.sz; omega, by rw [deps_app]; have := h.dep; have := h2.dep; omega⟩
theorem FlL.rep {xs : List PV} {m p : Nat} (h : FlL xs m p) : ∀ k : Nat, FlL (Ev.rep k xs) (k * m) p
  | 0 => by
    rw [Nat.zero_mul]
    exact FlL.nil
  | k + 1 => by
    have e : Ev.rep (k + 1) xs = xs ++ Ev.rep k xs := by
      unfold Ev.rep
      rw [List.replicate_succ, List.flatten_cons]
    rw [e, Nat.add_mul, Nat.one_mul, Nat.add_comm (k * m)]
    exact h.app (h.rep k)
theorem Fl.tup {xs : List PV} {m p : Nat} (h : FlL xs m p) : Fl (.tup xs) (m + 1) (p + 1) :=
  ⟨h.rf, by rw [okD]; exact h.ok, by rw [Ev.sz]; have := h.sz; omega, by rw [PV.dep]; have := h.dep; omega⟩
theorem Fl.bl {b : Bool} {p : Nat} : Fl (.bl b) 1 p := ⟨rfl, rfl, by show 1 ≤ 1; omega, Nat.zero_le _⟩
theorem Fl.non {p : Nat} : Fl .non 1 p := ⟨rfl, rfl, by show 1 ≤ 1; omega, Nat.zero_le _⟩
theorem Fl.int {i : Int} {p : Nat} (h0 : -1 ≤ i) (h1 : i ≤ 100) : Fl (.int i) 1 p := ⟨rfl, by rw [okD]; unfold okInt; rw [decide_eq_true ⟨h0, h1⟩]; rfl, by show 1 ≤ 1; omega, Nat.zero_le _⟩
theorem fl_bls : ∀ as : List Bool, FlL (bls as) as.length 0
  | [] => FlL.nil
  | a :: as => by
    rw [List.length_cons, Nat.add_comm]
    exact FlL.cons Fl.bl (fl_bls as)
theorem fl_ivs : ∀ {r : List Int}, (∀ i ∈ r, -1 ≤ i ∧ i ≤ 100) → FlL (ivs r) r.length 0
  | [], _ => FlL.nil
  | a :: as, h => by
    rw [List.length_cons, Nat.add_comm]
    have := h a (List.mem_cons_self ..)
    exact FlL.cons (Fl.int this.1 this.2) (fl_ivs fun i hi => h i (List.mem_cons_of_mem _ hi))
theorem fl_rows {w : Nat} : ∀ {rows : List (List Int)}, (∀ r ∈ rows, r.length = w ∧ ∀ i ∈ r, -1 ≤ i ∧ i ≤ 100) → FlL (rowsP rows) (rows.length * (w + 1)) 1
  | [], _ => by
    show FlL [] (0 * (w + 1)) 1
    rw [Nat.zero_mul]
    exact FlL.nil
  | r :: rows, h => by
    have h1 := h r (List.mem_cons_self ..)
    rw [List.length_cons, Nat.add_mul, Nat.one_mul, Nat.add_comm (rows.length * _)]
    have := Fl.tup (fl_ivs h1.2)
    rw [h1.1] at this
    exact FlL.cons this (fl_rows fun i hi => h i (List.mem_cons_of_mem _ hi))
theorem b_mulT {xs : List PV} {k : Nat} {s : S} (h : xs ≠ []) (h1 : 1 ≤ k) (h2 : k ≤ 1000) (h3 : xs.length ≤ 1000) : bop .mul (.tup xs) (.int (k : Int)) s = some (.tup (Ev.rep k xs), s) := by
  show (if (!xs.isEmpty) = true ∧ 1 ≤ (k : Int) ∧ (k : Int) ≤ 1000 ∧ xs.length ≤ 1000 then some (PV.tup (Ev.rep (k : Int).toNat xs), s) else none) = _
  rw [if_pos ⟨by cases xs with
    | nil => exact absurd rfl h
    | cons _ _ => rfl, by omega, by omega, h3⟩, Int.toNat_natCast]
/-- a list with new parts stays, and they with it -/
theorem r_scpKL {f : S → Option (PV × S)} {s : S} {g : List GO} {xs : List PV} {m : Nat} (h : f ⟨s.g, s.size⟩ = some (.ref m, ⟨g, s.size⟩)) (hm : s.size ≤ m) (hg : g[m]? = some (.lst xs)) (hx : PV.blws s.size xs = false) : scp f s = some (.ref m, ⟨g, s.lo⟩) := by
  unfold scp
  rw [h]
  simp only
  unfold tidy
  rw [if_pos (Nat.le_refl _), if_neg (by
    unfold PV.blw
    rw [decide_eq_false (Nat.not_lt.mpr hm)]
    exact Bool.false_ne_true)]
  simp only [hg]
  rw [hx]
  rfl
theorem scp_GKL {c : Ct} {R j : List GO} {f : S → Option (PV × S)} {k seed k' seed' : Int} {lo : Nat} {xs : List PV} {m : Nat} (h : f (G c k seed R (R.length + 3)) = some (.ref (m + 3), G c k' seed' (R ++ j) (R.length + 3))) (hm : R.length ≤ m) (hg : (R ++ j)[m]? = some (.lst xs)) (hx : PV.blws (R.length + 3) xs = false) :
    scp f (G c k seed R lo) = some (.ref (m + 3), G c k' seed' (R ++ j) lo) :=
  r_scpKL (s := G c k seed R lo) (g := (G c k' seed' (R ++ j) lo).g) h (by show R.length + 3 ≤ m + 3; omega) hg hx
/-- a def's run: a list of values comes back -/
theorem run_LV {c : Ct} {R j : List GO} {D : List (Nat × Dfn)} {n f m : Nat} {dd : Dfn} {ws vs : List PV} {M p : Nat} {k seed k' seed' : Int} {lo : Nat} (hd : D.lookup f = some dd) (hl : ws.length = dd.np)
    (h : evB (runD D n) dd.body (ws.map some ++ List.replicate (dd.nl - dd.np) none) (G c k seed R (R.length + 3)) = some (.rt (.ref (m + 3)), G c k' seed' (R ++ j) (R.length + 3))) (hm : R.length ≤ m) (hg : (R ++ j)[m]? = some (.lst vs)) (hv : ∀ v ∈ vs, Fine (R ++ j) v M p) :
    ∃ j2 q, runD D (n + 1) f ws (G c k seed R lo) = some (.ref (q + 3), G c k' seed' (R ++ j2) lo) ∧ (R ++ j2)[q]? = some (.lst vs) ∧ ∀ v ∈ vs, Fine (R ++ j2) v M p := by
  have tk : (G c k' seed' (R ++ j) (R.length + 3)).g.take (R.length + 3) = (G c k' seed' R lo).g := by
    show _ :: _ :: _ :: (R ++ j).take R.length = _
    rw [List.take_left]
    rfl
  have hg' : (G c k' seed' (R ++ j) (R.length + 3)).g[m + 3]? = some (.lst vs) := hg
  by_cases hb : PV.blws (R.length + 3) vs = true
  · refine ⟨[.lst vs], R.length, ?_, getE, fun v hvs => ?_⟩
    · rw [runD, hd]
      simp only
      rw [if_pos hl]
      exact scp_GL (c := c) (R := R) (lo := lo) (j := j) (m := m) (by simp only [h]) hm hg hb
    · obtain ⟨d, a, b, e, g⟩ := (hv v hvs).ex
      have hb2 : v.blw (R.length + 3) = true := by
        clear h hg hv tk hg' a
        induction vs with
        | nil => cases hvs
        | cons x vs ih =>
          have hb' : (x.blw (R.length + 3) && PV.blws (R.length + 3) vs) = true := hb
          rw [Bool.and_eq_true] at hb'
          rcases List.mem_cons.mp hvs with rfl | hvs
          · exact hb'.1
          · exact ih hb'.2 hvs
      exact ⟨d, (a.cut hb2).app _, b, e, g⟩
  · refine ⟨j, m, ?_, hg, hv⟩
    rw [runD, hd]
    simp only
    rw [if_pos hl]
    exact scp_GKL (j := j) (m := m) (by simp only [h]) hm hg (by simpa using hb)
end Ev

set_option linter.all false
set_option autoImplicit false
set_option maxRecDepth 100000
set_option maxHeartbeats 4000000
set_option Elab.async false
/-! Sy21: repr: how long the text is. -/
namespace Ev
open PySem
theorem leaf_strs : ∀ x ∈ okStrs, (reprP (.str x)).length ≤ 30 := by decide +kernel
def okInts : List Int := 10 ^ 20 :: (List.range 102).map fun (k : Nat) => (k : Int) - 1
theorem leaf_ints : ∀ i ∈ okInts, (reprP (.int i)).length ≤ 30 ∧ i.natAbs.log2 < 1920 := by decide +kernel
theorem leaf_else : (reprP .non).length ≤ 30 ∧ (reprP (.bl true)).length ≤ 30 ∧ (reprP (.bl false)).length ≤ 30 := by decide +kernel
theorem okI_mem {i : Int} (h : okInt i = true) : i ∈ okInts := by
  unfold okInt at h
  rcases Bool.or_eq_true_iff.mp h with h | h
  · have := of_decide_eq_true h
    exact List.mem_cons_of_mem _ (List.mem_map.mpr ⟨(i + 1).toNat, List.mem_range.mpr (by omega), by omega⟩)
  · rw [of_decide_eq_true h]
    exact List.mem_cons_self ..
def sumL (ts : List Str) : Nat := (ts.map fun t => t.length + 2).sum
theorem textFrom_le : ∀ (ts : List Str) (k : Nat) (acc : Str), (textFrom k acc ts).length ≤ acc.length + sumL ts
  | [], _, _ => Nat.le_refl _
  | t :: ts, k, acc => by
    unfold textFrom
    have h := textFrom_le ts (k + 1) (acc ++ (if k > 0 then ", " else "" : String) ++ t)
    have e : (acc ++ (if k > 0 then ", " else "" : String) ++ t).length ≤ acc.length + 2 + t.length := by
      rw [strLen_append, strLen_append]
      have : ((if k > 0 then ", " else "" : String) : Str).length ≤ 2 := by
        by_cases q : k > 0
        · rw [if_pos q]; decide
        · rw [if_neg q]; decide
      omega
    have : sumL (t :: ts) = t.length + 2 + sumL ts := rfl
    omega
theorem join_le : ∀ ts : List Str, (Str.join ", " ts).length ≤ sumL ts
  | [] => Nat.zero_le _
  | [x] => by
    show x.length ≤ x.length + 2 + 0
    omega
  | x :: y :: r => by
    show (x ++ ", " ++ Str.join ", " (y :: r)).length ≤ x.length + 2 + sumL (y :: r)
    have := join_le (y :: r)
    have e2 : ((", " : String) : Str).length = 2 := rfl
    rw [strLen_append, strLen_append, e2]
    omega
theorem cps_len (x : Str) : x.cps.toList.length = x.length := by
  show _ = x.cps.size
  rw [Array.length_toList]
mutual
theorem repr_le : ∀ d : PV, okD d = true → (PyData.shown (toD d)).length + 2 ≤ 40 * sz d ∧ showP d = true
  | .non, _ => by
    have := leaf_else.1
    unfold reprP at this
    rw [cps_len] at this
    exact ⟨by show _ ≤ 40 * 1; omega, rfl⟩
  | .bl b, _ => by
    have h1 := leaf_else.2.1
    have h2 := leaf_else.2.2
    unfold reprP at h1 h2
    rw [cps_len] at h1 h2
    refine ⟨?_, rfl⟩
    show _ ≤ 40 * 1
    cases b <;> omega
  | .int i, h => by
    have := leaf_ints i (okI_mem h)
    unfold reprP at this
    rw [cps_len] at this
    exact ⟨by show _ ≤ 40 * 1; omega, decide_eq_true this.2⟩
  | .str x, h => by
    have := leaf_strs x (of_decide_eq_true h)
    unfold reprP at this
    rw [cps_len] at this
    exact ⟨by show _ ≤ 40 * 1; omega, rfl⟩
  | .ref _, h => by cases h
  | .tup xs, h => by
    have ⟨h1, h2⟩ := reprs_le xs (by rw [okD] at h; exact h)
    refine ⟨?_, by rw [showP]; exact h2⟩
    show (tupleText (PyData.shownAll (toDs xs))).length + 2 ≤ _
    have := join_le (PyData.shownAll (toDs xs))
    unfold tupleText
    have e3 : ((if (PyData.shownAll (toDs xs)).length == 1 then ",)" else ")" : String) : Str).length ≤ 2 := by
      cases (PyData.shownAll (toDs xs)).length == 1 <;> decide
    have e4 : (("(" : String) : Str).length = 1 := rfl
    rw [strLen_append, strLen_append, sz]
    omega
  | .lv xs, h => by
    have ⟨h1, h2⟩ := reprs_le xs (by rw [okD] at h; exact h)
    refine ⟨?_, by rw [showP]; exact h2⟩
    show (listText (PyData.shownAll (toDs xs))).length + 2 ≤ _
    have := textFrom_le (PyData.shownAll (toDs xs)) 0 "["
    unfold listText
    have e3 : (("]" : String) : Str).length = 1 := rfl
    have e4 : (("[" : String) : Str).length = 1 := rfl
    rw [strLen_append, sz]
    omega
theorem reprs_le : ∀ ds : List PV, okDs ds = true → sumL (PyData.shownAll (toDs ds)) ≤ 40 * szs ds ∧ showPs ds = true
  | [], _ => ⟨Nat.zero_le _, rfl⟩
  | d :: ds, h => by
    rw [okDs, Bool.and_eq_true] at h
    have h1 := repr_le d h.1
    have h2 := reprs_le ds h.2
    refine ⟨?_, by rw [showPs, h1.2, h2.2]; rfl⟩
    show (PyData.shown (toD d)).length + 2 + sumL (PyData.shownAll (toDs ds)) ≤ _
    rw [szs]
    omega
end
theorem b_repr {s : S} {v d : PV} (h : deep s.g v = some d) (ho : okD d = true) (hz : sz d ≤ 100000) (hp : d.dep ≤ 60) : blt .repr [v] s = some (.str (reprP d), s) := by
  have ⟨h1, h2⟩ := repr_le d ho
  have e : (reprP d).length ≤ line := by
    unfold reprP
    rw [cps_len]
    show _ ≤ 16777216
    omega
  show bRepr [v] s = _
  unfold bRepr
  simp only [h]
  rw [if_pos (by rw [h2, decide_eq_true hp, decide_eq_true e]; rfl)]
end Ev

set_option linter.all false
set_option autoImplicit false
set_option maxRecDepth 100000
set_option maxHeartbeats 4000000
/-! Sy20: _law_values. -/
namespace Ev
open PySem
def x__law_values : Dfn := ⟨3, 8, (.cons (.asg (.nm 3) (.blt .len (.cons (.v 1) .nil))) (.cons (.asg (.nm 4) (.lst (.cons (.v 2) (.cons (.rev (.v 2)) (.cons (.blt .list (.cons (.v 2) .nil)) (.cons (.bin .add (.v 2) (.tup (.cons (.tup .nil) .nil))) (.cons (.tup (.cons (.tup .nil) (.cons (.tup .nil) .nil))) (.cons (.tup (.cons (.idx (.v 2) (.c (.int 0))) (.cons (.tup .nil) .nil))) (.cons (.c .non) .nil))))))))) (.cons (.for (.nm 5) (.seq (.tup (.cons (.c (.int 60)) (.cons (.c (.int 61)) .nil)))) (.cons (.ex (.mth .append (.v 4) (.cons (.tup (.cons (.bin .mul (.tup (.cons (.c (.bl false)) .nil)) (.v 5)) (.cons (.bin .mul (.tup (.cons (.bin .mul (.tup (.cons (.bin .sub (.v 5) (.c (.int 1))) .nil)) (.v 3)) .nil)) (.v 5)) .nil))) .nil))) .nil) [5]) (.cons (.asg (.nm 4) (.bin .add (.v 4) (.lst (.cons (.tup (.cons (.idx (.v 2) (.c (.int 0))) (.cons (.blt .tuple (.cons (.lc (.bin .add (.v 7) (.tup (.cons (.c (.int 0)) .nil))) (.nm 7) (.seq (.idx (.v 2) (.c (.int 1)))) .none) .nil)) .nil))) (.cons (.tup (.cons (.tup (.cons (.c (.int 0)) (.cons (.c (.int 1)) .nil))) (.cons (.idx (.v 2) (.c (.int 1))) .nil))) .nil))))) (.cons (.asg (.nm 4) (.bin .add (.v 4) (.lst (.cons (.tup (.cons (.bin .add (.idx (.v 2) (.c (.int 0))) (.tup (.cons (.c (.bl true)) .nil))) (.cons (.idx (.v 2) (.c (.int 1))) .nil))) (.cons (.tup (.cons (.tup (.cons (.c (.bl true)) .nil)) (.cons (.tup (.cons (.bin .mul (.tup (.cons (.c (.bl false)) .nil)) (.v 3)) .nil)) .nil))) (.cons (.tup (.cons (.tup (.cons (.c (.bl true)) .nil)) (.cons (.tup (.cons (.bin .mul (.tup (.cons (.c (.int 1)) .nil)) (.v 3)) .nil)) .nil))) .nil)))))) (.cons (.ret (.bin .add (.v 4) (.lc (.call 27 (.cons (.v 0) (.cons (.v 2) .nil))) (.nm 6) (.rng (.c (.int 12))) .none))) .nil))))))⟩
def bigP (w m : Nat) : PV := .tup [.tup (Ev.rep m [.bl false]), .tup (Ev.rep m [.tup (Ev.rep w [.int ((m : Int) - 1)])])]
def some0 (A B : PV) (r : Nat) : List PV := [.tup [A, B], .tup [B, A], .ref r, .tup [A, B, .tup []], .tup [.tup [], .tup []], .tup [A, .tup []], .non]
def some1 (B2 A B : PV) : List PV := [.tup [A, B2], .tup [.tup [.int 0, .int 1], B]]
def some2 (as : List Bool) (B : PV) (w : Nat) : List PV := [.tup [.tup (bls as ++ [.bl true]), B], .tup [.tup [.bl true], .tup [.tup (Ev.rep w [.bl false])]], .tup [.tup [.bl true], .tup [.tup (Ev.rep w [.int 1])]]]
def add0 (rows : List (List Int)) : List (List Int) := rows.map fun r => r ++ [0]
def add0P : PV → PV
  | .tup xs => .tup (xs ++ [.int 0])
  | v => v
theorem add0_map : ∀ rows : List (List Int), (rowsP rows).map add0P = rowsP (add0 rows)
  | [] => rfl
  | r :: rows => by
    have e : ivs r ++ [.int 0] = ivs (r ++ [0]) := by
      unfold ivs
      rw [List.map_append]
      rfl
    show add0P (.tup (ivs r)) :: (rowsP rows).map add0P = _
    rw [add0_map rows]
    show PV.tup (ivs r ++ [.int 0]) :: _ = _
    rw [e]
    rfl
section
variable {D : List (Nat × Dfn)} (hD : HasP D) (h27 : D.lookup 27 = some x__law_bent) {c : Ct}
include hD h27
/-- twelve bent values -/
theorem bents_run {b : Nat} {k seed : Int} {R : List GO} {lo : Nat} {σ : Env} {q : PV} (n : Nat) (h0 : σ[0]? = some (some (.ref 2))) (h2 : σ[2]? = some (some q)) (h6 : σ.length = 8) (hp : q.dep ≤ 3) (hr : q.rf = true) (ho : okD q = true) (hz : sz q ≤ 100) (hok : Ok b k seed) (hb : b < 800000000) :
    ∃ acc k' seed' j, evE (runD D (n + 7)) (.lc (.call 27 (.cons (.v 0) (.cons (.v 2) .nil))) (.nm 6) (.rng (.c (.int 12))) .none) σ (G c k seed R lo) = some (.ref ((R ++ j).length + 3), G c k' seed' ((R ++ j) ++ [.lst acc]) lo) ∧ acc.length = 12 ∧ (∀ x ∈ acc, Fine (R ++ j) x 1000 5) ∧ Ok (b + 200) k' seed' := by
  obtain ⟨acc, s', hl, k', seed', j, rfl, hlen, hP, ok⟩ := lc_go (get := fun s i => IT.get s (.vals (rangeV 0 ((12 : Nat) : Int))) i) (turn := lcTurn (.nm 6) (wipeE σ [6]) (fun σ s => evT (runD D (n + 7)) .none σ s) (fun σ s => evE (runD D (n + 7)) (.call 27 (.cons (.v 0) (.cons (.v 2) .nil))) σ s)) (n := 12)
    (P := fun i acc s => ∃ k' seed' j, s = G c k' seed' (R ++ j) lo ∧ acc.length = i ∧ (∀ x ∈ acc, Fine (R ++ j) x 1000 5) ∧ Ok (b + i * 16) k' seed')
    (by
      rintro i acc s hi ⟨k', seed', j, rfl, hlen, hP, ok⟩
      obtain ⟨x, j2, k2, seed2, e, F, ok2⟩ := bent_run hD h27 n (c := c) 3 (R := R ++ j) (lo := (R ++ j).length + 3) (v := q) hp hr ho hz ok (by omega)
      have e' : runD D (n + 7) 27 [.ref 2, q] (G c k' seed' (R ++ j) ((R ++ j).length + 3)) = some (x, G c k2 seed2 ((R ++ j) ++ j2) ((R ++ j).length + 3)) := e
      obtain ⟨d, a1, a2, a3, a4⟩ := F.ex
      have w0 : (wipeE σ [6]).set 6 (some (PV.int i)) = (wipeE σ [6]).set 6 (some (PV.int i)) := rfl
      have g0 : ((wipeE σ [6]).set 6 (some (PV.int i)))[0]? = some (some (.ref 2)) := by
        show ((σ.set 6 none).set 6 _)[0]? = _
        rw [List.getElem?_set_ne (by decide), List.getElem?_set_ne (by decide), h0]
      have g2 : ((wipeE σ [6]).set 6 (some (PV.int i)))[2]? = some (some q) := by
        show ((σ.set 6 none).set 6 _)[2]? = _
        rw [List.getElem?_set_ne (by decide), List.getElem?_set_ne (by decide), h2]
      obtain ⟨j3, x3, e3, V3⟩ := scp_V (c := c) (R := R ++ j) (lo := lo) (f := evE (runD D (n + 7)) (.call 27 (.cons (.v 0) (.cons (.v 2) .nil))) ((wipeE σ [6]).set 6 (some (PV.int i)))) (r_call (r_cons (r_v g0) (r_cons (r_v g2) r_nil)) e') a1
      refine ⟨.int i, [x3], G c k2 seed2 ((R ++ j) ++ j3) lo, ?_, turn_lc rfl t_none e3, k2, seed2, j ++ j3, by rw [List.append_assoc], by rw [List.length_append, hlen]; rfl, ?_, ok2.le (by omega)⟩
      · show some (rangeV 0 ((12 : Nat) : Int))[i]? = _
        rw [range_at hi]
      · rw [← List.append_assoc]
        intro y hy
        rcases List.mem_append.mp hy with hy | hy
        · exact (hP y hy).app _
        · rw [List.mem_singleton.mp hy]
          exact ⟨d, V3, a2, by omega, by omega⟩)
    (by
      rintro acc s _
      show some (rangeV 0 ((12 : Nat) : Int))[12]? = _
      rw [List.getElem?_eq_none (by rw [range_len]; exact Nat.le_refl _)])
    fuel 0 [] (G c k seed R lo) (by show _ < 1000000; omega) (Nat.zero_le _) ⟨k, seed, [], by rw [List.append_nil], rfl, (fun x hx => by cases hx), hok.le (by omega)⟩
  refine ⟨acc, k', seed', j, ?_, hlen, hP, ok.le (by omega)⟩
  exact r_lc (i_rng r_c (by decide)) hl (by rw [hlen]; show 12 ≤ 16777216; omega)
end
end Ev

set_option linter.all false
set_option autoImplicit false
set_option maxRecDepth 100000
set_option maxHeartbeats 4000000
/-! Sy22: _law_values, its run. -/
namespace Ev
open PySem
def vL1 : XL := (.cons (.v 2) (.cons (.rev (.v 2)) (.cons (.blt .list (.cons (.v 2) .nil)) (.cons (.bin .add (.v 2) (.tup (.cons (.tup .nil) .nil))) (.cons (.tup (.cons (.tup .nil) (.cons (.tup .nil) .nil))) (.cons (.tup (.cons (.idx (.v 2) (.c (.int 0))) (.cons (.tup .nil) .nil))) (.cons (.c .non) .nil)))))))
def vB : XB := (.cons (.ex (.mth .append (.v 4) (.cons (.tup (.cons (.bin .mul (.tup (.cons (.c (.bl false)) .nil)) (.v 5)) (.cons (.bin .mul (.tup (.cons (.bin .mul (.tup (.cons (.bin .sub (.v 5) (.c (.int 1))) .nil)) (.v 3)) .nil)) (.v 5)) .nil))) .nil))) .nil)
def vL3 : XL := (.cons (.tup (.cons (.idx (.v 2) (.c (.int 0))) (.cons (.blt .tuple (.cons (.lc (.bin .add (.v 7) (.tup (.cons (.c (.int 0)) .nil))) (.nm 7) (.seq (.idx (.v 2) (.c (.int 1)))) .none) .nil)) .nil))) (.cons (.tup (.cons (.tup (.cons (.c (.int 0)) (.cons (.c (.int 1)) .nil))) (.cons (.idx (.v 2) (.c (.int 1))) .nil))) .nil))
def vL4 : XL := (.cons (.tup (.cons (.bin .add (.idx (.v 2) (.c (.int 0))) (.tup (.cons (.c (.bl true)) .nil))) (.cons (.idx (.v 2) (.c (.int 1))) .nil))) (.cons (.tup (.cons (.tup (.cons (.c (.bl true)) .nil)) (.cons (.tup (.cons (.bin .mul (.tup (.cons (.c (.bl false)) .nil)) (.v 3)) .nil)) .nil))) (.cons (.tup (.cons (.tup (.cons (.c (.bl true)) .nil)) (.cons (.tup (.cons (.bin .mul (.tup (.cons (.c (.int 1)) .nil)) (.v 3)) .nil)) .nil))) .nil)))
theorem three {R : List GO} {a b c : GO} : ((R ++ [a]) ++ [b]) ++ [c] = R ++ [a, b, c] := by
  rw [List.append_assoc, List.append_assoc]
  rfl
theorem two {R : List GO} {a b : GO} : (R ++ [a]) ++ [b] = R ++ [a, b] := by
  rw [List.append_assoc]
  rfl
theorem one_len {R : List GO} {a : GO} : (R ++ [a]).length = R.length + 1 := by
  rw [List.length_append]
  rfl
theorem three_get {R : List GO} {a b c : GO} : (R ++ [a, b, c])[R.length + 2]? = some c := by
  rw [List.getElem?_append_right (by omega), Nat.add_sub_cancel_left]
  rfl
theorem b_addG {c : Ct} {k seed : Int} {R : List GO} {lo n m : Nat} {xs ys : List PV} (h1 : R[n]? = some (.lst xs)) (h2 : R[m]? = some (.lst ys)) (hl : xs.length + ys.length ≤ line) : bop .add (.ref (n + 3)) (.ref (m + 3)) (G c k seed R lo) = some (.ref (R.length + 3), G c k seed (R ++ [.lst (xs ++ ys)]) lo) :=
  b_addL (s := G c k seed R lo) h1 h2 hl
theorem Fine.blw {R : List GO} {v : PV} {m p : Nat} (h : Fine R v m p) : v.blw (R.length + 3) = true := by
  obtain ⟨d, a, _⟩ := h.ex
  exact a.blw
section
variable {most : Nat} {as : List Bool} {rows : List (List Int)} {w : Nat} (Q : Qn w most as rows) (hm8 : most ≤ 8) (hw : w ≤ 8) (hw0 : 1 ≤ w)
include Q hm8 in
theorem fl_A : Fl (.tup (bls as)) 9 1 := (Fl.tup (fl_bls as)).le (by have := Q.lm; omega) (Nat.le_refl _)
include Q hm8 hw in
theorem fl_B : Fl (.tup (rowsP rows)) 73 2 := by
  refine (Fl.tup (fl_rows (w := w) fun r hr => ?_)).le ?_ (Nat.le_refl _)
  · have := Q.row r hr
    exact ⟨this.1, fun i hi => by have := this.2 i hi; have := Q.lm; omega⟩
  · rw [Q.len]
    have := Nat.mul_le_mul (show as.length ≤ 8 by have := Q.lm; omega) (show w + 1 ≤ 9 by omega)
    omega
include Q hm8 hw in
theorem fl_B2 : Fl (.tup (rowsP (add0 rows))) 81 2 := by
  refine (Fl.tup (fl_rows (w := w + 1) fun r hr => ?_)).le ?_ (Nat.le_refl _)
  · obtain ⟨r0, hr0, rfl⟩ := List.mem_map.mp hr
    have := Q.row r0 hr0
    refine ⟨by rw [List.length_append, this.1]; rfl, fun i hi => ?_⟩
    rcases List.mem_append.mp hi with hi | hi
    · have := this.2 i hi
      have := Q.lm
      omega
    · rw [List.mem_singleton.mp hi]
      omega
  · have e : (add0 rows).length = rows.length := List.length_map ..
    rw [e, Q.len]
    have := Nat.mul_le_mul (show as.length ≤ 8 by have := Q.lm; omega) (show w + 1 + 1 ≤ 10 by omega)
    omega
include hw in
theorem fl_big {m : Nat} (h1 : 1 ≤ m) (h2 : m ≤ 61) : Fl (bigP w m) 1000 3 := by
  have a : Fl (.tup (Ev.rep m [.bl false])) (m * 1 + 1) 1 := Fl.tup ((FlL.cons Fl.bl FlL.nil : FlL [.bl false] (1 + 0) 0).rep m)
  have b : Fl (.tup (Ev.rep w [.int ((m : Int) - 1)])) (w * 1 + 1) 1 := Fl.tup ((FlL.cons (Fl.int (by omega) (by omega)) FlL.nil : FlL [.int ((m : Int) - 1)] (1 + 0) 0).rep w)
  have b2 : Fl (.tup (Ev.rep m [.tup (Ev.rep w [.int ((m : Int) - 1)])])) (m * (w * 1 + 1 + 0) + 1) 2 := Fl.tup ((FlL.cons b FlL.nil).rep m)
  have := Nat.mul_le_mul h2 (show w * 1 + 1 + 0 ≤ 9 by omega)
  exact (Fl.tup (FlL.cons (a.le (Nat.le_refl _) (by omega)) (FlL.cons b2 FlL.nil))).le (by omega) (by omega)
theorem fl_e {p : Nat} : Fl (.tup []) 1 (p + 1) := Fl.tup FlL.nil
theorem fl2 {x y : PV} {m m' p : Nat} (a : Fl x m p) (b : Fl y m' p) : Fl (.tup [x, y]) (m + (m' + 0) + 1) (p + 1) := Fl.tup (FlL.cons a (FlL.cons b FlL.nil))
include Q hm8 hw in
theorem fl_some1 : ∀ v ∈ some1 (.tup (rowsP (add0 rows))) (.tup (bls as)) (.tup (rowsP rows)), Fl v 1000 5 := by
  have a := fl_A Q hm8
  have b := fl_B Q hm8 hw
  have b2 := fl_B2 Q hm8 hw
  intro v hv
  unfold some1 at hv
  simp only [List.mem_cons, List.not_mem_nil, or_false] at hv
  rcases hv with rfl | rfl
  · exact (fl2 (a.le (Nat.le_refl _) (by omega)) b2).le (by omega) (by omega)
  · exact (fl2 ((fl2 (p := 0) (Fl.int (by omega) (by omega)) (Fl.int (by omega) (by omega))).le (Nat.le_refl _) (by omega)) b).le (by omega) (by omega)
include Q hm8 hw in
theorem fl_some2 : ∀ v ∈ some2 as (.tup (rowsP rows)) w, Fl v 1000 5 := by
  have a := fl_A Q hm8
  have b := fl_B Q hm8 hw
  have t1 : Fl (.tup [.bl true]) (1 + 0 + 1) (0 + 1) := Fl.tup (FlL.cons (p := 0) Fl.bl FlL.nil)
  have q1 : Fl (.tup (Ev.rep w [.bl false])) (w * (1 + 0) + 1) (0 + 1) := Fl.tup ((FlL.cons (m' := 0) Fl.bl FlL.nil).rep w)
  have q2 : Fl (.tup (Ev.rep w [.int 1])) (w * (1 + 0) + 1) (0 + 1) := Fl.tup ((FlL.cons (m' := 0) (Fl.int (by omega) (by omega)) FlL.nil).rep w)
  have r1 := Fl.tup (FlL.cons q1 FlL.nil)
  have r2 := Fl.tup (FlL.cons q2 FlL.nil)
  intro v hv
  unfold some2 at hv
  simp only [List.mem_cons, List.not_mem_nil, or_false] at hv
  rcases hv with rfl | rfl | rfl
  · have x : Fl (.tup (bls as ++ [.bl true])) (as.length + (1 + 0) + 1) 1 := Fl.tup ((fl_bls as).app (FlL.cons Fl.bl FlL.nil))
    exact (fl2 (x.le (Nat.le_refl _) (by omega)) b).le (by have := Q.lm; omega) (by omega)
  · exact (fl2 (t1.le (Nat.le_refl _) (by omega)) r1).le (by omega) (by omega)
  · exact (fl2 (t1.le (Nat.le_refl _) (by omega)) r2).le (by omega) (by omega)
include Q hm8 hw in
theorem fine_some0 {R : List GO} {x : GO} : ∀ v ∈ some0 (.tup (bls as)) (.tup (rowsP rows)) (R.length + 3), Fine (R ++ [.lst [.tup (bls as), .tup (rowsP rows)], x]) v 1000 5 := by
  have a := (fl_A Q hm8).le (p' := 2) (Nat.le_refl _) (by omega)
  have b := fl_B Q hm8 hw
  intro v hv
  unfold some0 at hv
  simp only [List.mem_cons, List.not_mem_nil, or_false] at hv
  rcases hv with rfl | rfl | rfl | rfl | rfl | rfl | rfl
  · exact ((fl2 a b).le (by omega) (by omega)).fine
  · exact ((fl2 b a).le (by omega) (by omega)).fine
  · have l : FlL [.tup (bls as), .tup (rowsP rows)] (9 + (73 + 0)) 2 := FlL.cons a (FlL.cons b FlL.nil)
    exact ⟨.lv [.tup (bls as), .tup (rowsP rows)], lookR_mk two_get0 l.rf, by rw [okD]; exact l.ok, by rw [sz]; have := l.sz; omega, by rw [PV.dep]; have := l.dep; omega⟩
  · exact ((Fl.tup (FlL.cons a (FlL.cons b (FlL.cons fl_e FlL.nil)))).le (by omega) (by omega)).fine
  · exact ((fl2 (p := 1) fl_e fl_e).le (by omega) (by omega)).fine
  · exact ((fl2 a fl_e).le (by omega) (by omega)).fine
  · exact ((Fl.non (p := 0)).le (by omega) (by omega)).fine
end
end Ev

set_option linter.all false
set_option autoImplicit false
set_option maxRecDepth 100000
set_option maxHeartbeats 4000000
/-! Sy23: _law_values, its run. -/
namespace Ev
open PySem
def bigs (w : Nat) : List PV := [bigP w 60, bigP w 61]
theorem values_run {D : List (Nat × Dfn)} (hD : HasP D) (h27 : D.lookup 27 = some x__law_bent) (h29 : D.lookup 29 = some x__law_values) (n : Nat) {c : Ct} {b : Nat} {k seed : Int} {rest : List GO} {lo m most : Nat} {us : List Sg} {as : List Bool} {rows : List (List Int)}
    (Q : Qn us.length most as rows) (hm8 : most ≤ 8) (hu8 : us.length ≤ 8) (hu1 : 1 ≤ us.length) (hm : rest[m]? = some (.lst (nms us))) (hok : Ok b k seed) (hb : b < 700000000) :
    ∃ vs k' seed' j q, runD D (n + 8) 29 [.ref 2, .ref (m + 3), qP as rows] (G c k seed rest lo) = some (.ref (q + 3), G c k' seed' (rest ++ j) lo) ∧ (rest ++ j)[q]? = some (.lst vs) ∧ (∀ v ∈ vs, Fine (rest ++ j) v 1000 5) ∧ vs.length ≤ 100 ∧ Ok (b + 200) k' seed' := by
  let w := us.length
  let A : PV := .tup (bls as)
  let B : PV := .tup (rowsP rows)
  let B2 : PV := .tup (rowsP (add0 rows))
  let z := rest.length + 3
  let L0 := some0 A B z
  let L1 := L0 ++ bigs w
  let L2 := L1 ++ some1 B2 A B
  let L3 := L2 ++ some2 as B w
  let R1 := fun L : List PV => rest ++ [GO.lst [A, B], .lst L]
  have lR1 : ∀ L, (R1 L).length = rest.length + 2 := fun L => len2
  let R2 := R1 L1 ++ [GO.lst L2]
  have lR2 : R2.length = rest.length + 3 := one_len.trans (by rw [lR1])
  let R3 := R2 ++ [GO.lst L3]
  have lR3 : R3.length = rest.length + 4 := one_len.trans (by rw [lR2])
  let C := runD D (n + 7)
  let q := qP as rows
  let σa : Env := [some (.ref 2), some (.ref (m + 3)), some q, none, none, none, none, none]
  let σb : Env := [some (.ref 2), some (.ref (m + 3)), some q, some (.int w), none, none, none, none]
  let σc : Nat → Env := fun i => [some (.ref 2), some (.ref (m + 3)), some q, some (.int w), some (.ref (i + 3)), none, none, none]
  have line2 : 2 ≤ line := by decide
  have hbl : ∀ i, i < rest.length + 2 → envBlw (rest.length + 5) (σc i) = true := fun i hi => by
    have hmz : m < rest.length := (List.getElem?_eq_some_iff.mp hm).1
    show (decide (2 < rest.length + 5) && (decide (m + 3 < rest.length + 5) && (q.blw _ && (true && (decide (i + 3 < rest.length + 5) && true))))) = true
    rw [decide_eq_true (by omega), decide_eq_true (by omega), decide_eq_true (by omega), show q.blw _ = true from qP_blw _ _ _]
    rfl
  -- wide
  have e1 : scp (evE C (.blt .len (.cons (.v 1) .nil)) σa) (G c k seed rest z) = some (.int w, G c k seed rest z) := by
    have := b_len (s := G c k seed rest (rest.length + 3)) (c := m + 3) (xs := nms us) hm
    rw [nms_len] at this
    exact scp_G0 (r_blt (r_cons (r_v rfl) r_nil) this) rfl
  -- some
  have eL1 : evL C vL1 σb (G c k seed rest z) = some (L0, G c k seed (rest ++ [.lst [A, B]]) z) := by
    have h3 : evE C (.blt .list (.cons (.v 2) .nil)) σb (G c k seed rest z) = some (.ref z, G c k seed (rest ++ [.lst [A, B]]) z) := r_blt (r_cons (r_v rfl) r_nil) (b_list (s := G c k seed rest z) (xs := [A, B]) rfl)
    have h4 : evE C (.bin .add (.v 2) (.tup (.cons (.tup .nil) .nil))) σb (G c k seed (rest ++ [.lst [A, B]]) z) = some (.tup [A, B, .tup []], G c k seed (rest ++ [.lst [A, B]]) z) := r_bin (r_v rfl) (r_tup (r_cons (r_tup r_nil (Nat.zero_le _)) r_nil) (by show 1 ≤ line; decide)) (b_addT (xs := [A, B]) (ys := [.tup []]) (by show 3 ≤ line; decide))
    have h2 : evE C (.rev (.v 2)) σb (G c k seed rest z) = some (.tup [B, A], G c k seed rest z) := r_rev (xs := [A, B]) (r_v rfl)
    have h5 : ∀ {s : S}, evE C (.tup .nil) σb s = some (.tup [], s) := r_tup r_nil (Nat.zero_le _)
    have h6 : ∀ {s : S}, evE C (.idx (.v 2) (.c (.int 0))) σb s = some (A, s) := r_idx (r_v rfl) r_c rfl
    exact r_cons (r_v rfl) (r_cons h2 (r_cons h3 (r_cons h4 (r_cons (r_tup (r_cons h5 (r_cons h5 r_nil)) line2) (r_cons (r_tup (r_cons h6 (r_cons h5 r_nil)) line2) (r_cons r_c r_nil))))))
  have e2 : scp (evE C (.lst vL1) σb) (G c k seed rest z) = some (.ref (rest.length + 1 + 3), G c k seed (R1 L0) z) := by
    have q1 : evE C (.lst vL1) σb (G c k seed rest z) = some (.ref ((rest ++ [GO.lst [A, B]]).length + 3), G c k seed ((rest ++ [GO.lst [A, B]]) ++ [.lst L0]) z) := r_lst eL1 (by show 7 ≤ line; decide)
    rw [two, one_len] at q1
    refine scp_GKL (j := [.lst [A, B], .lst L0]) (m := rest.length + 1) q1 (by omega) two_get1 ?_
    show (_ && (_ && (decide (rest.length + 3 < rest.length + 3) && _))) = false
    rw [decide_eq_false (Nat.lt_irrefl _), Bool.false_and, Bool.and_false, Bool.and_false]
  -- the two big ones
  obtain ⟨σ', s', hl, rfl, rfl⟩ := for_go (get := fun s i => IT.get s (.vals [.int 60, .int 61]) i) (turn := forTurn (.nm 5) [5] (fun σ s => evB C vB σ s)) (n := 2)
    (P := fun i σ s => σ = σc (rest.length + 1) ∧ s = G c k seed (R1 (L0 ++ (bigs w).take i)) (rest.length + 5))
    (by
      rintro i σ s hi ⟨rfl, rfl⟩
      have hz : ∀ {L : List PV} {lo : Nat}, (G c k seed (R1 L) lo).size = rest.length + 5 := fun {L lo} => by
        show (R1 L).length + 3 = _
        rw [lR1]
      obtain ⟨mm, hmm, hge, hle, tk⟩ : ∃ mm : Nat, [PV.int 60, .int 61][i]? = some (.int (mm : Int)) ∧ 1 ≤ mm ∧ mm ≤ 61 ∧ (bigs w).take (i + 1) = (bigs w).take i ++ [bigP w mm] := by
        match i, hi with
        | 0, _ => exact ⟨60, rfl, by omega, by omega, rfl⟩
        | 1, _ => exact ⟨61, rfl, by omega, by omega, rfl⟩
      let L := L0 ++ (bigs w).take i
      have g1 : (R1 L)[rest.length + 1]? = some (.lst L) := two_get1
      let σd : Env := [some (.ref 2), some (.ref (m + 3)), some q, some (.int w), some (.ref (rest.length + 1 + 3)), some (.int mm), none, none]
      have t0 : mthTy .append (.ref (rest.length + 1 + 3)) (G c k seed (R1 L) (rest.length + 5)) = true := by
        unfold mthTy
        simp only [show (G c k seed (R1 L) (rest.length + 5)).g[rest.length + 1 + 3]? = some (.lst L) from g1]
      have lL : L.length < line := by
        have : L.length ≤ 7 + 2 := by
          show (L0 ++ (bigs w).take i).length ≤ _
          rw [List.length_append, List.length_take]
          show 7 + min i 2 ≤ 9
          omega
        exact Nat.lt_of_le_of_lt this (by decide)
      have z1 := m_append (s := G c k seed (R1 L) (rest.length + 5)) (n := rest.length + 1 + 3) (xs := L) (v := bigP w mm) g1 lL
      rw [show (bigP w mm).rf = true from (fl_big hu8 hge hle).rf, G_wr, show (R1 L).set (rest.length + 1) (.lst (L ++ [bigP w mm])) = R1 (L ++ [bigP w mm]) from two_set1] at z1
      have eb : ∀ {s : S}, evE C (.tup (.cons (.bin .mul (.tup (.cons (.c (.bl false)) .nil)) (.v 5)) (.cons (.bin .mul (.tup (.cons (.bin .mul (.tup (.cons (.bin .sub (.v 5) (.c (.int 1))) .nil)) (.v 3)) .nil)) (.v 5)) .nil))) σd s = some (bigP w mm, s) := fun {s} =>
        r_tup (r_cons (r_bin (r_tup (r_cons r_c r_nil) (by show 1 ≤ line; decide)) (r_v rfl) (b_mulT (List.cons_ne_nil _ _) hge (by omega) (by show 1 ≤ 1000; omega))) (r_cons (r_bin (r_tup (r_cons (r_bin (r_tup (r_cons (r_bin (r_v rfl) r_c b_sub) r_nil) (by show 1 ≤ line; decide)) (r_v rfl) (b_mulT (List.cons_ne_nil _ _) hu1 (by omega) (by show 1 ≤ 1000; omega))) r_nil) (by show 1 ≤ line; decide)) (r_v rfl) (b_mulT (List.cons_ne_nil _ _) hge (by omega) (by show 1 ≤ 1000; omega))) r_nil)) line2
      have ea : evB C vB σd (G c k seed (R1 L) (rest.length + 5)) = some (.nx σd, G c k seed (R1 (L ++ [bigP w mm])) (rest.length + 5)) :=
        r_nx (r_ex (r_scpM (s := G c k seed (R1 L) (rest.length + 5)) (g := (G c k seed (R1 (L ++ [bigP w mm])) 0).g) (by
          rw [hz]
          exact r_mth (r_v rfl) t0 (r_cons eb r_nil) z1) ((hz (lo := 0)).trans hz.symm) rfl)) r_bnil
      have t := turn_nx (tg := .nm 5) (kills := [5]) (v := .int (mm : Int)) (σ := σc (rest.length + 1)) (s := G c k seed (R1 L) (rest.length + 5)) (run := fun σ s => evB C vB σ s) rfl (by
        rw [hz]
        exact ea)
      refine ⟨.int (mm : Int), σc (rest.length + 1), _, congrArg some hmm, ?_, rfl, rfl⟩
      rw [t, hz, tk, ← List.append_assoc]
      exact congrArg (fun s => some (Out.nx (σc (rest.length + 1)), s)) (tidyE_same (g := (G c k seed (R1 (L ++ [bigP w mm])) 0).g) hz (hbl _ (by omega))))
    (by
      rintro σ s _
      rfl)
    fuel 0 (σc (rest.length + 1)) (G c k seed (R1 L0) (rest.length + 5)) (by show _ < 1000000; omega) (Nat.zero_le _) ⟨rfl, by
      show _ = G c k seed (R1 (L0 ++ [])) _
      rw [List.append_nil]⟩
  have hz : ∀ {k seed : Int} {L : List PV} {lo : Nat}, (G c k seed (R1 L) lo).size = rest.length + 5 := fun {k seed L lo} => by
    show (R1 L).length + 3 = _
    rw [lR1]
  have st3 : evS C (.for (.nm 5) (.seq (.tup (.cons (.c (.int 60)) (.cons (.c (.int 61)) .nil)))) vB [5]) (σc (rest.length + 1)) (G c k seed (R1 L0) z) = some (.nx (σc (rest.length + 1)), G c k seed (R1 L1) z) := by
    have x := r_for (C := C) (tg := .nm 5) (it := .seq (.tup (.cons (.c (.int 60)) (.cons (.c (.int 61)) .nil)))) (B := vB) (kills := [5]) (σ := σc (rest.length + 1)) (s := G c k seed (R1 L0) z) (by
      rw [hz]
      exact i_tup (r_tup (r_cons r_c (r_cons r_c r_nil)) line2)) hl
    rw [x, hz]
    exact congrArg (fun s => some (Out.nx (σc (rest.length + 1)), s)) (tidyE_same (g := (G c k seed (R1 L1) 0).g) hz (hbl _ (by omega)))
  -- what stands in the lists
  have F1 : ∀ v ∈ L1, Fine (R1 L1) v 1000 5 := fun v hv => by
    rcases List.mem_append.mp hv with hv | hv
    · exact fine_some0 Q hm8 hu8 v hv
    · simp only [bigs, List.mem_cons, List.not_mem_nil, or_false] at hv
      rcases hv with rfl | rfl
      · exact ((fl_big hu8 (by omega) (by omega)).le (Nat.le_refl _) (by omega)).fine
      · exact ((fl_big hu8 (by omega) (by omega)).le (Nat.le_refl _) (by omega)).fine
  have F2 : ∀ v ∈ L2, Fine (R1 L1) v 1000 5 := fun v hv => by
    rcases List.mem_append.mp hv with hv | hv
    · exact F1 v hv
    · exact (fl_some1 Q hm8 hu8 v hv).fine
  have F3 : ∀ v ∈ L3, Fine R2 v 1000 5 := fun v hv => by
    rcases List.mem_append.mp hv with hv | hv
    · exact (F2 v hv).app _
    · exact (fl_some2 Q hm8 hu8 v hv).fine
  have lL1 : L1.length = 9 := rfl
  have lL2 : L2.length = 11 := rfl
  have lL3 : L3.length = 14 := rfl
  -- two more
  have e3 : scp (evE C (.bin .add (.v 4) (.lst vL3)) (σc (rest.length + 1))) (G c k seed (R1 L1) z) = some (.ref ((R1 L1).length + 3), G c k seed R2 z) := by
    let lo := (R1 L1).length + 3
    have lc : evE C (.lc (.bin .add (.v 7) (.tup (.cons (.c (.int 0)) .nil))) (.nm 7) (.seq (.idx (.v 2) (.c (.int 1)))) .none) (σc (rest.length + 1)) (G c k seed (R1 L1) lo) = some (.ref ((R1 L1).length + 3), G c k seed (R1 L1 ++ [.lst (rowsP (add0 rows))]) lo) := by
      rw [← add0_map]
      refine r_lcP (s := G c k seed (R1 L1) lo) (xs := rowsP rows) (f := add0P) (r_idx (r_v rfl) r_c rfl) (by rw [rowsP_len, Q.len]; have := Q.lm; omega) fun v hv => ?_
      obtain ⟨r, hr, rfl⟩ := List.mem_map.mp hv
      exact ⟨_, rfl, scp_G0 (r_bin (r_v rfl) (r_tup (r_cons r_c r_nil) (by show 1 ≤ line; decide)) (b_addT (by
        rw [ints_len, (Q.row r hr).1]
        exact Nat.le_trans (Nat.add_le_add_right hu8 _) (by decide)))) (by
          show PV.blws _ (ivs r ++ [.int 0]) = true
          have : ivs r ++ [.int 0] = ivs (r ++ [0]) := by
            unfold ivs
            rw [List.map_append]
            rfl
          rw [this]
          exact ints_blw _ _)⟩
    have kA : ∀ {s : S}, evE C (.idx (.v 2) (.c (.int 0))) (σc (rest.length + 1)) s = some (A, s) := r_idx (r_v rfl) r_c rfl
    have kB : ∀ {s : S}, evE C (.idx (.v 2) (.c (.int 1))) (σc (rest.length + 1)) s = some (B, s) := r_idx (r_v rfl) r_c rfl
    have eL : evL C vL3 (σc (rest.length + 1)) (G c k seed (R1 L1) lo) = some (some1 B2 A B, G c k seed (R1 L1 ++ [.lst (rowsP (add0 rows))]) lo) :=
      r_cons (r_tup (r_cons kA (r_cons (r_blt (r_cons lc r_nil) (b_tupG (q := (R1 L1).length) getE)) r_nil)) line2) (r_cons (r_tup (r_cons (r_tup (r_cons r_c (r_cons r_c r_nil)) line2) (r_cons kB r_nil)) line2) r_nil)
    have x : evE C (.bin .add (.v 4) (.lst vL3)) (σc (rest.length + 1)) (G c k seed (R1 L1) lo) = some (.ref (((R1 L1 ++ [GO.lst (rowsP (add0 rows))]) ++ [GO.lst (some1 B2 A B)]).length + 3), G c k seed (((R1 L1 ++ [GO.lst (rowsP (add0 rows))]) ++ [GO.lst (some1 B2 A B)]) ++ [.lst L2]) lo) :=
      r_bin (r_v rfl) (r_lst eL line2) (b_addG (n := rest.length + 1) (m := (R1 L1 ++ [GO.lst (rowsP (add0 rows))]).length) (get_left (get_left two_get1)) getE (by show 9 + 2 ≤ line; decide))
    rw [three, one_len, one_len] at x
    exact scp_GL (j := [.lst (rowsP (add0 rows)), .lst (some1 B2 A B), .lst L2]) (m := (R1 L1).length + 2) x (by omega) three_get (blws_of fun v hv => (F2 v hv).blw)
  -- three more
  have e4 : scp (evE C (.bin .add (.v 4) (.lst vL4)) (σc (R1 L1).length)) (G c k seed R2 z) = some (.ref (R2.length + 3), G c k seed R3 z) := by
    let lo := R2.length + 3
    let σ := σc (R1 L1).length
    have kA : ∀ {s : S}, evE C (.idx (.v 2) (.c (.int 0))) σ s = some (A, s) := r_idx (r_v rfl) r_c rfl
    have kB : ∀ {s : S}, evE C (.idx (.v 2) (.c (.int 1))) σ s = some (B, s) := r_idx (r_v rfl) r_c rfl
    have kt : ∀ {s : S}, evE C (.tup (.cons (.c (.bl true)) .nil)) σ s = some (.tup [.bl true], s) := r_tup (r_cons r_c r_nil) (by show 1 ≤ line; decide)
    have kr : ∀ {s : S} {v : PV}, evE C (.tup (.cons (.bin .mul (.tup (.cons (.c v) .nil)) (.v 3)) .nil)) σ s = some (.tup [.tup (Ev.rep w [v])], s) := r_tup (r_cons (r_bin (r_tup (r_cons r_c r_nil) (by show 1 ≤ line; decide)) (r_v rfl) (b_mulT (List.cons_ne_nil _ _) hu1 (by omega) (by show 1 ≤ 1000; omega))) r_nil) (by show 1 ≤ line; decide)
    have eL : evL C vL4 σ (G c k seed R2 lo) = some (some2 as B w, G c k seed R2 lo) :=
      r_cons (r_tup (r_cons (r_bin kA kt (b_addT (by
        rw [bls_len]
        have := Q.lm
        exact Nat.le_trans (show as.length + 1 ≤ 9 by omega) (by decide)))) (r_cons kB r_nil)) line2) (r_cons (r_tup (r_cons kt (r_cons kr r_nil)) line2) (r_cons (r_tup (r_cons kt (r_cons kr r_nil)) line2) r_nil))
    have x : evE C (.bin .add (.v 4) (.lst vL4)) σ (G c k seed R2 lo) = some (.ref ((R2 ++ [GO.lst (some2 as B w)]).length + 3), G c k seed ((R2 ++ [GO.lst (some2 as B w)]) ++ [.lst L3]) lo) :=
      r_bin (r_v rfl) (r_lst eL (by show 3 ≤ line; decide)) (b_addG (n := (R1 L1).length) (m := R2.length) (get_left getE) getE (by show 11 + 3 ≤ line; decide))
    rw [two (R := R2), one_len (R := R2)] at x
    exact scp_GL (j := [.lst (some2 as B w), .lst L3]) (m := R2.length + 1) x (by omega) two_get1 (blws_of fun v hv => (F3 v hv).blw)
  -- the bent ones
  have fa := fl_A Q hm8
  have fb := fl_B Q hm8 hu8
  have fq := fl2 (fa.le (p' := 2) (Nat.le_refl _) (by omega)) fb
  obtain ⟨acc, k5, seed5, j5, e5, l5, F5, ok5⟩ := bents_run hD h27 (c := c) (R := R3) (lo := z) (σ := σc R2.length) (q := q) n rfl rfl rfl fq.dep fq.rf fq.ok (Nat.le_trans fq.sz (by omega)) hok (by omega)
  let J : List GO := [.lst [A, B], .lst L1] ++ ([.lst L2] ++ ([.lst L3] ++ (j5 ++ ([.lst acc] ++ [.lst (L3 ++ acc)]))))
  have eJ : ((R3 ++ j5) ++ [.lst acc]) ++ [.lst (L3 ++ acc)] = rest ++ J := by
    show (((((rest ++ [_, _]) ++ [_]) ++ [_]) ++ j5) ++ [_]) ++ [_] = rest ++ ([_, _] ++ ([_] ++ ([_] ++ (j5 ++ ([_] ++ [_])))))
    simp only [List.append_assoc]
  have e6 : evE C (.bin .add (.v 4) (.lc (.call 27 (.cons (.v 0) (.cons (.v 2) .nil))) (.nm 6) (.rng (.c (.int 12))) .none)) (σc R2.length) (G c k seed R3 z) = some (.ref (((R3 ++ j5) ++ [GO.lst acc]).length + 3), G c k5 seed5 (rest ++ J) z) := by
    rw [← eJ]
    exact r_bin (r_v rfl) e5 (b_addG (n := R2.length) (m := (R3 ++ j5).length) (get_left (get_left getE)) getE (by rw [l5]; show 14 + 12 ≤ line; decide))
  have g6 : (rest ++ J)[((R3 ++ j5) ++ [GO.lst acc]).length]? = some (.lst (L3 ++ acc)) := by
    rw [← eJ]
    exact getE
  have F6 : ∀ v ∈ L3 ++ acc, Fine (rest ++ J) v 1000 5 := fun v hv => by
    rw [← eJ]
    rcases List.mem_append.mp hv with hv | hv
    · have := (F3 v hv).app [GO.lst L3]
      exact ((this.app j5).app _).app _
    · exact ((F5 v hv).app _).app _
  have lm6 : rest.length ≤ ((R3 ++ j5) ++ [GO.lst acc]).length := by
    rw [one_len, List.length_append, lR3]
    omega
  obtain ⟨j2, q2, e7, g7, F7⟩ := run_LV (c := c) (R := rest) (j := J) (D := D) (n := n + 7) (lo := lo) (ws := [.ref 2, .ref (m + 3), q]) h29 rfl
    (r_nx (r_asg (σ' := σb) e1 rfl) (r_nx (r_asg (σ' := σc (rest.length + 1)) e2 rfl) (r_nx st3 (r_nx (r_asg (σ' := σc (R1 L1).length) e3 rfl) (r_nx (r_asg (σ' := σc R2.length) e4 rfl) (r_rt (r_ret e6))))))) lm6 g6 F6
  exact ⟨L3 ++ acc, k5, seed5, j2, q2, e7, g7, F7, by rw [List.length_append, l5]; show 14 + 12 ≤ 100; omega, ok5⟩
end Ev

set_option linter.all false
set_option autoImplicit false
set_option maxRecDepth 100000
set_option maxHeartbeats 4000000
/-! Sy24: k04's law. -/
namespace Ev
open PySem
def bodyX (E1 E2 E3 : XE) : XB := .cons (.asg (.nm 9) (.blt .repr (.cons E1 .nil))) (.cons (.iff (.cmp .ne (.blt .repr (.cons E2 .nil)) (.blt .repr (.cons E3 .nil))) (.cons (.ret (.c (.bl false))) .nil) .nil) (.cons (.iff (.cmp .ne (.blt .repr (.cons E1 .nil)) (.v 9)) (.cons (.ret (.c (.bl false))) .nil) .nil) .nil))
theorem c_neS {x : Sg} {s : S} : cop .ne (.str x) (.str x) s = some false := by
  show some (!decide (x = x)) = some false
  rw [decide_eq_true rfl]
  rfl
/-- repr of a value before and behind; two answers alike -/
theorem kept_body {C : Nat → List PV → S → Option (PV × S)} {g : List GO} {env : Option PV → Env} {E1 E2 E3 : XE} {v1 d1 : PV} {b : Bool} (he : ∀ r x, (env r).set 9 (some x) = env (some x)) (hg : ∀ r, (env r)[9]? = some r)
    (h1 : ∀ r, evE C E1 (env r) ⟨g, g.length⟩ = some (v1, ⟨g, g.length⟩)) (h2 : ∀ r, evE C E2 (env r) ⟨g, g.length⟩ = some (.bl b, ⟨g, g.length⟩)) (h3 : ∀ r, evE C E3 (env r) ⟨g, g.length⟩ = some (.bl b, ⟨g, g.length⟩))
    (hd : deep g v1 = some d1) (ho : okD d1 = true) (hz : sz d1 ≤ 100000) (hp : d1.dep ≤ 60) (r : Option PV) :
    evB C (bodyX E1 E2 E3) (env r) ⟨g, g.length⟩ = some (.nx (env (some (.str (reprP d1)))), ⟨g, g.length⟩) := by
  have k1 : ∀ r, evE C (.blt .repr (.cons E1 .nil)) (env r) ⟨g, g.length⟩ = some (.str (reprP d1), ⟨g, g.length⟩) := fun r => r_blt (r_cons (h1 r) r_nil) (b_repr (s := ⟨g, g.length⟩) hd ho hz hp)
  have kb : blt .repr [.bl b] (⟨g, g.length⟩ : S) = some (.str (reprP (.bl b)), ⟨g, g.length⟩) := b_repr (s := ⟨g, g.length⟩) (d := .bl b) rfl rfl (by show 1 ≤ 100000; omega) (Nat.zero_le _)
  refine r_nx (r_asg (r_scp0 (s := ⟨g, g.length⟩) (k1 r) rfl) (show some _ = _ from congrArg some (he r _))) (r_nx (r_iff (r_scp0 (s := ⟨g, g.length⟩) (r_cmp (r_blt (r_cons (h2 _) r_nil) kb) (r_blt (r_cons (h3 _) r_nil) kb) c_neS) rfl) r_bnil) (r_nx (r_iff (r_scp0 (s := ⟨g, g.length⟩) (r_cmp (k1 _) (r_v (hg _)) c_neS) rfl) r_bnil) r_bnil))
/-- the loop over values -/
theorem kept_loop {C : Nat → List PV → S → Option (PV × S)} {g : List GO} {lo : Nat} {env : Option PV → Option PV → Env} {it : IT} {vs : List PV} {t : Nat} {B : XB} (hit : ∀ i, it.get ⟨g, lo⟩ i = some vs[i]?) (hl : vs.length ≤ 900000)
    (ha : ∀ v r, asn (.nm t) v (env none r) = some (env (some v) r)) (hw : ∀ v r, wipeE (env (some v) r) [t] = env none r) (hb : ∀ x : Sg, envBlw g.length (env none (some (.str x))) = true)
    (hB : ∀ v ∈ vs, ∃ x : Sg, ∀ r, evB C B (env (some v) r) ⟨g, g.length⟩ = some (.nx (env (some v) (some (.str x))), ⟨g, g.length⟩)) (r : Option PV) (hr : r = none ∨ ∃ x : Sg, r = some (.str x)) :
    ∃ r', (r' = none ∨ ∃ x : Sg, r' = some (.str x)) ∧ forL (fun s i => it.get s i) (forTurn (.nm t) [t] (fun σ s => evB C B σ s)) fuel 0 (env none r) ⟨g, lo⟩ = some (.nx (env none r'), ⟨g, lo⟩) := by
  obtain ⟨σ', s', e, rfl, r', hr', rfl⟩ := for_go (get := fun s i => it.get s i) (turn := forTurn (.nm t) [t] (fun σ s => evB C B σ s)) (n := vs.length) (P := fun i σ s => s = ⟨g, lo⟩ ∧ ∃ r, (r = none ∨ ∃ x : Sg, r = some (.str x)) ∧ σ = env none r)
    (by
      rintro i σ s hi ⟨rfl, r, hr, rfl⟩
      obtain ⟨x, hx⟩ := hB vs[i] (List.getElem_mem hi)
      refine ⟨vs[i], env none (some (.str x)), ⟨g, lo⟩, ?_, ?_, rfl, _, .inr ⟨x, rfl⟩, rfl⟩
      · show it.get _ i = _
        rw [hit, List.getElem?_eq_getElem hi]
      · rw [turn_nx (s := ⟨g, lo⟩) (ha _ r) (hx r), hw]
        exact congrArg (fun s => some (Out.nx (env none (some (.str x))), s)) (tidyE_same rfl (hb x)))
    (by
      rintro σ s ⟨rfl, _⟩
      show it.get _ _ = _
      rw [hit, List.getElem?_eq_none (Nat.le_refl _)])
    fuel 0 (env none r) ⟨g, lo⟩ (by show _ < 1000000; omega) (Nat.zero_le _) ⟨rfl, r, hr, rfl⟩
  exact ⟨r', hr', e⟩
theorem isQ_Qn {w most : Nat} {as : List Bool} {rows : List (List Int)} (Q : Qn w most as rows) (h : most ≤ 60) : isQ w (qP as rows) = true := by
  show ((decide (1 ≤ (bls as).length) && decide ((bls as).length ≤ 60)) && ((bls as).all isB && (decide ((rowsP rows).length = (bls as).length) && (rowsP rows).all (rowOk w (bls as).length)))) = true
  have h1 : (bls as).all isB = true := by
    rw [List.all_eq_true]
    intro v hv
    obtain ⟨x, _, rfl⟩ := List.mem_map.mp hv
    rfl
  have h2 : (rowsP rows).all (rowOk w as.length) = true := by
    rw [List.all_eq_true]
    intro v hv
    obtain ⟨r, hr, rfl⟩ := List.mem_map.mp hv
    have q := Q.row r hr
    show (decide ((ivs r).length = w) && (ivs r).all (stOk as.length)) = true
    rw [ints_len, decide_eq_true q.1, Bool.true_and, List.all_eq_true]
    intro v hv
    obtain ⟨i, rfl, hi⟩ := ints_mem hv
    have := q.2 i hi
    show (decide _ && decide _) = true
    rw [decide_eq_true this.1, decide_eq_true this.2]
    rfl
  rw [bls_len, rowsP_len, h1, h2, decide_eq_true Q.l1, decide_eq_true (show as.length ≤ 60 by have := Q.lm; omega), decide_eq_true Q.len]
  rfl
theorem fl_nms : ∀ {xs : List Sg}, (∀ x ∈ xs, x ∈ pool8) → FlL (nms xs) xs.length 0
  | [], _ => FlL.nil
  | x :: xs, h => by
    rw [List.length_cons, Nat.add_comm]
    refine FlL.cons ⟨rfl, ?_, by show 1 ≤ 1; omega, Nat.zero_le _⟩ (fl_nms fun y hy => h y (List.mem_cons_of_mem _ hy))
    rw [okD]
    exact decide_eq_true (List.mem_cons_of_mem _ (h x (List.mem_cons_self ..)))
theorem fl_fam {b : Nat} : ∀ {F : List (List Sg)}, (∀ ys ∈ F, ys.length ≤ b ∧ ∀ x ∈ ys, x ∈ pool8) → FlL (famP F) (F.length * (b + 1)) 1
  | [], _ => by
    show FlL [] (0 * (b + 1)) 1
    rw [Nat.zero_mul]
    exact FlL.nil
  | ys :: F, h => by
    have h1 := h ys (List.mem_cons_self ..)
    rw [List.length_cons, Nat.add_mul, Nat.one_mul, Nat.add_comm (F.length * _)]
    exact FlL.cons ((Fl.tup (fl_nms h1.2)).le (by omega) (Nat.le_refl _)) (fl_fam fun i hi => h i (List.mem_cons_of_mem _ hi))
def x_law : Dfn := ⟨1, 11, (.cons (.asg (.nm 1) (.call 16 (.cons (.v 0) .nil))) (.cons (.for (.nm 2) (.rng (.c (.int 4))) (.cons (.asg (.nm 3) (.call 21 (.cons (.call 17 (.cons (.v 1) .nil)) (.cons (.c (.int 4)) (.cons (.c (.int 3)) .nil))))) (.cons (.asg (.nm 4) (.call 22 (.cons (.v 3) .nil))) (.cons (.asg (.nm 5) (.call 23 (.cons (.call 17 (.cons (.v 1) .nil)) (.cons (.v 4) (.cons (.c (.int 5)) .nil))))) (.cons (.for (.nm 6) (.seq (.call 29 (.cons (.call 17 (.cons (.v 1) .nil)) (.cons (.v 4) (.cons (.v 5) .nil))))) (.cons (.asg (.nm 9) (.blt .repr (.cons (.tup (.cons (.v 3) (.cons (.v 6) .nil))) .nil))) (.cons (.iff (.cmp .ne (.blt .repr (.cons (.call 13 (.cons (.v 3) (.cons (.v 6) .nil))) .nil)) (.blt .repr (.cons (.call 28 (.cons (.v 4) (.cons (.v 6) .nil))) .nil))) (.cons (.ret (.c (.bl false))) .nil) .nil) (.cons (.iff (.cmp .ne (.blt .repr (.cons (.tup (.cons (.v 3) (.cons (.v 6) .nil))) .nil)) (.v 9)) (.cons (.ret (.c (.bl false))) .nil) .nil) .nil))) [6]) (.cons (.asg (.nm 7) (.bin .add (.lst (.cons (.tup .nil) (.cons (.blt .tuple (.cons (.v 4) .nil)) (.cons (.bin .mul (.tup (.cons (.idx (.v 4) (.neg (.c (.int 1)))) .nil)) (.c (.int 120))) .nil)))) (.lc (.call 24 (.cons (.call 17 (.cons (.v 1) .nil)) (.cons (.v 4) (.cons (.c (.int 8)) .nil)))) (.nm 10) (.rng (.c (.int 6))) .none))) (.cons (.for (.nm 8) (.seq (.v 7)) (.cons (.asg (.nm 9) (.blt .repr (.cons (.tup (.cons (.v 3) (.cons (.v 5) (.cons (.v 8) .nil)))) .nil))) (.cons (.iff (.cmp .ne (.blt .repr (.cons (.call 14 (.cons (.v 3) (.cons (.v 5) (.cons (.v 8) .nil)))) .nil)) (.blt .repr (.cons (.call 26 (.cons (.v 5) (.cons (.v 4) (.cons (.v 8) .nil)))) .nil))) (.cons (.ret (.c (.bl false))) .nil) .nil) (.cons (.iff (.cmp .ne (.blt .repr (.cons (.tup (.cons (.v 3) (.cons (.v 5) (.cons (.v 8) .nil)))) .nil)) (.v 9)) (.cons (.ret (.c (.bl false))) .nil) .nil) .nil))) [8]) .nil)))))) [2, 3, 4, 5, 6, 7, 8, 9, 10]) (.cons (.ret (.c (.bl true))) .nil)))⟩
def lL : XL := (.cons (.tup .nil) (.cons (.blt .tuple (.cons (.v 4) .nil)) (.cons (.bin .mul (.tup (.cons (.idx (.v 4) (.neg (.c (.int 1)))) .nil)) (.c (.int 120))) .nil)))
structure HasK (D : List (Nat × Dfn)) : Prop where
  P : HasP D
  F : HasF D
  Q : HasQ D
  d8 : D.lookup 8 = some x_is_log_of
  d9 : D.lookup 9 = some x_find_end
  d10 : D.lookup 10 = some x_find_answer
  d11 : D.lookup 11 = some x_require_question
  d12 : D.lookup 12 = some x_require_log_of
  d13 : D.lookup 13 = some x_is_question
  d14 : D.lookup 14 = some x_answer_to
  d20 : D.lookup 20 = some x__law_pool
  d21 : D.lookup 21 = some x__law_family
  d22 : D.lookup 22 = some x__law_names
  d23 : D.lookup 23 = some x__law_question
  d24 : D.lookup 24 = some x__law_log
  d25 : D.lookup 25 = some x__law_end
  d26 : D.lookup 26 = some x__law_says
  d27 : D.lookup 27 = some x__law_bent
  d28 : D.lookup 28 = some x__law_is_question
  d29 : D.lookup 29 = some x__law_values
  d30 : D.lookup 30 = some x_law
end Ev

set_option linter.all false
set_option autoImplicit false
set_option maxRecDepth 100000
set_option maxHeartbeats 4000000
/-! Sy25: k04's law, its run. -/
namespace Ev
open PySem
def E1v : XE := .tup (.cons (.v 3) (.cons (.v 6) .nil))
def E2v : XE := .call 13 (.cons (.v 3) (.cons (.v 6) .nil))
def E3v : XE := .call 28 (.cons (.v 4) (.cons (.v 6) .nil))
def E1l : XE := .tup (.cons (.v 3) (.cons (.v 5) (.cons (.v 8) .nil)))
def E2l : XE := .call 14 (.cons (.v 3) (.cons (.v 5) (.cons (.v 8) .nil)))
def E3l : XE := .call 26 (.cons (.v 5) (.cons (.v 4) (.cons (.v 8) .nil)))
def ax : XE := .call 17 (.cons (.v 1) .nil)
def tB0 : XS := .asg (.nm 3) (.call 21 (.cons ax (.cons (.c (.int 4)) (.cons (.c (.int 3)) .nil))))
def tB1 : XS := .asg (.nm 4) (.call 22 (.cons (.v 3) .nil))
def tB2 : XS := .asg (.nm 5) (.call 23 (.cons ax (.cons (.v 4) (.cons (.c (.int 5)) .nil))))
def tB3 : XS := .for (.nm 6) (.seq (.call 29 (.cons ax (.cons (.v 4) (.cons (.v 5) .nil))))) (bodyX E1v E2v E3v) [6]
def lcX : XE := .lc (.call 24 (.cons ax (.cons (.v 4) (.cons (.c (.int 8)) .nil)))) (.nm 10) (.rng (.c (.int 6))) .none
def tB4 : XS := .asg (.nm 7) (.bin .add (.lst lL) lcX)
def tB5 : XS := .for (.nm 8) (.seq (.v 7)) (bodyX E1l E2l E3l) [8]
def tB : XB := .cons tB0 (.cons tB1 (.cons tB2 (.cons tB3 (.cons tB4 (.cons tB5 .nil)))))
def kills10 : List Nat := [2, 3, 4, 5, 6, 7, 8, 9, 10]
theorem law_body : x_law.body = .cons (.asg (.nm 1) (.call 16 (.cons (.v 0) .nil))) (.cons (.for (.nm 2) (.rng (.c (.int 4))) tB kills10) (.cons (.ret (.c (.bl true))) .nil)) := rfl
def env0 : Env := [some (.ref 0), some (.ref 2), none, none, none, none, none, none, none, none, none]
theorem nms_rep (k : Nat) (x : Sg) : Ev.rep k [PV.str x] = nms (List.replicate k x) := by
  unfold Ev.rep nms
  induction k with
  | zero => rfl
  | succ k ih =>
    rw [List.replicate_succ, List.flatten_cons, ih, List.replicate_succ]
    rfl
theorem nms_last {us : List Sg} (h : 1 ≤ us.length) : ∃ x ∈ us, at? (nms us) (-1) = some (.str x) := by
  have hl : us.length - 1 < us.length := by omega
  refine ⟨us[us.length - 1], List.getElem_mem hl, ?_⟩
  unfold at? ixE
  rw [if_neg (by decide), nms_len, if_pos (by omega)]
  show (nms us)[(-1 + (us.length : Int)).toNat]? = _
  rw [show (-1 + (us.length : Int)).toNat = us.length - 1 by omega, nms_get hl]
theorem deep2 {look : Nat → Option PV} {x y d e : PV} (hx : deepW look x = some d) (hy : deepW look y = some e) : deepW look (.tup [x, y]) = some (.tup [d, e]) := by
  rw [deepW, deepsW, hx]
  simp only
  rw [deepsW, hy]
  rfl
section
variable {D : List (Nat × Dfn)} (K : HasK D) (n : Nat) {c : Ct}
include K
theorem law_turn {b : Nat} {k seed : Int} (t : Int) (hok : Ok b k seed) (hb : b < 500000000) :
    ∃ k' seed' R σ', evB (runD D (n + 8)) tB (env0.set 2 (some (.int t))) (G c k seed [] 3) = some (.nx σ', G c k' seed' R 3) ∧ wipeE σ' kills10 = env0 ∧ Ok (b + 2000) k' seed' := by
  let C := runD D (n + 8)
  have anew : ∀ {b : Nat} {k seed : Int} {R : List GO} {lo : Nat} {σ : Env}, σ[1]? = some (some (.ref 2)) → Ok b k seed → b < 600000000 → evE C ax σ (G c k seed R lo) = some (.ref 2, G c k 0 R lo) := fun h hok hb => r_call (r_cons (r_v h) r_nil) (anew_G K.P (n + 7) hok (by omega))
  -- the family
  obtain ⟨k1, seed1, F, us0, e1, DR, ok1⟩ := family_run K.P K.d20 K.d21 (n + 4) (c := c) (rest := []) (lo := 3) (most := 4) (obs := 3) hok.anew (by omega) (by omega) (by omega) (by omega) (by omega)
  have F6 : F.length ≤ 6 := Nat.le_trans DR.lm (by omega)
  have hys : ∀ ys ∈ F, ys.length ≤ 6 ∧ ys.Nodup := fun ys hy => by
    obtain ⟨_, sub⟩ := DR.sub ys hy
    exact ⟨Nat.le_trans (Nat.le_trans sub.length_le DR.pool.lm) (by omega), (DR.pool.asc.sublist sub).imp fun {a b} q e => by
      subst e
      exact List.lt_irrefl _ q⟩
  obtain ⟨us, e2, N⟩ := names_run K.d22 (n + 7) (s := G c k1 seed1 [] 3) F6 hys
  have FM := DR.names (by omega) (by omega) N
  have hu8 := FM.u8
  have hsub : ∀ x ∈ us, x ∈ pool8 := fun x hx => by
    obtain ⟨ys, hy, hx⟩ := List.mem_flatten.mp ((N.mem x).mp hx)
    exact DR.pool.sub x ((DR.sub ys hy).2.subset hx)
  have hu1 : 1 ≤ us.length := by
    have h0 : 0 < F.length := DR.l1
    obtain ⟨y0, _⟩ := DR.sub F[0] (List.getElem_mem h0)
    obtain ⟨x, hx⟩ := List.exists_mem_of_ne_nil _ y0
    exact List.length_pos_of_mem ((N.mem x).mpr (List.mem_flatten.mpr ⟨F[0], List.getElem_mem h0, hx⟩))
  let fam : PV := .tup (famP F)
  have ff : Fl fam 100 2 := (Fl.tup (fl_fam (b := 6) fun ys hy => ⟨(hys ys hy).1, fun x hx => DR.pool.sub x ((DR.sub ys hy).2.subset hx)⟩)).le (by have := DR.lm; omega) (Nat.le_refl _)
  let R1 : List GO := [.lst (nms us)]
  obtain ⟨as, rows, k2, seed2, e3, Q, ok2⟩ := question_run K.P K.d23 (n + 4) (c := c) (rest := R1) (lo := 4) (m := 0) (most := 5) ok1.anew (by omega) rfl hu8 (by omega) (by omega)
  have fa := fl_A Q (by omega)
  have fb := fl_B Q (by omega) hu8
  let q := qP as rows
  have fq : Fl q 100 3 := (fl2 (fa.le (p' := 2) (Nat.le_refl _) (by omega)) fb).le (by omega) (by omega)
  obtain ⟨vs, k3, seed3, j, p, e4, g4, F4, l4, ok3⟩ := values_run K.P K.d27 K.d29 n (c := c) (rest := R1) (lo := 4) (m := 0) Q (by omega) hu8 hu1 rfl ok2.anew (by omega)
  let S1 := fun (tv r9 : Option PV) => ([some (.ref 0), some (.ref 2), some (.int t), some fam, some (.ref 3), some q, tv, none, none, r9, none] : Env)
  let S2 := fun (tv r9 : Option PV) => ([some (.ref 0), some (.ref 2), some (.int t), some fam, some (.ref 3), some q, none, some (.ref 4), tv, r9, none] : Env)
  have line2 : 2 ≤ line := by decide
  have hb1 : ∀ {z : Nat} (r : Option PV), 4 ≤ z → (r = none ∨ ∃ x : Sg, r = some (.str x)) → envBlw z (S1 none r) = true := fun {z} r hz hr => by
    have fb := PV.blw_mono (Nat.zero_le z) fam ff.rf
    have qb := PV.blw_mono (Nat.zero_le z) q fq.rf
    rcases hr with rfl | ⟨x, rfl⟩
    · show (decide (0 < z) && (decide (2 < z) && (true && (fam.blw z && (decide (3 < z) && (q.blw z && true)))))) = true
      rw [decide_eq_true (by omega), decide_eq_true (by omega), decide_eq_true (by omega), fb, qb]
      rfl
    · show (decide (0 < z) && (decide (2 < z) && (true && (fam.blw z && (decide (3 < z) && (q.blw z && (true && true))))))) = true
      rw [decide_eq_true (by omega), decide_eq_true (by omega), decide_eq_true (by omega), fb, qb]
      rfl
  have hb2 : ∀ {z : Nat} (r : Option PV), 5 ≤ z → (r = none ∨ ∃ x : Sg, r = some (.str x)) → envBlw z (S2 none r) = true := fun {z} r hz hr => by
    have fb := PV.blw_mono (Nat.zero_le z) fam ff.rf
    have qb := PV.blw_mono (Nat.zero_le z) q fq.rf
    rcases hr with rfl | ⟨x, rfl⟩
    · show (decide (0 < z) && (decide (2 < z) && (true && (fam.blw z && (decide (3 < z) && (q.blw z && (decide (4 < z) && true))))))) = true
      rw [decide_eq_true (by omega), decide_eq_true (by omega), decide_eq_true (by omega), decide_eq_true (by omega), fb, qb]
      rfl
    · show (decide (0 < z) && (decide (2 < z) && (true && (fam.blw z && (decide (3 < z) && (q.blw z && (decide (4 < z) && (true && true)))))))) = true
      rw [decide_eq_true (by omega), decide_eq_true (by omega), decide_eq_true (by omega), decide_eq_true (by omega), fb, qb]
      rfl
  have st0 : evS C tB0 (env0.set 2 (some (.int t))) (G c k seed [] 3) = some (.nx [some (.ref 0), some (.ref 2), some (.int t), some fam, none, none, none, none, none, none, none], G c k1 seed1 [] 3) :=
    r_asg (scp_G0 (r_call (r_cons (anew rfl hok (by omega)) (r_cons r_c (r_cons r_c r_nil))) e1) (famP_blw _ _)) rfl
  have st1 : evS C tB1 [some (.ref 0), some (.ref 2), some (.int t), some fam, none, none, none, none, none, none, none] (G c k1 seed1 [] 3) = some (.nx [some (.ref 0), some (.ref 2), some (.int t), some fam, some (.ref 3), none, none, none, none, none, none], G c k1 seed1 R1 3) :=
    r_asg (scp_GL (R := []) (j := [.lst (nms us)]) (m := 0) (r_call (r_cons (r_v rfl) r_nil) e2) (Nat.le_refl _) rfl (nms_blw _ _)) rfl
  have st2 : evS C tB2 [some (.ref 0), some (.ref 2), some (.int t), some fam, some (.ref 3), none, none, none, none, none, none] (G c k1 seed1 R1 3) = some (.nx (S1 none none), G c k2 seed2 R1 3) :=
    r_asg (scp_G0 (r_call (r_cons (anew rfl ok1 (by omega)) (r_cons (r_v rfl) (r_cons r_c r_nil))) e3) (qP_blw _ _ _)) rfl
  -- the values
  let g3 := (G c k3 seed3 (R1 ++ j) 4).g
  obtain ⟨r', hr', l3⟩ := kept_loop (C := C) (g := g3) (lo := 4) (env := S1) (it := .lref (p + 3)) (vs := vs) (t := 6) (B := bodyX E1v E2v E3v) (get_lref (c := c) g4 k3 seed3) (by omega) (fun _ _ => rfl) (fun _ _ => rfl) (fun x => hb1 _ (by show 4 ≤ (R1 ++ j).length + 3; rw [List.length_append]; show 4 ≤ 1 + j.length + 3; omega) (.inr ⟨x, rfl⟩)) (by
    intro v hv
    obtain ⟨d, vd, od, zd, pd⟩ := (F4 v hv).ex
    have hd : deep g3 v = some d := Vd.deep (c := c) (k := k3) (seed := seed3) (lo := 4) vd
    refine ⟨_, kept_body (env := fun r => S1 (some v) r) (d1 := .tup [fam, d]) (fun _ _ => rfl) (fun _ => rfl) (fun r => r_tup (r_cons (r_v rfl) (r_cons (r_v rfl) r_nil)) line2) (fun r => r_call (r_cons (r_v rfl) (r_cons (r_v rfl) r_nil)) (is_question_run (s := ⟨g3, g3.length⟩) FM K.Q K.F K.d13 (n + 3) hd (by omega)))
      (fun r => r_call (r_cons (r_v rfl) (r_cons (r_v rfl) r_nil)) (law_is_question_run (s := ⟨g3, g3.length⟩) K.d28 (n + 7) (m := 3) rfl hu8 hd (by omega))) (deep2 (rf_deep _ fam ff.rf) hd) ?_ ?_ ?_⟩
    · rw [okD, okDs, okDs, okDs, ff.ok, od]
      rfl
    · have := ff.sz
      rw [sz, szs, szs, szs]
      omega
    · have := ff.dep
      rw [PV.dep, PV.deps, PV.deps, PV.deps]
      omega) none (.inl rfl)
  have st3 : evS C tB3 (S1 none none) (G c k2 seed2 R1 3) = some (.nx (S1 none r'), G c k3 seed3 R1 3) := by
    have x := r_for (C := C) (tg := .nm 6) (it := .seq (.call 29 (.cons ax (.cons (.v 4) (.cons (.v 5) .nil))))) (B := bodyX E1v E2v E3v) (kills := [6]) (σ := S1 none none) (s := G c k2 seed2 R1 3) (s1 := G c k3 seed3 (R1 ++ j) 4) (i_lst (xs := vs) (r_call (r_cons (anew (R := R1) (lo := 4) rfl ok2 (by omega)) (r_cons (r_v rfl) (r_cons (r_v rfl) r_nil))) e4) (by
      unfold lstAt
      rw [show (G c k3 seed3 (R1 ++ j) 4).g[p + 3]? = some (.lst vs) from g4])) l3
    exact x.trans (congrArg (fun s => some (Out.nx (S1 none r'), s)) (tidyE_drop (g := (G c k3 seed3 R1 0).g) (j := j) (n := 4) (m := 4) rfl (Nat.le_refl _) (hb1 r' (Nat.le_refl _) hr')))
  -- the logs
  obtain ⟨x, hx, hlast⟩ := nms_last hu1
  let L3 : List PV := [.tup (nms []), .tup (nms us), .tup (nms (List.replicate 120 x))]
  let R1a : List GO := R1 ++ [.lst L3]
  have kk : ∀ {s : S}, bop .mul (.tup [.str x]) (.int 120) s = some (.tup (nms (List.replicate 120 x)), s) := fun {s} => by
    rw [← nms_rep]
    exact b_mulT (k := 120) (List.cons_ne_nil _ _) (by omega) (by omega) (by show 1 ≤ 1000; omega)
  have eL : evL C lL (S1 none r') (G c k3 seed3 R1 4) = some (L3, G c k3 seed3 R1 4) :=
    r_cons (r_tup r_nil (Nat.zero_le _)) (r_cons (r_blt (r_cons (r_v rfl) r_nil) (b_tupG (q := 0) rfl)) (r_cons (r_bin (r_tup (r_cons (r_idx (r_v rfl) (r_neg r_c) ((itemL (s := G c k3 seed3 R1 4) (n := 3) (xs := nms us) rfl).trans hlast)) r_nil) (by show 1 ≤ line; decide)) r_c kk) r_nil))
  obtain ⟨acc, k4, seed4, e5, l5, P5, ok4⟩ := r_lcPenB (C := C) (c := c) (R := R1a) (lo := 4) (B := 800000000) (tg := .nm 10) (e := .call 24 (.cons ax (.cons (.v 4) (.cons (.c (.int 8)) .nil)))) (itx := .rng (.c (.int 6))) (it := .vals (rangeV 0 ((6 : Nat) : Int))) (xs := rangeV 0 ((6 : Nat) : Int)) (P := fun v => ∃ ys, v = .tup (nms ys) ∧ ys.length ≤ 8 ∧ ∀ y ∈ ys, y ∈ us) (w := 101) (k := k3) (seed := seed3) (σ := S1 none r')
    (i_rng r_c (by decide)) (fun _ _ _ => rfl) (by rw [range_len]; omega) (fun v hv => ⟨_, rfl, fun b k seed ok hb => by
      obtain ⟨ys, k', seed', e, l8, hy, ok'⟩ := log_run K.P K.d24 (n + 4) (c := c) (R := R1a) (lo := R1a.length + 3) (m := 0) (most := 8) ok.anew (by omega) rfl (List.length_pos_iff.mp hu1) hu8 (by omega)
      exact ⟨.tup (nms ys), k', seed', scp_G0 (r_call (r_cons (r_call (r_cons (r_v rfl) r_nil) (anew_G K.P (n + 7) ok (by omega))) (r_cons (r_v rfl) (r_cons r_c r_nil))) e) (nms_blw _ _), ⟨ys, rfl, l8, hy⟩, ok'⟩⟩) ok3 (by rw [range_len]; omega)
  rw [range_len] at l5 ok4
  let logs := L3 ++ acc
  have HL : ∀ v ∈ logs, ∃ ys, v = .tup (nms ys) ∧ ys.length ≤ 120 ∧ ∀ y ∈ ys, y ∈ us := fun v hv => by
    rcases List.mem_append.mp hv with hv | hv
    · simp only [L3, List.mem_cons, List.not_mem_nil, or_false] at hv
      rcases hv with rfl | rfl | rfl
      · exact ⟨[], rfl, Nat.zero_le _, fun y hy => by cases hy⟩
      · exact ⟨us, rfl, by omega, fun y hy => hy⟩
      · exact ⟨List.replicate 120 x, rfl, by rw [List.length_replicate]; omega, fun y hy => by rw [(List.mem_replicate.mp hy).2]; exact hx⟩
    · obtain ⟨ys, rfl, a, b⟩ := P5 v hv
      exact ⟨ys, rfl, by omega, b⟩
  let R2 : List GO := [.lst (nms us), .lst logs]
  have st4 : evS C tB4 (S1 none r') (G c k3 seed3 R1 3) = some (.nx (S2 none r'), G c k4 seed4 R2 3) := by
    have e6 : evE C (.bin .add (.lst lL) lcX) (S1 none r') (G c k3 seed3 R1 4) = some (.ref (3 + 3), G c k4 seed4 (R1 ++ [.lst L3, .lst acc, .lst logs]) 4) :=
      r_bin (r_lst eL (by show 3 ≤ line; decide)) e5 (b_addG (n := 1) (m := 2) rfl rfl (by rw [l5]; show 3 + 6 ≤ line; decide))
    exact r_asg (scp_GL (R := R1) (j := [.lst L3, .lst acc, .lst logs]) (m := 3) e6 (by show 1 ≤ 3; omega) rfl (blws_of fun v hv => by
      obtain ⟨ys, rfl, _⟩ := HL v hv
      exact nms_blw _ _)) rfl
  let g5 := (G c k4 seed4 R2 5).g
  obtain ⟨r'', hr'', l6⟩ := kept_loop (C := C) (g := g5) (lo := 5) (env := S2) (it := .lref (1 + 3)) (vs := logs) (t := 8) (B := bodyX E1l E2l E3l) (get_lref (c := c) (R := R2) rfl k4 seed4) (by show (L3 ++ acc).length ≤ _; rw [List.length_append, l5]; show 3 + 6 ≤ 900000; omega) (fun _ _ => rfl) (fun _ _ => rfl) (fun x => hb2 _ (Nat.le_refl _) (.inr ⟨x, rfl⟩)) (by
    intro v hv
    obtain ⟨ys, rfl, l120, hy⟩ := HL v hv
    have fl : Fl (.tup (nms ys)) 121 1 := (Fl.tup (fl_nms fun y h => hsub y (hy y h))).le (by omega) (Nat.le_refl _)
    have f3 := Fl.tup (FlL.cons (ff.le (p' := 3) (Nat.le_refl _) (by omega)) (FlL.cons fq (FlL.cons (fl.le (p' := 3) (Nat.le_refl _) (by omega)) FlL.nil)))
    refine ⟨_, kept_body (env := fun r => S2 (some (.tup (nms ys))) r) (v1 := .tup [fam, q, .tup (nms ys)]) (d1 := .tup [fam, q, .tup (nms ys)]) (fun _ _ => rfl) (fun _ => rfl) (fun r => r_tup (r_cons (r_v rfl) (r_cons (r_v rfl) (r_cons (r_v rfl) r_nil))) (by show 3 ≤ line; decide))
      (fun r => r_call (r_cons (r_v rfl) (r_cons (r_v rfl) (r_cons (r_v rfl) r_nil))) (answer_to_run (s := ⟨g5, g5.length⟩) Q hy (by omega) FM K.Q K.F K.d8 K.d9 K.d10 K.d11 K.d12 K.d14 (n + 3) (rf_deep _ q fq.rf) (by have := fq.sz; omega) (isQ_Qn Q (by omega))))
      (fun r => r_call (r_cons (r_v rfl) (r_cons (r_v rfl) (r_cons (r_v rfl) r_nil))) (law_says_run (s := ⟨g5, g5.length⟩) (m := 3) Q hy (by omega) K.d25 K.d26 (n + 6) rfl)) (rf_deep _ _ f3.rf) f3.ok (by have := f3.sz; omega) (by have := f3.dep; omega)⟩) r' hr'
  have st5 : evS C tB5 (S2 none r') (G c k4 seed4 R2 3) = some (.nx (S2 none r''), G c k4 seed4 R2 3) := by
    have x := r_for (C := C) (tg := .nm 8) (it := .seq (.v 7)) (B := bodyX E1l E2l E3l) (kills := [8]) (σ := S2 none r') (s := G c k4 seed4 R2 3) (s1 := G c k4 seed4 R2 5) (i_lstG (c := c) (R := R2) (lo := 5) (q := 1) (xs := logs) (r_v rfl) rfl) l6
    exact x.trans (congrArg (fun s => some (Out.nx (S2 none r''), s)) (tidyE_same (g := (G c k4 seed4 R2 0).g) (n := 5) rfl (hb2 r'' (Nat.le_refl _) hr'')))
  exact ⟨k4, seed4, R2, S2 none r'', r_nx st0 (r_nx st1 (r_nx st2 (r_nx st3 (r_nx st4 (r_nx st5 r_bnil))))), rfl, ok4.le (by omega)⟩
theorem law_run (ns : List Int) (hn : ns.length ≤ 63) : ∃ s', runD D (n + 9) 30 [.ref 0] (sSt ns) = some (.bl true, s') := by
  let C := runD D (n + 8)
  obtain ⟨cells, e1⟩ := open_run K.P.d16 (n + 7) ns hn
  let c : Ct := ⟨ns, cells⟩
  have st1 : evS C (.asg (.nm 1) (.call 16 (.cons (.v 0) .nil))) [some (.ref 0), none, none, none, none, none, none, none, none, none, none] (sSt ns) = some (.nx env0, G c 0 0 [] 1) :=
    r_asg (r_scpKL (s := sSt ns) (g := (G c 0 0 [] 1).g) (m := 2) (xs := [.ref 1, .int 0, .int 0]) (r_call (r_cons (r_v rfl) r_nil) e1) (by show 1 ≤ 2; omega) rfl rfl) rfl
  obtain ⟨σ', s', hl, rfl, k, seed, rfl, ok⟩ := for_go (get := fun s i => IT.get s (.vals (rangeV 0 ((4 : Nat) : Int))) i) (turn := forTurn (.nm 2) kills10 (fun σ s => evB C tB σ s)) (n := 4) (P := fun i σ s => σ = env0 ∧ ∃ k seed, s = G c k seed [] 3 ∧ Ok (i * 2000) k seed)
    (by
      rintro i σ s hi ⟨rfl, k, seed, rfl, ok⟩
      obtain ⟨k', seed', R, σ2, e, hw, ok2⟩ := law_turn K n (c := c) (i : Int) ok (by omega)
      have t := turn_nx (tg := .nm 2) (kills := kills10) (v := .int (i : Int)) (σ := env0) (s := G c k seed [] 3) (run := fun σ s => evB C tB σ s) (σ2 := env0.set 2 (some (.int i))) rfl e
      refine ⟨.int i, env0, G c k' seed' [] 3, ?_, ?_, rfl, k', seed', rfl, ok2.le (by omega)⟩
      · show some (rangeV 0 ((4 : Nat) : Int))[i]? = _
        rw [range_at hi]
      · rw [t, hw]
        exact congrArg (fun s => some (Out.nx env0, s)) (tidyE_drop (g := (G c k' seed' [] 0).g) (j := R) (n := 3) (m := 3) rfl (Nat.le_refl _) rfl))
    (by
      rintro σ s _
      show some (rangeV 0 ((4 : Nat) : Int))[4]? = _
      rw [List.getElem?_eq_none (by rw [range_len]; exact Nat.le_refl _)])
    fuel 0 env0 (G c 0 0 [] 3) (by show _ < 1000000; omega) (Nat.zero_le _) ⟨rfl, 0, 0, rfl, ⟨Int.le_refl _, by omega, Int.le_refl _⟩⟩
  have st2 : evS C (.for (.nm 2) (.rng (.c (.int 4))) tB kills10) env0 (G c 0 0 [] 1) = some (.nx env0, G c k seed [] 1) := by
    have x := r_for (C := C) (tg := .nm 2) (it := .rng (.c (.int 4))) (B := tB) (kills := kills10) (σ := env0) (s := G c 0 0 [] 1) (s1 := G c 0 0 [] 3) (i_rng r_c (by decide)) hl
    exact x.trans (congrArg (fun s => some (Out.nx env0, s)) (tidyE_same (g := (G c k seed [] 0).g) (n := 3) rfl rfl))
  exact ⟨_, r_runV (s := sSt ns) (g1 := [.fix (ns.map PV.int)]) (g := [.lst (cells.map PV.int), .lst [.ref 1, .int k, .int seed]]) K.d30 rfl rfl rfl (r_nx st1 (r_nx st2 (r_rt (r_ret r_c))))⟩
end
end Ev

set_option linter.all false
set_option autoImplicit false
set_option maxRecDepth 100000
set_option maxHeartbeats 0
set_option Elab.async false
namespace EvLaw
open PySem PySem.Spec PyProof.Rows L2 Ev
def top (i : Nat) : Stmt := PySem.Challenge.pw_partviews_k04_what_is_a_question.main.body.getD i (.Pass ⟨0, 0, 0, 0⟩)
def r_is_integer : Fn := ⟨0, ⟨(Str.ofString "is_integer", none), Str.ofString "is_integer", Str.ofString "is_integer", defArgs (top 5), defBody (top 5), defScope (top 5), [], []⟩, [Str.ofString "value"], [Str.ofString "value"], x_is_integer⟩
def r_is_between : Fn := ⟨1, ⟨(Str.ofString "is_between", none), Str.ofString "is_between", Str.ofString "is_between", defArgs (top 6), defBody (top 6), defScope (top 6), [], []⟩, [Str.ofString "value", Str.ofString "low", Str.ofString "high"], [Str.ofString "value", Str.ofString "low", Str.ofString "high"], x_is_between⟩
def r_is_name : Fn := ⟨2, ⟨(Str.ofString "is_name", none), Str.ofString "is_name", Str.ofString "is_name", defArgs (top 13), defBody (top 13), defScope (top 13), [], []⟩, [Str.ofString "value", Str.ofString "letter"], [Str.ofString "value"], x_is_name⟩
def r_is_name_set : Fn := ⟨3, ⟨(Str.ofString "is_name_set", none), Str.ofString "is_name_set", Str.ofString "is_name_set", defArgs (top 14), defBody (top 14), defScope (top 14), [], []⟩, [Str.ofString "value", Str.ofString "name"], [Str.ofString "value"], x_is_name_set⟩
def r_names_of : Fn := ⟨4, ⟨(Str.ofString "names_of", none), Str.ofString "names_of", Str.ofString "names_of", defArgs (top 15), defBody (top 15), defScope (top 15), [], []⟩, [Str.ofString "family", Str.ofString "names", Str.ofString "name"], [Str.ofString "family"], x_names_of⟩
def r_is_family : Fn := ⟨5, ⟨(Str.ofString "is_family", none), Str.ofString "is_family", Str.ofString "is_family", defArgs (top 16), defBody (top 16), defScope (top 16), [], []⟩, [Str.ofString "value", Str.ofString "names"], [Str.ofString "value"], x_is_family⟩
def r_require_family : Fn := ⟨6, ⟨(Str.ofString "require_family", none), Str.ofString "require_family", Str.ofString "require_family", defArgs (top 17), defBody (top 17), defScope (top 17), [], []⟩, [Str.ofString "value"], [Str.ofString "value"], x_require_family⟩
def r_is_question_of : Fn := ⟨7, ⟨(Str.ofString "is_question_of", none), Str.ofString "is_question_of", Str.ofString "is_question_of", defArgs (top 22), defBody (top 22), defScope (top 22), [], []⟩, [Str.ofString "family", Str.ofString "value", Str.ofString "many", Str.ofString "answers", Str.ofString "rows", Str.ofString "row", Str.ofString "state", Str.ofString "one"], [Str.ofString "family", Str.ofString "value"], x_is_question_of⟩
def r_is_log_of : Fn := ⟨8, ⟨(Str.ofString "is_log_of", none), Str.ofString "is_log_of", Str.ofString "is_log_of", defArgs (top 23), defBody (top 23), defScope (top 23), [], []⟩, [Str.ofString "family", Str.ofString "value", Str.ofString "name"], [Str.ofString "family", Str.ofString "value"], x_is_log_of⟩
def r_find_end : Fn := ⟨9, ⟨(Str.ofString "find_end", none), Str.ofString "find_end", Str.ofString "find_end", defArgs (top 24), defBody (top 24), defScope (top 24), [], []⟩, [Str.ofString "family", Str.ofString "question", Str.ofString "log", Str.ofString "names", Str.ofString "state", Str.ofString "name"], [Str.ofString "family", Str.ofString "question", Str.ofString "log"], x_find_end⟩
def r_find_answer : Fn := ⟨10, ⟨(Str.ofString "find_answer", none), Str.ofString "find_answer", Str.ofString "find_answer", defArgs (top 25), defBody (top 25), defScope (top 25), [], []⟩, [Str.ofString "family", Str.ofString "question", Str.ofString "log"], [Str.ofString "family", Str.ofString "question", Str.ofString "log"], x_find_answer⟩
def r_require_question : Fn := ⟨11, ⟨(Str.ofString "require_question", none), Str.ofString "require_question", Str.ofString "require_question", defArgs (top 26), defBody (top 26), defScope (top 26), [], []⟩, [Str.ofString "family", Str.ofString "value"], [Str.ofString "family", Str.ofString "value"], x_require_question⟩
def r_require_log_of : Fn := ⟨12, ⟨(Str.ofString "require_log_of", none), Str.ofString "require_log_of", Str.ofString "require_log_of", defArgs (top 27), defBody (top 27), defScope (top 27), [], []⟩, [Str.ofString "family", Str.ofString "value"], [Str.ofString "family", Str.ofString "value"], x_require_log_of⟩
def r_is_question : Fn := ⟨13, ⟨(Str.ofString "is_question", none), Str.ofString "is_question", Str.ofString "is_question", defArgs (top 28), defBody (top 28), defScope (top 28), [], []⟩, [Str.ofString "family", Str.ofString "value"], [Str.ofString "family", Str.ofString "value"], x_is_question⟩
def r_answer_to : Fn := ⟨14, ⟨(Str.ofString "answer_to", none), Str.ofString "answer_to", Str.ofString "answer_to", defArgs (top 29), defBody (top 29), defScope (top 29), [], []⟩, [Str.ofString "family", Str.ofString "question", Str.ofString "log"], [Str.ofString "family", Str.ofString "question", Str.ofString "log"], x_answer_to⟩
def r__law_spread : Fn := ⟨15, ⟨(Str.ofString "_law_spread", none), Str.ofString "_law_spread", Str.ofString "_law_spread", defArgs (top 31), defBody (top 31), defScope (top 31), [], []⟩, [Str.ofString "cell", Str.ofString "at", Str.ofString "primes", Str.ofString "mixed", Str.ofString "one", Str.ofString "rest", Str.ofString "two", Str.ofString "three"], [Str.ofString "cell", Str.ofString "at"], x__law_spread⟩
def r__law_open : Fn := ⟨16, ⟨(Str.ofString "_law_open", none), Str.ofString "_law_open", Str.ofString "_law_open", defArgs (top 32), defBody (top 32), defScope (top 32), [], []⟩, [Str.ofString "script", Str.ofString "cells", Str.ofString "k", Str.ofString "cell"], [Str.ofString "script"], x__law_open⟩
def r__law_anew : Fn := ⟨17, ⟨(Str.ofString "_law_anew", none), Str.ofString "_law_anew", Str.ofString "_law_anew", defArgs (top 33), defBody (top 33), defScope (top 33), [], []⟩, [Str.ofString "pen"], [Str.ofString "pen"], x__law_anew⟩
def r__law_take : Fn := ⟨18, ⟨(Str.ofString "_law_take", none), Str.ofString "_law_take", Str.ofString "_law_take", defArgs (top 34), defBody (top 34), defScope (top 34), [], []⟩, [Str.ofString "pen", Str.ofString "many", Str.ofString "found", Str.ofString "at", Str.ofString "cell"], [Str.ofString "pen", Str.ofString "many"], x__law_take⟩
def r__law_one : Fn := ⟨19, ⟨(Str.ofString "_law_one", none), Str.ofString "_law_one", Str.ofString "_law_one", defArgs (top 35), defBody (top 35), defScope (top 35), [], []⟩, [Str.ofString "pen", Str.ofString "some"], [Str.ofString "pen", Str.ofString "some"], x__law_one⟩
def r__law_pool : Fn := ⟨20, ⟨(Str.ofString "_law_pool", none), Str.ofString "_law_pool", Str.ofString "_law_pool", defArgs (top 36), defBody (top 36), defScope (top 36), [], []⟩, [Str.ofString "pen", Str.ofString "most", Str.ofString "step", Str.ofString "pool", Str.ofString "found"], [Str.ofString "pen", Str.ofString "most"], x__law_pool⟩
def r__law_family : Fn := ⟨21, ⟨(Str.ofString "_law_family", none), Str.ofString "_law_family", Str.ofString "_law_family", defArgs (top 37), defBody (top 37), defScope (top 37), [], []⟩, [Str.ofString "pen", Str.ofString "most", Str.ofString "observers", Str.ofString "step", Str.ofString "names", Str.ofString "found", Str.ofString "own", Str.ofString "name"], [Str.ofString "pen", Str.ofString "most", Str.ofString "observers"], x__law_family⟩
def r__law_names : Fn := ⟨22, ⟨(Str.ofString "_law_names", none), Str.ofString "_law_names", Str.ofString "_law_names", defArgs (top 38), defBody (top 38), defScope (top 38), [], []⟩, [Str.ofString "family", Str.ofString "found", Str.ofString "own", Str.ofString "name"], [Str.ofString "family"], x__law_names⟩
def r__law_question : Fn := ⟨23, ⟨(Str.ofString "_law_question", none), Str.ofString "_law_question", Str.ofString "_law_question", defArgs (top 39), defBody (top 39), defScope (top 39), [], []⟩, [Str.ofString "pen", Str.ofString "names", Str.ofString "most", Str.ofString "adds", Str.ofString "state", Str.ofString "many", Str.ofString "sort", Str.ofString "rows", Str.ofString "row", Str.ofString "name", Str.ofString "add"], [Str.ofString "pen", Str.ofString "names", Str.ofString "most"], x__law_question⟩
def r__law_log : Fn := ⟨24, ⟨(Str.ofString "_law_log", none), Str.ofString "_law_log", Str.ofString "_law_log", defArgs (top 40), defBody (top 40), defScope (top 40), [], []⟩, [Str.ofString "pen", Str.ofString "names", Str.ofString "most", Str.ofString "step"], [Str.ofString "pen", Str.ofString "names", Str.ofString "most"], x__law_log⟩
def r__law_end : Fn := ⟨25, ⟨(Str.ofString "_law_end", none), Str.ofString "_law_end", Str.ofString "_law_end", defArgs (top 41), defBody (top 41), defScope (top 41), [], []⟩, [Str.ofString "question", Str.ofString "names", Str.ofString "log", Str.ofString "state", Str.ofString "name"], [Str.ofString "question", Str.ofString "names", Str.ofString "log"], x__law_end⟩
def r__law_says : Fn := ⟨26, ⟨(Str.ofString "_law_says", none), Str.ofString "_law_says", Str.ofString "_law_says", defArgs (top 42), defBody (top 42), defScope (top 42), [], []⟩, [Str.ofString "question", Str.ofString "names", Str.ofString "log"], [Str.ofString "question", Str.ofString "names", Str.ofString "log"], x__law_says⟩
def r__law_bent : Fn := ⟨27, ⟨(Str.ofString "_law_bent", none), Str.ofString "_law_bent", Str.ofString "_law_bent", defArgs (top 43), defBody (top 43), defScope (top 43), [], []⟩, [Str.ofString "pen", Str.ofString "value", Str.ofString "at", Str.ofString "sort"], [Str.ofString "pen", Str.ofString "value"], x__law_bent⟩
def r__law_is_question : Fn := ⟨28, ⟨(Str.ofString "_law_is_question", none), Str.ofString "_law_is_question", Str.ofString "_law_is_question", defArgs (top 44), defBody (top 44), defScope (top 44), [], []⟩, [Str.ofString "names", Str.ofString "value", Str.ofString "row", Str.ofString "answers", Str.ofString "rows", Str.ofString "state", Str.ofString "one"], [Str.ofString "names", Str.ofString "value"], x__law_is_question⟩
def r__law_values : Fn := ⟨29, ⟨(Str.ofString "_law_values", none), Str.ofString "_law_values", Str.ofString "_law_values", defArgs (top 45), defBody (top 45), defScope (top 45), [], []⟩, [Str.ofString "pen", Str.ofString "names", Str.ofString "question", Str.ofString "wide", Str.ofString "some", Str.ofString "many", Str.ofString "step", Str.ofString "row"], [Str.ofString "pen", Str.ofString "names", Str.ofString "question"], x__law_values⟩
def r_law : Fn := ⟨30, ⟨(Str.ofString "law", none), Str.ofString "law", Str.ofString "law", defArgs (top 46), defBody (top 46), defScope (top 46), [], []⟩, [Str.ofString "script", Str.ofString "pen", Str.ofString "turn", Str.ofString "family", Str.ofString "names", Str.ofString "question", Str.ofString "value", Str.ofString "logs", Str.ofString "log", Str.ofString "kept", Str.ofString "step"], [Str.ofString "script"], x_law⟩
def T : List Fn := [r_is_integer, r_is_between, r_is_name, r_is_name_set, r_names_of, r_is_family, r_require_family, r_is_question_of, r_is_log_of, r_find_end, r_find_answer, r_require_question, r_require_log_of, r_is_question, r_answer_to, r__law_spread, r__law_open, r__law_anew, r__law_take, r__law_one, r__law_pool, r__law_family, r__law_names, r__law_question, r__law_log, r__law_end, r__law_says, r__law_bent, r__law_is_question, r__law_values, r_law]
def free : List PStr := [Str.ofString "all", Str.ofString "bool", Str.ofString "enumerate", Str.ofString "int", Str.ofString "isinstance", Str.ofString "len", Str.ofString "list", Str.ofString "range", Str.ofString "repr", Str.ofString "set", Str.ofString "sorted", Str.ofString "str", Str.ofString "tuple"]
def cst : List (PStr × PV) := [(Str.ofString "LONGEST_NAME", .int 8), (Str.ofString "MOST_IN_SET", .int 6), (Str.ofString "MOST_NAMES", .int 8), (Str.ofString "MOST_OBSERVERS", .int 6), (Str.ofString "MOST_STATES", .int 60), (Str.ofString "SMALL", .str [97, 98, 99, 100, 101, 102, 103, 104, 105, 106, 107, 108, 109, 110, 111, 112, 113, 114, 115, 116, 117, 118, 119, 120, 121, 122])]
def loose : List PStr := [Str.ofString "__name__", Str.ofString "ViewError", Str.ofString "InvalidFamily", Str.ofString "InvalidLog", Str.ofString "is_integer", Str.ofString "is_between", Str.ofString "SMALL", Str.ofString "LONGEST_NAME", Str.ofString "MOST_IN_SET", Str.ofString "MOST_OBSERVERS", Str.ofString "MOST_NAMES", Str.ofString "is_name", Str.ofString "is_name_set", Str.ofString "names_of", Str.ofString "is_family", Str.ofString "require_family", Str.ofString "InvalidQuestion", Str.ofString "MOST_STATES", Str.ofString "is_question_of", Str.ofString "is_log_of", Str.ofString "find_end", Str.ofString "find_answer", Str.ofString "require_question", Str.ofString "require_log_of", Str.ofString "is_question", Str.ofString "answer_to", Str.ofString "_law_spread", Str.ofString "_law_open", Str.ofString "_law_anew", Str.ofString "_law_take", Str.ofString "_law_one", Str.ofString "_law_pool", Str.ofString "_law_family", Str.ofString "_law_names", Str.ofString "_law_question", Str.ofString "_law_log", Str.ofString "_law_end", Str.ofString "_law_says", Str.ofString "_law_bent", Str.ofString "_law_is_question", Str.ofString "_law_values"]
abbrev R : PySem.W.OpenRow := PySem.W.OpenLaw.row PySem.Challenge.rw_partviews_k04_what_is_a_question
theorem c_is_integer : fnChk (fnsOf T) free cst r_is_integer = true := by decide +kernel
theorem c_is_between : fnChk (fnsOf T) free cst r_is_between = true := by decide +kernel
theorem c_is_name : fnChk (fnsOf T) free cst r_is_name = true := by decide +kernel
theorem c_is_name_set : fnChk (fnsOf T) free cst r_is_name_set = true := by decide +kernel
theorem c_names_of : fnChk (fnsOf T) free cst r_names_of = true := by decide +kernel
theorem c_is_family : fnChk (fnsOf T) free cst r_is_family = true := by decide +kernel
theorem c_require_family : fnChk (fnsOf T) free cst r_require_family = true := by decide +kernel
theorem c_is_question_of : fnChk (fnsOf T) free cst r_is_question_of = true := by decide +kernel
theorem c_is_log_of : fnChk (fnsOf T) free cst r_is_log_of = true := by decide +kernel
theorem c_find_end : fnChk (fnsOf T) free cst r_find_end = true := by decide +kernel
theorem c_find_answer : fnChk (fnsOf T) free cst r_find_answer = true := by decide +kernel
theorem c_require_question : fnChk (fnsOf T) free cst r_require_question = true := by decide +kernel
theorem c_require_log_of : fnChk (fnsOf T) free cst r_require_log_of = true := by decide +kernel
theorem c_is_question : fnChk (fnsOf T) free cst r_is_question = true := by decide +kernel
theorem c_answer_to : fnChk (fnsOf T) free cst r_answer_to = true := by decide +kernel
theorem c__law_spread : fnChk (fnsOf T) free cst r__law_spread = true := by decide +kernel
theorem c__law_open : fnChk (fnsOf T) free cst r__law_open = true := by decide +kernel
theorem c__law_anew : fnChk (fnsOf T) free cst r__law_anew = true := by decide +kernel
theorem c__law_take : fnChk (fnsOf T) free cst r__law_take = true := by decide +kernel
theorem c__law_one : fnChk (fnsOf T) free cst r__law_one = true := by decide +kernel
theorem c__law_pool : fnChk (fnsOf T) free cst r__law_pool = true := by decide +kernel
theorem c__law_family : fnChk (fnsOf T) free cst r__law_family = true := by decide +kernel
theorem c__law_names : fnChk (fnsOf T) free cst r__law_names = true := by decide +kernel
theorem c__law_question : fnChk (fnsOf T) free cst r__law_question = true := by decide +kernel
theorem c__law_log : fnChk (fnsOf T) free cst r__law_log = true := by decide +kernel
theorem c__law_end : fnChk (fnsOf T) free cst r__law_end = true := by decide +kernel
theorem c__law_says : fnChk (fnsOf T) free cst r__law_says = true := by decide +kernel
theorem c__law_bent : fnChk (fnsOf T) free cst r__law_bent = true := by decide +kernel
theorem c__law_is_question : fnChk (fnsOf T) free cst r__law_is_question = true := by decide +kernel
theorem c__law_values : fnChk (fnsOf T) free cst r__law_values = true := by decide +kernel
theorem c_law : fnChk (fnsOf T) free cst r_law = true := by decide +kernel
theorem hc : ∀ r ∈ T, fnChk (fnsOf T) free cst r = true := by
  show ∀ r ∈ [r_is_integer, r_is_between, r_is_name, r_is_name_set, r_names_of, r_is_family, r_require_family, r_is_question_of, r_is_log_of, r_find_end, r_find_answer, r_require_question, r_require_log_of, r_is_question, r_answer_to, r__law_spread, r__law_open, r__law_anew, r__law_take, r__law_one, r__law_pool, r__law_family, r__law_names, r__law_question, r__law_log, r__law_end, r__law_says, r__law_bent, r__law_is_question, r__law_values, r_law], fnChk (fnsOf T) free cst r = true
  exact List.forall_mem_cons.mpr ⟨c_is_integer, List.forall_mem_cons.mpr ⟨c_is_between, List.forall_mem_cons.mpr ⟨c_is_name, List.forall_mem_cons.mpr ⟨c_is_name_set, List.forall_mem_cons.mpr ⟨c_names_of, List.forall_mem_cons.mpr ⟨c_is_family, List.forall_mem_cons.mpr ⟨c_require_family, List.forall_mem_cons.mpr ⟨c_is_question_of, List.forall_mem_cons.mpr ⟨c_is_log_of, List.forall_mem_cons.mpr ⟨c_find_end, List.forall_mem_cons.mpr ⟨c_find_answer, List.forall_mem_cons.mpr ⟨c_require_question, List.forall_mem_cons.mpr ⟨c_require_log_of, List.forall_mem_cons.mpr ⟨c_is_question, List.forall_mem_cons.mpr ⟨c_answer_to, List.forall_mem_cons.mpr ⟨c__law_spread, List.forall_mem_cons.mpr ⟨c__law_open, List.forall_mem_cons.mpr ⟨c__law_anew, List.forall_mem_cons.mpr ⟨c__law_take, List.forall_mem_cons.mpr ⟨c__law_one, List.forall_mem_cons.mpr ⟨c__law_pool, List.forall_mem_cons.mpr ⟨c__law_family, List.forall_mem_cons.mpr ⟨c__law_names, List.forall_mem_cons.mpr ⟨c__law_question, List.forall_mem_cons.mpr ⟨c__law_log, List.forall_mem_cons.mpr ⟨c__law_end, List.forall_mem_cons.mpr ⟨c__law_says, List.forall_mem_cons.mpr ⟨c__law_bent, List.forall_mem_cons.mpr ⟨c__law_is_question, List.forall_mem_cons.mpr ⟨c__law_values, List.forall_mem_cons.mpr ⟨c_law, fun _ h => by cases h⟩⟩⟩⟩⟩⟩⟩⟩⟩⟩⟩⟩⟩⟩⟩⟩⟩⟩⟩⟩⟩⟩⟩⟩⟩⟩⟩⟩⟩⟩⟩
theorem b_is_integer : Bd r_is_integer := fun _ _ _ _ _ _ us hl => match us, hl with | [_], _ => rfl
theorem b_is_between : Bd r_is_between := fun _ _ _ _ _ _ us hl => match us, hl with | [_, _, _], _ => rfl
theorem b_is_name : Bd r_is_name := fun _ _ _ _ _ _ us hl => match us, hl with | [_], _ => rfl
theorem b_is_name_set : Bd r_is_name_set := fun _ _ _ _ _ _ us hl => match us, hl with | [_], _ => rfl
theorem b_names_of : Bd r_names_of := fun _ _ _ _ _ _ us hl => match us, hl with | [_], _ => rfl
theorem b_is_family : Bd r_is_family := fun _ _ _ _ _ _ us hl => match us, hl with | [_], _ => rfl
theorem b_require_family : Bd r_require_family := fun _ _ _ _ _ _ us hl => match us, hl with | [_], _ => rfl
theorem b_is_question_of : Bd r_is_question_of := fun _ _ _ _ _ _ us hl => match us, hl with | [_, _], _ => rfl
theorem b_is_log_of : Bd r_is_log_of := fun _ _ _ _ _ _ us hl => match us, hl with | [_, _], _ => rfl
theorem b_find_end : Bd r_find_end := fun _ _ _ _ _ _ us hl => match us, hl with | [_, _, _], _ => rfl
theorem b_find_answer : Bd r_find_answer := fun _ _ _ _ _ _ us hl => match us, hl with | [_, _, _], _ => rfl
theorem b_require_question : Bd r_require_question := fun _ _ _ _ _ _ us hl => match us, hl with | [_, _], _ => rfl
theorem b_require_log_of : Bd r_require_log_of := fun _ _ _ _ _ _ us hl => match us, hl with | [_, _], _ => rfl
theorem b_is_question : Bd r_is_question := fun _ _ _ _ _ _ us hl => match us, hl with | [_, _], _ => rfl
theorem b_answer_to : Bd r_answer_to := fun _ _ _ _ _ _ us hl => match us, hl with | [_, _, _], _ => rfl
theorem b__law_spread : Bd r__law_spread := fun _ _ _ _ _ _ us hl => match us, hl with | [_, _], _ => rfl
theorem b__law_open : Bd r__law_open := fun _ _ _ _ _ _ us hl => match us, hl with | [_], _ => rfl
theorem b__law_anew : Bd r__law_anew := fun _ _ _ _ _ _ us hl => match us, hl with | [_], _ => rfl
theorem b__law_take : Bd r__law_take := fun _ _ _ _ _ _ us hl => match us, hl with | [_, _], _ => rfl
theorem b__law_one : Bd r__law_one := fun _ _ _ _ _ _ us hl => match us, hl with | [_, _], _ => rfl
theorem b__law_pool : Bd r__law_pool := fun _ _ _ _ _ _ us hl => match us, hl with | [_, _], _ => rfl
theorem b__law_family : Bd r__law_family := fun _ _ _ _ _ _ us hl => match us, hl with | [_, _, _], _ => rfl
theorem b__law_names : Bd r__law_names := fun _ _ _ _ _ _ us hl => match us, hl with | [_], _ => rfl
theorem b__law_question : Bd r__law_question := fun _ _ _ _ _ _ us hl => match us, hl with | [_, _, _], _ => rfl
theorem b__law_log : Bd r__law_log := fun _ _ _ _ _ _ us hl => match us, hl with | [_, _, _], _ => rfl
theorem b__law_end : Bd r__law_end := fun _ _ _ _ _ _ us hl => match us, hl with | [_, _, _], _ => rfl
theorem b__law_says : Bd r__law_says := fun _ _ _ _ _ _ us hl => match us, hl with | [_, _, _], _ => rfl
theorem b__law_bent : Bd r__law_bent := fun _ _ _ _ _ _ us hl => match us, hl with | [_, _], _ => rfl
theorem b__law_is_question : Bd r__law_is_question := fun _ _ _ _ _ _ us hl => match us, hl with | [_, _], _ => rfl
theorem b__law_values : Bd r__law_values := fun _ _ _ _ _ _ us hl => match us, hl with | [_, _, _], _ => rfl
theorem b_law : Bd r_law := fun _ _ _ _ _ _ us hl => match us, hl with | [_], _ => rfl
theorem hb : BdAll T := ⟨b_is_integer, b_is_between, b_is_name, b_is_name_set, b_names_of, b_is_family, b_require_family, b_is_question_of, b_is_log_of, b_find_end, b_find_answer, b_require_question, b_require_log_of, b_is_question, b_answer_to, b__law_spread, b__law_open, b__law_anew, b__law_take, b__law_one, b__law_pool, b__law_family, b__law_names, b__law_question, b__law_log, b__law_end, b__law_says, b__law_bent, b__law_is_question, b__law_values, b_law, trivial⟩
theorem hat : ∀ r ∈ T, r.d.at_ = (r.d.name, none) := by
  show ∀ r ∈ [r_is_integer, r_is_between, r_is_name, r_is_name_set, r_names_of, r_is_family, r_require_family, r_is_question_of, r_is_log_of, r_find_end, r_find_answer, r_require_question, r_require_log_of, r_is_question, r_answer_to, r__law_spread, r__law_open, r__law_anew, r__law_take, r__law_one, r__law_pool, r__law_family, r__law_names, r__law_question, r__law_log, r__law_end, r__law_says, r__law_bent, r__law_is_question, r__law_values, r_law], r.d.at_ = (r.d.name, none)
  exact List.forall_mem_cons.mpr ⟨rfl, List.forall_mem_cons.mpr ⟨rfl, List.forall_mem_cons.mpr ⟨rfl, List.forall_mem_cons.mpr ⟨rfl, List.forall_mem_cons.mpr ⟨rfl, List.forall_mem_cons.mpr ⟨rfl, List.forall_mem_cons.mpr ⟨rfl, List.forall_mem_cons.mpr ⟨rfl, List.forall_mem_cons.mpr ⟨rfl, List.forall_mem_cons.mpr ⟨rfl, List.forall_mem_cons.mpr ⟨rfl, List.forall_mem_cons.mpr ⟨rfl, List.forall_mem_cons.mpr ⟨rfl, List.forall_mem_cons.mpr ⟨rfl, List.forall_mem_cons.mpr ⟨rfl, List.forall_mem_cons.mpr ⟨rfl, List.forall_mem_cons.mpr ⟨rfl, List.forall_mem_cons.mpr ⟨rfl, List.forall_mem_cons.mpr ⟨rfl, List.forall_mem_cons.mpr ⟨rfl, List.forall_mem_cons.mpr ⟨rfl, List.forall_mem_cons.mpr ⟨rfl, List.forall_mem_cons.mpr ⟨rfl, List.forall_mem_cons.mpr ⟨rfl, List.forall_mem_cons.mpr ⟨rfl, List.forall_mem_cons.mpr ⟨rfl, List.forall_mem_cons.mpr ⟨rfl, List.forall_mem_cons.mpr ⟨rfl, List.forall_mem_cons.mpr ⟨rfl, List.forall_mem_cons.mpr ⟨rfl, List.forall_mem_cons.mpr ⟨rfl, fun _ h => by cases h⟩⟩⟩⟩⟩⟩⟩⟩⟩⟩⟩⟩⟩⟩⟩⟩⟩⟩⟩⟩⟩⟩⟩⟩⟩⟩⟩⟩⟩⟩⟩
theorem hn : (T.map (·.id)).Nodup := by decide +kernel
theorem hcs : ∀ p ∈ cst, cstB p = true := by decide +kernel
theorem law_mem : r_law ∈ T := by
  show r_law ∈ [r_is_integer, r_is_between, r_is_name, r_is_name_set, r_names_of, r_is_family, r_require_family, r_is_question_of, r_is_log_of, r_find_end, r_find_answer, r_require_question, r_require_log_of, r_is_question, r_answer_to, r__law_spread, r__law_open, r__law_anew, r__law_take, r__law_one, r__law_pool, r__law_family, r__law_names, r__law_question, r__law_log, r__law_end, r__law_says, r__law_bent, r__law_is_question, r__law_values, r_law]
  simp only [List.mem_cons, true_or, or_true]
theorem hasK : HasK (prog T) := ⟨⟨rfl, rfl, rfl, rfl, rfl⟩, ⟨rfl, rfl, rfl, rfl, rfl⟩, ⟨rfl, rfl, rfl, rfl⟩, rfl, rfl, rfl, rfl, rfl, rfl, rfl, rfl, rfl, rfl, rfl, rfl, rfl, rfl, rfl, rfl, rfl, rfl⟩
theorem says : ∀ ns : List Int, ns.length ≤ 63 → ∃ s', runD (prog T) 100 r_law.id [.ref 0] (s0 ns) = some (.bl true, s') := fun ns hn => law_run hasK 91 ns hn
abbrev hk : PySem.W.Hook := hookN 4 (facts T free cst) (T.map (·.d))
def ob (s : PySem.W.SharedT) : He.AlD := obN 4 (facts T free cst) (T.map (·.d)) s
theorem ob_eq (s : PySem.W.SharedT) : ob s = hk.obs s.abs := obN_eq s
theorem run (w : World) : HandSHeadRun.RunEq R (PySem.W.view R.prog [46]) hk ob 4000 loose w := by
  intro os
  kernel_rfl
end EvLaw
open PySem PySem.W PySem.Calls PyProof.Rows Ev
theorem PySem.Challenge.cw_partviews_k04_what_is_a_question_holds : PySem.Challenge.rw_partviews_k04_what_is_a_question.Holds := by
  w_on; o_law
  refine HandSHeadRun.head_any (r := OpenLaw.row PySem.Challenge.rw_partviews_k04_what_is_a_question) (q := view (OpenLaw.row PySem.Challenge.rw_partviews_k04_what_is_a_question).prog [46]) (H := EvLaw.hk) (ob := EvLaw.ob) (M := 4000) (loose := EvLaw.loose) (d := HandSHeadRun.topDef (OpenLaw.row PySem.Challenge.rw_partviews_k04_what_is_a_question).prog 46) (kwd := []) EvLaw.ob_eq
    (by kernel_rfl) (fun s => by kernel_rfl) EvLaw.run (by kernel_rfl) (by kernel_rfl) (by kernel_rfl) (by rfl) (by first | assumption | decide +kernel) (by decide +kernel) ⟨rfl, rfl, rfl, rfl, rfl, by decide +kernel⟩ ?hw ?hc
  case hw => w_witness2
  case hc =>
    refine walkG (l := PySem.Challenge.rw_partviews_k04_what_is_a_question) (n := 63) (k := 100) (x := Str.ofString "script") rfl (by decide) (by kernel_rfl) ⟨rfl, by decide, by decide⟩ ?F
    intro w mg fa h Y G hmg0
    have hmg : mg EvLaw.r_law.d.name = some (.ref fa) := by
      have e : (HandSHeadRun.topDef (OpenLaw.row PySem.Challenge.rw_partviews_k04_what_is_a_question).prog 46).name = EvLaw.r_law.d.name := by kernel_rfl
      rw [← e]
      exact hmg0
    exact law_of G (r := EvLaw.r_law) (K0 := 100) EvLaw.law_mem rfl hmg EvLaw.hb EvLaw.hc EvLaw.hat EvLaw.hn EvLaw.hcs Y EvLaw.says

