import PyProof.Rows.All
import Wide.All
import OpenK.AllK
import Wide.FinOn
import KE.KStateDown
import Lean
import HandS.ForMost
import HandS.ForExc
import HandS.SortOrd
import HandS.SortRule
import HandS.TupSets
import HandS.Deep
import HandS.DeepEq
import HandS.Walk
import HandS.Zip
import HandS.Iter
import HandS.IsInst
import HandS.Flow
import HandS.ListEq
import HandS.TupLe
import HandS.TupMul
import HandS.TupAny
import HandS.Style
import HandS.CallSlots
import HandS.Ends
import HandS.Text
import HandS.More
import HandS.Words
import HandS.WordsExc
import HandS.Defaults
import HandS.Head0
import HandS.Head1
import HandS.Head2
import HandS.HeadEnd
import HandS.HeadHook1
import HandS.HeadHook2
import HandS.Conv
import KE.DataCmp
import HandS.SortInts
import HandS.NamedTupSort
import KE.SortData
import KE.DataMinMax
import HandS.Comp
import HandS.ExcCtx
import KE.GoesMore
import PyProof.EnumMake
import HandS.SortKw
import HandS.SetFor
import KE.DataFind
import PyProof.SeqIndex
import HandS.NoneIn
import HandS.HotCalls
import HandS.ExcIs
import HandS.HeadHook4
import PySem.Challenge.RW_boxtaps_k71_whole_joining
set_option Elab.async false
set_option linter.all false
set_option maxRecDepth 100000
set_option maxHeartbeats 0
/-! plain data, a small language, its run -/
namespace Li
open PySem PySem.Spec PyProof.Rows L2

inductive D where
  | non
  | bl (b : Bool)
  | int (i : Int)
  | str (s : Str)
  | tup (l : List D)
  | lst (l : List D)
  | exc (c : Nat)
  | scr (l : List Int)
  | dic (l : List (Str × Str))

inductive Res (α : Type) where
  | ok (a : α)
  | ex (c : Nat)
  | no
def Res.bind {α β : Type} (r : Res α) (f : α → Res β) : Res β := match r with
  | .ok a => f a
  | .ex c => .ex c
  | .no => .no
instance : Monad Res where
  pure := .ok
  bind := Res.bind
theorem bind_ok {α β : Type} (a : α) (f : α → Res β) : (Res.ok a >>= f) = f a := rfl
theorem bind_ex {α β : Type} (c : Nat) (f : α → Res β) : (Res.ex c >>= f) = .ex c := rfl
theorem bind_no {α β : Type} (f : α → Res β) : ((Res.no : Res α) >>= f) = .no := rfl
theorem pure_ok {α : Type} (a : α) : (pure a : Res α) = .ok a := rfl

/-- the most items of a list or signs of a text -/
abbrev LIM : Nat := 1000000
def need (b : Bool) (r : Res D) : Res D := if b = true then r else .no
theorem need_t (r : Res D) : need true r = r := rfl
theorem need_of {b : Bool} (h : b = true) (r : Res D) : need b r = r := by rw [h]; rfl

mutual
/-- plain within depth n -/
def sh : Nat → D → Bool
  | _, .non => true
  | _, .bl _ => true
  | _, .int _ => true
  | _, .str x => PyData.strOk x
  | 0, .tup _ => false
  | 0, .lst _ => false
  | n + 1, .tup l => shs n l
  | n + 1, .lst l => shs n l
  | _, .exc _ => false
  | _, .scr _ => false
  | _, .dic _ => false
def shs : Nat → List D → Bool
  | _, [] => true
  | n, d :: l => sh n d && shs n l
end
mutual
def eqD : D → D → Bool
  | .non, .non => true
  | .bl a, .bl b => a == b
  | .bl a, .int j => (if a then 1 else 0) == j
  | .int i, .bl b => i == (if b then 1 else 0)
  | .int i, .int j => i == j
  | .str x, .str y => x == y
  | .lst xs, .lst ys => eqDs xs ys
  | .tup xs, .tup ys => eqDs xs ys
  | _, _ => false
def eqDs : List D → List D → Bool
  | [], [] => true
  | x :: xs, y :: ys => eqD x y && eqDs xs ys
  | _, _ => false
end
mutual
/-- the order of ints, and of tuples of such -/
def ltD : D → D → Bool
  | .int i, .int j => decide (i < j)
  | .tup xs, .tup ys => ltDs xs ys
  | _, _ => false
def ltDs : List D → List D → Bool
  | [], [] => false
  | [], _ :: _ => true
  | _ :: _, [] => false
  | x :: xs, y :: ys => if eqD x y = true then ltDs xs ys else ltD x y
end
def isInt : D → Bool
  | .int _ => true
  | _ => false
def isBl : D → Bool
  | .bl _ => true
  | _ => false
/-- a tuple of ints -/
def isTI : D → Bool
  | .tup l => l.all isInt
  | _ => false
/-- an int ahead of a tuple of ints -/
def isIT : D → Bool
  | .tup [.int _, .tup l] => l.all isInt
  | _ => false
def toI : D → Int
  | .int i => i
  | _ => 0
def toB : D → Bool
  | .bl b => b
  | _ => false

/-- the script is asked for emptiness alone -/
def eqR : D → D → Res D
  | .scr ns, .lst [] => .ok (.bl ns.isEmpty)
  | a, b => need (sh 60 a && sh 60 b) (.ok (.bl (eqD a b)))
def neR : D → D → Res D := fun a b => need (sh 60 a && sh 60 b) (.ok (.bl (!eqD a b)))
mutual
/-- the two can be compared -/
def alk : D → D → Bool
  | .int _, .int _ => true
  | .tup xs, .tup ys => alks xs ys
  | _, _ => false
def alks : List D → List D → Bool
  | x :: xs, y :: ys => alk x y && alks xs ys
  | _, _ => true
end
def ltR : D → D → Res D
  | .int i, .int j => .ok (.bl (decide (i < j)))
  | .tup xs, .tup ys => need ((xs.all isInt && ys.all isInt) || (alks xs ys && shs 59 xs && shs 59 ys)) (.ok (.bl (ltDs xs ys)))
  | _, _ => .no
def leR : D → D → Res D
  | .int i, .int j => .ok (.bl (decide (i ≤ j)))
  | _, _ => .no
def inD (x : D) (l : List D) : Bool := l.any fun y => eqD y x
/-- one sign in a text -/
def inS (x y : Str) : Bool := x.cps.toList.all fun c => decide (c ∈ y.cps.toList)
def inR : D → D → Res D
  | x, .lst l => need (sh 60 x && shs 59 l) (.ok (.bl (inD x l)))
  | x, .tup l => need (sh 60 x && shs 59 l) (.ok (.bl (inD x l)))
  | .str x, .str y => need (decide (x.cps.toList.length = 1)) (.ok (.bl (inS x y)))
  | _, _ => .no
def notR : Res D → Res D
  | .ok (.bl b) => .ok (.bl (!b))
  | .ok _ => .no
  | .ex c => .ex c
  | .no => .no
inductive Co where | eq | ne | lt | le | gt | ge | isin | notin
def cmpR : Co → D → D → Res D
  | .eq, a, b => eqR a b
  | .ne, a, b => neR a b
  | .lt, a, b => ltR a b
  | .le, a, b => leR a b
  | .gt, a, b => ltR b a
  | .ge, a, b => leR b a
  | .isin, a, b => inR a b
  | .notin, a, b => notR (inR a b)
inductive Bo where | add | sub | mul | fdiv | mod
def addR : D → D → Res D
  | .int i, .int j => .ok (.int (i + j))
  | .lst a, .lst b => need (decide (a.length + b.length ≤ LIM)) (.ok (.lst (a ++ b)))
  | .tup a, .tup b => need (decide (a.length + b.length ≤ LIM)) (.ok (.tup (a ++ b)))
  | .str a, .str b => need (decide (a.length + b.length ≤ LIM)) (.ok (.str (a ++ b)))
  | _, _ => .no
/-- one factor below 2^64 -/
def mulOk (i j : Int) : Bool := (decide (-(2 ^ 64) < i) && decide (i < 2 ^ 64)) || (decide (-(2 ^ 64) < j) && decide (j < 2 ^ 64))
def repD (l : List D) (k : Int) : List D := (List.replicate k.toNat l).flatten
/-- so many times a text -/
def repS (x : Str) (k : Int) : Str := ⟨(List.replicate k.toNat x.cps.toList).flatten.toArray⟩
def mulR : D → D → Res D
  | .str a, .int k => need (decide (0 ≤ k) && decide (k ≤ 1000000) && decide (a.length * k.toNat ≤ LIM)) (.ok (.str (repS a k)))
  | .int i, .int j => need (mulOk i j) (.ok (.int (i * j)))
  | .lst a, .int k => need (decide (-1000000000 ≤ k) && decide (k ≤ 1000000000) && decide (a.length * k.toNat ≤ LIM)) (.ok (.lst (repD a k)))
  | .tup a, .int k => need (decide (0 ≤ k) && decide (k ≤ 1000) && decide (a.length ≤ 1000) && !a.isEmpty) (.ok (.tup (repD a k)))
  | _, _ => .no
def binR : Bo → D → D → Res D
  | .add, a, b => addR a b
  | .sub, .int i, .int j => .ok (.int (i - j))
  | .mul, a, b => mulR a b
  | .fdiv, .int i, .int j => need (decide (0 < j) && decide (j < 1073741824)) (.ok (.int (i / j)))
  | .mod, .int i, .int j => need (decide (0 < j)) (.ok (.int (i % j)))
  | _, _, _ => .no
def negR : D → Res D
  | .int i => .ok (.int (-i))
  | _ => .no
/-! the order of a sort -/
def insD (x : D) : List D → List D
  | [] => [x]
  | y :: l => if ltD x y = true then x :: y :: l else y :: insD x l
def sortD : List D → List D := fun l => l.foldl (fun acc x => insD x acc) []
def isTI1 : D → Bool
  | .tup (.int _ :: l) => l.all isInt
  | _ => false
/-- a pair of tuples of ints, the first one's above 0 -/
def isPos : D → Bool
  | .int i => decide (0 < i)
  | _ => false
def isTT : D → Bool
  | .tup [.tup a, .tup b] => a.all isPos && b.all isInt
  | _ => false
/-- () ahead of tuples of ints -/
def sortE : List D → Bool
  | .tup [] :: l => l.all isTI
  | _ => false
/-- tuples of tuples of ints above 0, () ahead; such ones behind an int -/
def isPosT : D → Bool
  | .tup l => l.all isPos
  | _ => false
def isTB : D → Bool
  | .tup l => l.all isPosT
  | _ => false
def sortB : List D → Bool
  | .tup [] :: l => l.all isTB
  | _ => false
def isIB : D → Bool
  | .tup [.int _, .tup l] => l.all isPosT
  | _ => false
def sortable (l : List D) : Bool := l.all isInt || l.all isTI1 || l.all isIT || sortE l || l.all isTT || (sortB l || l.all isIB)
def sortR : D → Res D
  | .lst l => need (sortable l) (.ok (.lst (sortD l)))
  | .tup l => need (l.all isTI1 || sortE l) (.ok (.lst (sortD l)))
  | _ => .no
/-- each once, as met first -/
def onceD : List D → List D := fun l => l.foldl (fun acc x => if inD x acc = true then acc else acc ++ [x]) []
def srtSetR : D → Res D
  | .lst l => need (((l.all isTI1 || l.all isInt) && decide (l.length < 64)) || (l.all isTI1 && decide ((onceD l).length < 63)) || (l.all isTI1 && decide (l.length < 300))) (.ok (.lst (sortD (onceD l))))
  | .tup l => need (l.all isTI1 && decide (l.length < 64)) (.ok (.lst (sortD (onceD l))))
  | _ => .no
def lenSetR : D → Res D
  | .lst l => need (l.all isTI && decide (l.length < 64)) (.ok (.int (onceD l).length))
  | .tup l => need (l.all isTI && decide (l.length < 64)) (.ok (.int (onceD l).length))
  | _ => .no
def lenR : D → Res D
  | .lst l => .ok (.int l.length)
  | .tup l => .ok (.int l.length)
  | .scr l => .ok (.int l.length)
  | .str x => need (decide (x.length ≤ LIM)) (.ok (.int x.length))
  | _ => .no
def listR : D → Res D
  | .lst l => .ok (.lst l)
  | .tup l => .ok (.lst l)
  | _ => .no
def tupleR : D → Res D
  | .lst l => .ok (.tup l)
  | .tup l => .ok (.tup l)
  | _ => .no
def intR : D → Res D
  | .bl b => .ok (.int (if b then 1 else 0))
  | .int i => .ok (.int i)
  | .str x => (match PySem.intText? x with
    | some n => need (decide (x.length ≤ 640)) (.ok (.int n))
    | none => .no)
  | _ => .no
/-- an int as a text -/
def strR : D → Res D
  | .int i => need (decide (i.natAbs.log2 < 1920)) (.ok (.str (Str.ofString (toString i))))
  | _ => .no
def sumI (l : List D) : Int := (l.map toI).sum
def sumR : D → Res D
  | .lst l => need (l.all isInt) (.ok (.int (sumI l)))
  | .tup l => need (l.all isInt) (.ok (.int (sumI l)))
  | _ => .no
def allR : D → Res D
  | .lst l => need (l.all isBl) (.ok (.bl (l.all toB)))
  | _ => .no
def max2 (i j : Int) : Int := if j > i then j else i
def min2 (i j : Int) : Int := if j < i then j else i
def maxI : List Int → Int
  | [] => 0
  | x :: l => l.foldl max2 x
def minI : List Int → Int
  | [] => 0
  | x :: l => l.foldl min2 x
/-- the least of some pairs of an int and a tuple of ints -/
def minT : List D → D
  | [] => .non
  | x :: l => l.foldl (fun b y => if ltD y b = true then y else b) x
def minLR (l : List D) : Res D := if (l.all isIT && !l.isEmpty) = true then .ok (minT l) else need (l.all isInt && !l.isEmpty) (.ok (.int (minI (l.map toI))))
inductive Bl where | len | list | tuple | sorted | int | sum | all | max | min | str
def bltR : Bl → List D → Res D
  | .len, [a] => lenR a
  | .list, [a] => listR a
  | .tuple, [a] => tupleR a
  | .sorted, [a] => sortR a
  | .int, [a] => intR a
  | .sum, [a] => sumR a
  | .all, [a] => allR a
  | .str, [a] => strR a
  | .max, [.int i, .int j] => .ok (.int (max2 i j))
  | .min, [.int i, .int j] => .ok (.int (min2 i j))
  | .max, [.lst l] => need (l.all isInt && !l.isEmpty) (.ok (.int (maxI (l.map toI))))
  | .min, [.lst l] => minLR l
  | _, _ => .no
inductive Ty where | int | bool | tuple | list | str
def isiD : Ty → D → Bool
  | .int, .int _ => true
  | .int, .bl _ => true
  | .bool, .bl _ => true
  | .tuple, .tup _ => true
  | .list, .lst _ => true
  | .list, .scr _ => true
  | .str, .str _ => true
  | _, _ => false
def isiR (t : Ty) : D → Res D
  | .exc _ => .no
  | .dic _ => .no
  | d => .ok (.bl (isiD t d))
def isi2R : D → Res D
  | .exc _ => .no
  | .dic _ => .no
  | d => .ok (.bl (isiD .list d || isiD .tuple d))
def ixR : D → D → Res D
  | .lst l, .int i => match atI l i with
    | some d => .ok d
    | none => .no
  | .tup l, .int i => match atI l i with
    | some d => .ok d
    | none => .no
  | .scr l, .int i => match atI l i with
    | some d => .ok (.int d)
    | none => .no
  | .str z, .int i => (match atI z.cps.toList i with
    | some c => need (decide (z.length ≤ LIM)) (.ok (.str ⟨#[c]⟩))
    | none => .no)
  | _, _ => .no
def cutD (xs : List D) (lo hi : Option Int) : List D := (xs.drop (HT.sIx xs.length 0 lo)).take (HT.sIx xs.length xs.length hi - HT.sIx xs.length 0 lo)
def slcR : D → Option Int → Option Int → Res D
  | .lst l, lo, hi => .ok (.lst (cutD l lo hi))
  | .tup l, lo, hi => .ok (.tup (cutD l lo hi))
  | .str z, lo, hi => need (decide (z.length ≤ LIM)) (.ok (.str (L2.cutS z lo hi)))
  | _, _, _ => .no
def revS (z : Str) : Str := ⟨z.cps.toList.reverse.toArray⟩
/-- each second sign from a place on -/
def stepS (z : Str) (lo : Option Int) : Str := ⟨((Builtin.Str.strSliceIndices lo none 2 z.length).filterMap (z.cps[·]?)).toArray⟩
def stepR : D → Option Int → Res D
  | .str z, lo => need (decide (z.length ≤ LIM)) (.ok (.str (stepS z lo)))
  | _, _ => .no
def isStr : D → Bool
  | .str _ => true
  | _ => false
def toS : D → Str
  | .str x => x
  | _ => ⟨#[]⟩
/-- x.join(..) -/
def joinOk (x : Str) (l : List D) : Bool := l.all isStr && decide (((l.map toS).map (·.length)).sum + l.length * x.length ≤ LIM)
def joinR (x : Str) : D → Res D
  | .lst l => need (joinOk x l) (.ok (.str (Str.join x (l.map toS))))
  | .tup l => need (joinOk x l) (.ok (.str (Str.join x (l.map toS))))
  | _ => .no
/-- x.split(y) -/
def asS : D → Res Str
  | .str x => .ok x
  | _ => .no
def splitR : Str → D → Res D
  | x, .str y => need (decide (y.length ≠ 0) && decide (x.length + 2 ≤ LIM)) (.ok (.lst ((Txt.split x y).map D.str)))
  | _, _ => .no
def revR : D → Res D
  | .str z => need (decide (z.length ≤ LIM)) (.ok (.str (revS z)))
  | .lst l => .ok (.lst l.reverse)
  | .tup l => .ok (.tup l.reverse)
  | _ => .no
def countD (l : List D) (x : D) : Nat := l.countP fun y => eqD y x
def indexD (l : List D) (x : D) : Option Nat := l.findIdx? fun y => eqD y x
inductive Mt where | count | index
def asL : D → Res (List D)
  | .lst l => .ok l
  | .tup l => .ok l
  | _ => .no
def methR : Mt → List D → D → Res D
  | .count, l, x => need (shs 59 l && sh 60 x) (.ok (.int (countD l x)))
  | .index, l, x => need (shs 59 l && sh 60 x) (match indexD l x with
    | some k => .ok (.int k)
    | none => .no)
/-- the ints of a range, as a list or a tuple -/
def rgD (lo hi : Int) : List D := (List.range (hi - lo).toNat).map fun k => .int (lo + (k : Nat))
def lrngR (t : Bool) : D → Option Int → Res D
  | .int i, o => need (decide (-1000000 ≤ i) && decide (i ≤ 1000000) && decide (-1000000 ≤ o.getD 0) && decide (o.getD 0 ≤ 1000000)) (.ok (match o, t with
    | none, true => .tup (rgD 0 i)
    | none, false => .lst (rgD 0 i)
    | some j, true => .tup (rgD i j)
    | some j, false => .lst (rgD i j)))
  | _, _ => .no
/-- max | min with a default -/
def isPl : D → Bool
  | .non => true
  | .int _ => true
  | _ => false
def mxI (m : Bool) (l : List D) : Int := if m = true then maxI (l.map toI) else minI (l.map toI)
def mxdR (m : Bool) : D → D → Res D
  | .lst l, d => need (l.all isInt && isPl d) (.ok (if l.isEmpty then d else .int (mxI m l)))
  | .tup l, d => need (l.all isInt && isPl d) (.ok (if l.isEmpty then d else .int (mxI m l)))
  | _, _ => .no

/-! ### the language -/
/-- a pair of a display of texts -/
structure KvD where
  x : Str
  k : Nat
  p : Pos
  y : Str
  k2 : Nat
  p2 : Pos
inductive Cn where | non | bl (b : Bool) | int (i : Int) | str (s : Str)
def Cn.py : Cn → PySem.Const
  | .non => .none
  | .bl b => .bool b
  | .int i => .int i
  | .str s => .str s
def Cn.d : Cn → D
  | .non => .non
  | .bl b => .bl b
  | .int i => .int i
  | .str s => .str s
def Co.py : Co → CmpOp
  | .eq => .Eq | .ne => .NotEq | .lt => .Lt | .le => .LtE | .gt => .Gt | .ge => .GtE | .isin => .In | .notin => .NotIn
def Bo.py : Bo → Operator
  | .add => .Add | .sub => .Sub | .mul => .Mult | .fdiv => .FloorDiv | .mod => .Mod
def Bl.nm : Bl → Str
  | .len => "len" | .list => "list" | .tuple => "tuple" | .sorted => "sorted" | .int => "int" | .sum => "sum" | .all => "all" | .max => "max" | .min => "min" | .str => "str"
def Ty.nm : Ty → Str
  | .int => "int" | .bool => "bool" | .tuple => "tuple" | .list => "list" | .str => "str"
def Mt.nm : Mt → Str
  | .count => "count" | .index => "index"
structure Vn where
  i : Nat
  x : Str
  p : Pos
inductive Tg where
  | name (v : Vn)
  | tup (vs : List Vn) (k : Nat) (p : Pos)
def Vn.py (v : Vn) : Expr := .Name v.x v.p
def Tg.py : Tg → Expr
  | .name v => v.py
  | .tup vs k p => .Tuple (vs.map Vn.py) k p
mutual
inductive Ex where
  | var (v : Vn)
  | con (c : Cn) (k : Nat) (p : Pos)
  | glob (n : Nat) (x : Str) (p : Pos)
  | bin (op : Bo) (a b : Ex) (p : Pos)
  | neg (a : Ex) (p : Pos)
  | nott (a : Ex) (p : Pos)
  | cmp (op : Co) (a b : Ex) (p : Pos)
  | isn (pol : Bool) (a : Ex) (k : Nat) (pc p : Pos)
  | ist (a : Ex) (k : Nat) (pc p : Pos)
  | chain (o1 o2 : Co) (a b c : Ex) (p : Pos)
  | bool (isAnd : Bool) (a : Ex) (es : Exs) (p : Pos)
  | ife (c a b : Ex) (p : Pos)
  | tup (es : Exs) (k : Nat) (p : Pos)
  | lst (es : Exs) (p : Pos)
  | call (n : Nat) (f : Str) (a : Ex) (es : Exs) (pf p : Pos)
  | call0 (n : Nat) (f : Str) (pf p : Pos)
  | sel (fs : List (Nat × Str × Pos)) (pl : Pos) (i : Ex) (ps : Pos) (a : Ex) (es : Exs) (p : Pos)
  | dget (ks : List KvD) (pd pa : Pos) (a b : Ex) (p : Pos)
  | dict (ks : List KvD) (p : Pos)
  | dix (o i : Ex) (p : Pos)
  | blt (f : Bl) (a : Ex) (es : Exs) (pf p : Pos)
  | isi (a : Ex) (t : Ty) (pt pf p : Pos)
  | isi2 (a : Ex) (k : Nat) (p1 p2 pt pf p : Pos)
  | srtset (isSort : Bool) (a : Ex) (ps pc pf p : Pos)
  | ix (a b : Ex) (p : Pos)
  | slc (a : Ex) (lo hi : Exo) (ps p : Pos)
  | rev (a : Ex) (k : Nat) (pc pn ps p : Pos)
  | meth (m : Mt) (o a : Ex) (pa p : Pos)
  | lrng (t : Bool) (a : Ex) (b : Exo) (pr pc pf p : Pos)
  | mxd (m : Bool) (a d : Ex) (pk pf p : Pos)
  | join (x : Str) (k : Nat) (px pa : Pos) (a : Ex) (p : Pos)
  | split (o a : Ex) (pa p : Pos)
  | step (a : Ex) (lo : Exo) (k : Nat) (pc ps p : Pos)
  | lc (elt : Ex) (tg : Tg) (it : Itx) (ifs : Exo) (scope : Scope) (own : List (Str × Nat)) (p : Pos)
inductive Exs where
  | nil
  | cons (a : Ex) (es : Exs)
inductive Exo where
  | none
  | some (a : Ex)
inductive Itx where
  | seq (e : Ex)
  | rng1 (a : Ex) (pf p : Pos)
  | rng2 (a b : Ex) (pf p : Pos)
  | rngd (a b : Ex) (k : Nat) (pc pn pf p : Pos)
  | enum (e : Ex) (pf p : Pos)
  | zip (a b : Ex) (pf p : Pos)
  | zip3 (a b c : Ex) (pf p : Pos)
end
mutual
def Ex.py : Ex → Expr
  | .var v => v.py
  | .con c k p => .Constant c.py k p
  | .glob _ x p => .Name x p
  | .bin op a b p => .BinOp a.py op.py b.py p
  | .neg a p => .UnaryOp .USub a.py p
  | .nott a p => .UnaryOp .Not a.py p
  | .cmp op a b p => .Compare a.py [op.py] [b.py] p
  | .isn pol a k pc p => .Compare a.py [if pol then .Is else .IsNot] [.Constant .none k pc] p
  | .ist a k pc p => .Compare a.py [.Is] [.Constant (.bool true) k pc] p
  | .chain o1 o2 a b c p => .Compare a.py [o1.py, o2.py] [b.py, c.py] p
  | .bool an a es p => .BoolOp (if an then .And else .Or) (a.py :: es.py) p
  | .ife c a b p => .IfExp c.py a.py b.py p
  | .tup es k p => .Tuple es.py k p
  | .lst es p => .List es.py p
  | .call _ f a es pf p => .Call (.Name f pf) (a.py :: es.py) [] p
  | .call0 _ f pf p => .Call (.Name f pf) [] [] p
  | .dict ks p => .Dict (ks.map fun k => some (.Constant (.str k.x) k.k k.p)) (ks.map fun k => .Constant (.str k.y) k.k2 k.p2) p
  | .dix o i p => .Subscript o.py i.py p
  | .dget ks pd pa a b p => .Call (.Attribute (.Dict (ks.map fun k => some (.Constant (.str k.x) k.k k.p)) (ks.map fun k => .Constant (.str k.y) k.k2 k.p2) pd) "get" pa) [a.py, b.py] [] p
  | .sel fs pl i ps a es p => .Call (.Subscript (.List (fs.map fun f => .Name f.2.1 f.2.2) pl) i.py ps) (a.py :: es.py) [] p
  | .blt f a es pf p => .Call (.Name f.nm pf) (a.py :: es.py) [] p
  | .isi a t pt pf p => .Call (.Name "isinstance" pf) [a.py, .Name t.nm pt] [] p
  | .isi2 a k p1 p2 pt pf p => .Call (.Name "isinstance" pf) [a.py, .Tuple [.Name "list" p1, .Name "tuple" p2] k pt] [] p
  | .srtset s a ps pc pf p => .Call (.Name (if s then "sorted" else "len") pf) [.Call (.Name "set" ps) [a.py] [] pc] [] p
  | .ix a b p => .Subscript a.py b.py p
  | .slc a lo hi ps p => .Subscript a.py (.Slice lo.py hi.py .none ps) p
  | .rev a k pc pn ps p => .Subscript a.py (.Slice .none .none (.some (.UnaryOp .USub (.Constant (.int 1) k pc) pn)) ps) p
  | .meth m o a pa p => .Call (.Attribute o.py m.nm pa) [a.py] [] p
  | .lrng t a b pr pc pf p => .Call (.Name (if t then "tuple" else "list") pf) [.Call (.Name "range" pr) (a.py :: b.pyl) [] pc] [] p
  | .mxd m a d pk pf p => .Call (.Name (if m then "max" else "min") pf) [a.py] [⟨Option.some "default", d.py, pk⟩] p
  | .join x k px pa a p => .Call (.Attribute (.Constant (.str x) k px) "join" pa) [a.py] [] p
  | .split o a pa p => .Call (.Attribute o.py "split" pa) [a.py] [] p
  | .step a lo k pc ps p => .Subscript a.py (.Slice lo.py .none (.some (.Constant (.int 2) k pc)) ps) p
  | .lc elt tg it ifs scope _ p => .ListComp elt.py [⟨tg.py, it.py, ifs.pyl, 0⟩] scope p
def Exs.py : Exs → List Expr
  | .nil => []
  | .cons a es => a.py :: es.py
def Exo.py : Exo → Option Expr
  | .none => Option.none
  | .some a => Option.some a.py
def Exo.pyl : Exo → List Expr
  | .none => []
  | .some a => [a.py]
def Itx.py : Itx → Expr
  | .seq e => e.py
  | .rng1 a pf p => .Call (.Name "range" pf) [a.py] [] p
  | .rng2 a b pf p => .Call (.Name "range" pf) [a.py, b.py] [] p
  | .rngd a b k pc pn pf p => .Call (.Name "range" pf) [a.py, b.py, .UnaryOp .USub (.Constant (.int 1) k pc) pn] [] p
  | .enum e pf p => .Call (.Name "enumerate" pf) [e.py] [] p
  | .zip a b pf p => .Call (.Name "zip" pf) [a.py, b.py] [] p
  | .zip3 a b c pf p => .Call (.Name "zip" pf) [a.py, b.py, c.py] [] p
end
inductive Mm where | append | extend | remove
def Mm.nm : Mm → Str
  | .append => "append" | .extend => "extend" | .remove => "remove"
/-- a clause that returns what the def f tells of an exception of the class x: which ones it takes, and what is told -/
structure SelE where
  a : Str
  k : Nat
  pa : PySem.Pos
  b : Str
  k2 : Nat
  pb : PySem.Pos
  pi : PySem.Pos
  deriving DecidableEq
structure HnE where
  pt : PySem.Pos
  sel : Option SelE
  deriving DecidableEq
structure RefE where
  f : Str
  x : Str
  tap : List Bool
  rt : List Int
  il : Option HnE
  deriving DecidableEq
def refD (n : Int) : D := .tup [.str "refused", .int n]
def HnE.val (h : HnE) (b : Bool) : D := match h.sel with
  | none => .bl b
  | some s => .str (if b = true then s.a else s.b)
/-- what the clause tells of the c-th exception -/
def refV (r : RefE) (c : Nat) : D := match r.il with
  | none => refD (r.rt.getD c 0)
  | some h => h.val (decide (r.rt.getD c 0 = 1))
/-- what the clause returns: f(e), or whether e is of the class f, or a text by that -/
def refPy (r : RefE) (v : Vn) (pf pc : Pos) : Expr := match r.il with
  | none => .Call (.Name r.f pf) [.Name v.x v.p] [] pc
  | some h => match h.sel with
    | none => .Call (.Name "isinstance" pf) [.Name v.x v.p, .Name r.f h.pt] [] pc
    | some s => .IfExp (.Call (.Name "isinstance" pf) [.Name v.x v.p, .Name r.f h.pt] [] pc) (.Constant (.str s.a) s.k s.pa) (.Constant (.str s.b) s.k2 s.pb) s.pi
mutual
inductive Sm where
  | asg (v : Vn) (e : Ex) (p : Pos)
  | asgt (vs : List Vn) (k : Nat) (pt : Pos) (e : Ex) (p : Pos)
  | setix (v : Vn) (i : Ex) (ps : Pos) (e : Ex) (p : Pos)
  | mut (m : Mm) (v : Vn) (e : Ex) (pa pc p : Pos)
  | expr (e : Ex) (p : Pos)
  | ret (e : Ex) (p : Pos)
  | cond (c : Ex) (a b : Sms) (p : Pos)
  | loop (tg : Tg) (it : Itx) (b : Sms) (p : Pos)
  | lchk (tg : Tg) (it : Itx) (c : Ex) (r : Cn) (k : Nat) (pk pr pc p : Pos)
  | lsel (v : Vn) (it : Itx) (c : Ex) (w u : Vn) (pa pc p : Pos)
  | whil (c : Ex) (b : Sms) (p : Pos)
  | rais (c : Nat) (x : Str) (msg : Str) (k : Nat) (px pm pc p : Pos)
  | pass (p : Pos)
  | tryr (b : Sms) (r : RefE) (np : Pos) (v : Vn) (pf pc pr ph p : Pos)
inductive Sms where
  | nil
  | cons (s : Sm) (r : Sms)
end
mutual
def Sm.py : Sm → Stmt
  | .asg v e p => .Assign [v.py] e.py p
  | .asgt vs k pt e p => .Assign [.Tuple (vs.map Vn.py) k pt] e.py p
  | .setix v i ps e p => .Assign [.Subscript v.py i.py ps] e.py p
  | .mut m v e pa pc p => .Expr (.Call (.Attribute v.py m.nm pa) [e.py] [] pc) p
  | .expr e p => .Expr e.py p
  | .ret e p => .Return (Option.some e.py) p
  | .cond c a b p => .If c.py a.py b.py p
  | .loop tg it b p => .For tg.py it.py b.py [] p
  | .lchk tg it c r k pk pr pc p => .For tg.py it.py [.If c.py [.Return (Option.some (.Constant r.py k pk)) pr] [] pc] [] p
  | .lsel v it c w u pa pc p => .For v.py it.py [.If c.py [.Assign [w.py] u.py pa] [] pc] [] p
  | .whil c b p => .While c.py b.py [] p
  | .rais _ x msg k px pm pc p => .Raise (Option.some (.Call (.Name x px) [.Constant (.str msg) k pm] [] pc)) Option.none p
  | .pass p => .Pass p
  | .tryr b r np v pf pc pr ph p => .Try b.py [.ExceptHandler (Option.some (.Name r.x np)) (Option.some v.x) [.Return (Option.some (refPy r v pf pc)) pr] ph] [] [] p
def Sms.py : Sms → List Stmt
  | .nil => []
  | .cons s r => s.py :: r.py
end

/-! ### its run -/
abbrev En := List (Option D)
def En.get (env : En) (i : Nat) : Res D := match env[i]? with
  | some (some d) => .ok d
  | _ => .no
def wipeD (env : En) : List Nat → En
  | [] => env
  | v :: vs => (wipeD env vs).set v none
def setAll : List Vn → List D → En → Option En
  | [], [], env => some env
  | v :: vs, d :: ds, env => setAll vs ds (env.set v.i (some d))
  | _, _, _ => none
def bindT : Tg → D → En → Option En
  | .name v, d, env => some (env.set v.i (some d))
  | .tup vs _ _, .tup ds, env => setAll vs ds env
  | .tup vs _ _, .lst ds, env => setAll vs ds env
  | .tup _ _ _, _, _ => none
def asB : Res D → Res Bool
  | .ok (.bl b) => .ok b
  | .ok _ => .no
  | .ex c => .ex c
  | .no => .no
def asOI : Res D → Res (Option Int)
  | .ok (.int i) => .ok (some i)
  | .ok _ => .no
  | .ex c => .ex c
  | .no => .no
/-- what a walk goes over -/
def seqR : D → Res (List D)
  | .lst l => .ok l
  | .tup l => .ok l
  | _ => .no
/-- a text's signs -/
def chS (z : Str) : List D := z.cps.toList.map fun c => .str ⟨#[c]⟩
def seqS : D → Res (List D)
  | .str z => .ok (chS z)
  | d => seqR d
def rngL (lo hi : Int) : List D := (List.range (hi - lo).toNat).map fun k => .int (lo + (k : Nat))
def rngR : Int → Int → Res (List D) := fun lo hi => if -1000000000 ≤ lo ∧ lo ≤ 1000000000 ∧ -1000000000 ≤ hi ∧ hi ≤ 1000000000 then .ok (rngL lo hi) else .no
/-- the ints from lo down to above hi -/
def rndL (lo hi : Int) : List D := (List.range (lo - hi).toNat).map fun k => .int (lo + (k : Nat) * (-1))
def rndR : Int → Int → Res (List D) := fun lo hi => if -1000000000 ≤ lo ∧ lo ≤ 1000000000 ∧ -1000000000 ≤ hi ∧ hi ≤ 1000000000 then .ok (rndL lo hi) else .no
def istB : D → Bool
  | .bl b => b
  | _ => false
def enumFrom' : Nat → List D → List D
  | _, [] => []
  | k, d :: l => .tup [.int k, d] :: enumFrom' (k + 1) l
def zipD : List D → List D → List D
  | a :: l, b :: r => .tup [a, b] :: zipD l r
  | _, _ => []
def zip3D : List D → List D → List D → List D
  | a :: l, b :: r, c :: q => .tup [a, b, c] :: zip3D l r q
  | _, _, _ => []
/-- a comprehension's loop -/
def lcGo (f : D → Res (Option D)) : List D → Res (List D)
  | [] => .ok []
  | d :: l => match f d with
    | .ok (some y) => (match lcGo f l with
      | .ok r => .ok (y :: r)
      | .ex c => .ex c
      | .no => .no)
    | .ok none => lcGo f l
    | .ex c => .ex c
    | .no => .no
/-- d[x], keys and values texts -/
def dixR : D → D → Res D
  | .dic l, .str x => (match l.find? fun p => decide (p.1 = x) with
    | some p => .ok (.str p.2)
    | none => .no)
  | _, _ => .no
/-- {k: v, ..}.get(x, y), keys and values texts -/
def dgetR (ks : List KvD) : D → D → Res D
  | .str x, y => .ok (match ks.find? fun k => decide (k.x = x) with
    | some k => .str k.y
    | none => y)
  | _, _ => .no
/-- which of some defs is called -/
def selN (fs : List (Nat × Str × Pos)) : D → Option Nat
  | .int k => if 0 ≤ k then (fs[k.toNat]?).map (·.1) else none
  | _ => none
structure GlX where
  consts : List D
section
variable (C : List D) (cf : Nat → List D → Res D)
mutual
def ev : Ex → En → Res D
  | .var v, env => env.get v.i
  | .con c _ _, _ => .ok c.d
  | .glob n _ _, _ => match C[n]? with
    | some d => .ok d
    | none => .no
  | .bin op a b _, env => (ev a env).bind fun x => (ev b env).bind fun y => binR op x y
  | .neg a _, env => (ev a env).bind negR
  | .nott a _, env => notR (ev a env)
  | .cmp op a b _, env => (ev a env).bind fun x => (ev b env).bind fun y => cmpR op x y
  | .isn pol a _ _ _, env => (ev a env).bind fun x => .ok (.bl (match x with | .non => pol | _ => !pol))
  | .ist a _ _ _, env => (ev a env).bind fun x => .ok (.bl (istB x))
  | .chain o1 o2 a b c _, env => (ev a env).bind fun x => (ev b env).bind fun y => (asB (cmpR o1 x y)).bind fun t =>
      if t = true then (ev c env).bind fun z => cmpR o2 y z else .ok (.bl false)
  | .bool an a es _, env => (asB (ev a env)).bind fun t => evB an t es env
  | .ife c a b _, env => (asB (ev c env)).bind fun t => if t = true then ev a env else ev b env
  | .tup es _ _, env => (evs es env).bind fun l => .ok (.tup l)
  | .lst es _, env => (evs es env).bind fun l => .ok (.lst l)
  | .call n _ a es _ _, env => (ev a env).bind fun x => (evs es env).bind fun l => cf n (x :: l)
  | .call0 n _ _ _, _ => cf n []
  | .dict ks _, _ => .ok (.dic (ks.map fun k => (k.x, k.y)))
  | .dix o i _, env => (ev o env).bind fun x => (ev i env).bind fun y => dixR x y
  | .dget ks _ _ a b _, env => (ev a env).bind fun x => (ev b env).bind fun y => dgetR ks x y
  | .sel fs _ i _ a es _, env => (ev i env).bind fun k => match selN fs k with
    | some n => (ev a env).bind fun d => (evs es env).bind fun ds => cf n (d :: ds)
    | none => .no
  | .blt f a es _ _, env => (ev a env).bind fun x => (evs es env).bind fun l => bltR f (x :: l)
  | .isi a t _ _ _, env => (ev a env).bind fun x => isiR t x
  | .isi2 a _ _ _ _ _ _, env => (ev a env).bind isi2R
  | .srtset s a _ _ _ _, env => (ev a env).bind fun x => if s = true then srtSetR x else lenSetR x
  | .ix a b _, env => (ev a env).bind fun x => (ev b env).bind fun y => ixR x y
  | .slc a lo hi _ _, env => (ev a env).bind fun x => (evo lo env).bind fun l => (evo hi env).bind fun h => slcR x l h
  | .rev a _ _ _ _ _, env => (ev a env).bind revR
  | .meth m o a _ _, env => (ev o env).bind fun x => (asL x).bind fun l => (ev a env).bind fun y => methR m l y
  | .lrng t a b _ _ _ _, env => (ev a env).bind fun x => (evo b env).bind fun y => lrngR t x y
  | .mxd m a d _ _ _, env => (ev a env).bind fun x => (ev d env).bind fun y => mxdR m x y
  | .join x _ _ _ a _, env => (ev a env).bind (joinR x)
  | .split o a _ _, env => (ev o env).bind fun x => (asS x).bind fun z => (ev a env).bind fun y => splitR z y
  | .step a lo _ _ _ _, env => (ev a env).bind fun x => (evo lo env).bind fun l => stepR x l
  | .lc elt tg it ifs _ own _, env => (evi it env).bind fun ds => need (decide (ds.length ≤ LIM)) ((lcGo (fun d => match bindT tg d (wipeD env (own.map (·.2))) with
      | some en => (match ifs with
        | .none => (ev elt en).bind fun y => .ok (some y)
        | .some c => (asB (ev c en)).bind fun t => if t = true then (ev elt en).bind fun y => .ok (some y) else .ok none)
      | none => .no) ds).bind fun l => .ok (.lst l))
/-- the rest of and | or behind a value -/
def evB : Bool → Bool → Exs → En → Res D
  | _, t, .nil, _ => .ok (.bl t)
  | an, t, .cons a es, env => if t = an then (asB (ev a env)).bind fun u => evB an u es env else .ok (.bl t)
def evs : Exs → En → Res (List D)
  | .nil, _ => .ok []
  | .cons a es, env => (ev a env).bind fun x => (evs es env).bind fun l => .ok (x :: l)
def evo : Exo → En → Res (Option Int)
  | .none, _ => .ok none
  | .some a, env => asOI (ev a env)
def evi : Itx → En → Res (List D)
  | .seq e, env => (ev e env).bind seqS
  | .rng1 a _ _, env => (ev a env).bind fun x => match x with
    | .int j => rngR 0 j
    | _ => .no
  | .rng2 a b _ _, env => (ev a env).bind fun x => (ev b env).bind fun y => match x, y with
    | .int i, .int j => rngR i j
    | _, _ => .no
  | .rngd a b _ _ _ _ _, env => (ev a env).bind fun x => (ev b env).bind fun y => match x, y with
    | .int i, .int j => rndR i j
    | _, _ => .no
  | .enum e _ _, env => (ev e env).bind fun x => (seqR x).bind fun l => .ok (enumFrom' 0 l)
  | .zip a b _ _, env => (ev a env).bind fun x => (ev b env).bind fun y => match x, y with
    | .lst l, .lst r => .ok (zipD l r)
    | .tup l, .tup r => .ok (zipD l r)
    | _, _ => .no
  | .zip3 a b c _ _, env => (ev a env).bind fun x => (ev b env).bind fun y => (ev c env).bind fun z => match x, y, z with
    | .tup l, .tup r, .lst q => .ok (zip3D l r q)
    | _, _, _ => .no
end
inductive Out where
  | nx (env : En)
  | ret (d : D)
  | ex (c : Nat) (env : En)
  | no
def mutR : Mm → List D → D → Res (List D)
  | .append, l, d => if l.length < LIM then .ok (l ++ [d]) else .no
  | .extend, l, .lst r => if l.length + r.length ≤ LIM then .ok (l ++ r) else .no
  | .remove, l, d => if shs 59 l = true ∧ sh 60 d = true then (match indexD l d with
    | some k => .ok (l.eraseIdx k)
    | none => .no) else .no
  | _, _, _ => .no
def Res.out {α : Type} (r : Res α) (env : En) (f : α → Out) : Out := match r with
  | .ok a => f a
  | .ex c => .ex c env
  | .no => .no
def forGo (f : D → En → Out) : List D → En → Out
  | [], env => .nx env
  | d :: l, env => match f d env with
    | .nx env' => forGo f l env'
    | .ret r => .ret r
    | .ex c en => .ex c en
    | .no => .no
def whileGo (c : En → Res Bool) (f : En → Out) : Nat → En → Out
  | 0, _ => .no
  | n + 1, env => (c env).out env fun t => if t = true then (match f env with
    | .nx env' => whileGo c f n env'
    | .ret r => .ret r
    | .ex x en => .ex x en
    | .no => .no) else .nx env
mutual
def exe : Sm → En → Out
  | .asg v e _, env => (ev C cf e env).out env fun d => .nx (env.set v.i (some d))
  | .asgt vs _ _ e _, env => (ev C cf e env).out env fun d => match d with
    | .tup ds => (match setAll vs ds env with
      | some en => .nx en
      | none => .no)
    | .lst ds => (match setAll vs ds env with
      | some en => .nx en
      | none => .no)
    | _ => .no
  | .setix v i _ e _, env => (ev C cf e env).out env fun d => (env.get v.i).out env fun o => (ev C cf i env).out env fun k => match o, k with
    | .lst l, .int k => (match ixN l.length k with
      | some j => .nx (env.set v.i (some (.lst (l.set j d))))
      | none => .no)
    | _, _ => .no
  | .mut m v e _ _ _, env => (env.get v.i).out env fun o => match o with
    | .lst l => (ev C cf e env).out env fun d => (mutR m l d).out env fun l' => .nx (env.set v.i (some (.lst l')))
    | _ => .no
  | .expr e _, env => (ev C cf e env).out env fun _ => .nx env
  | .ret e _, env => (ev C cf e env).out env fun d => .ret d
  | .cond c a b _, env => (asB (ev C cf c env)).out env fun t => if t = true then exes a env else exes b env
  | .loop tg it b _, env => (evi C cf it env).out env fun ds => forGo (fun d en => match bindT tg d en with
      | some en' => exes b en'
      | none => .no) ds env
  | .lchk tg it c r _ _ _ _ _, env => (evi C cf it env).out env fun ds => forGo (fun d en => match bindT tg d en with
      | some en' => (asB (ev C cf c en')).out en' fun t => if t = true then .ret r.d else .nx en'
      | none => .no) ds env
  | .lsel v it c w u _ _ _, env => (evi C cf it env).out env fun ds => forGo (fun d en => match bindT (.name v) d en with
      | some en' => (asB (ev C cf c en')).out en' fun t => if t = true then (ev C cf (.var u) en').out en' fun x => .nx (en'.set w.i (some x)) else .nx en'
      | none => .no) ds env
  | .whil c b _, env => whileGo (fun en => asB (ev C cf c en)) (fun en => exes b en) 10000 env
  | .rais c _ _ _ _ _ _ _, env => .ex c env
  | .pass _, env => .nx env
  | .tryr b r _ v _ _ _ _ _, env => match exes b env with
    | .ex c en => (match r.tap[c]? with
      | some true => if v.i < en.length then .ret (refV r c) else .no
      | some false => .ex c en
      | none => .no)
    | o => o
def exes : Sms → En → Out
  | .nil, env => .nx env
  | .cons s r, env => match exe s env with
    | .nx env' => exes r env'
    | o => o
end
end
structure Fn where
  nm : Str
  ps : List Str
  names : List Str
  body : Sms
def startD (F : Fn) (ds : List D) : En := ds.map some ++ List.replicate (F.names.length - ds.length) none
def outR : Out → Res D
  | .nx _ => .ok .non
  | .ret d => .ok d
  | .ex c _ => .ex c
  | .no => .no
/-- the call of the f-th def -/
def callF (C : List D) (T : List Fn) : Nat → Nat → List D → Res D
  | 0, _, _ => .no
  | n + 1, f, ds => match T[f]? with
    | some F => if ds.length = F.ps.length then outR (exes C (callF C T n) F.body (startD F ds)) else .no
    | none => .no
end Li

/-! how a value of the heap tells data -/
namespace Li
open PySem PySem.Spec PyProof.Rows L2

abbrev Av := Addr → Prop
/-- a tuple that is read: tracked and not avoided, or an object of the module -/
def TupAt (K : PySem.W.Frag) (av : Av) (H : Hp) (a : Addr) (xs : List V) : Prop :=
  ((∃ o : Obj, o.dict = none ∧ H a = some (.frz o (.tup xs))) ∧ ¬ av a) ∨
    ∃ (o : Obj) (its : Array Value) (n : Nat), K.lookup a = some o ∧ o.cls = .type "tuple" ∧ o.dict = none ∧ o.data = .seq its n ∧ its.size ≤ sizeLine ∧ Vals xs its.toList
theorem TupAt.sq {K : PySem.W.Frag} {av : Av} {H : Hp} {a : Addr} {xs : List V} (h : TupAt K av H a xs) : SqT K H a xs := by
  rcases h with h | h
  · obtain ⟨⟨o, _, h⟩, _⟩ := h
    exact .inl (.inr ⟨o, h⟩)
  · obtain ⟨o, its, n, h1, h2, _, h3, h4, h5⟩ := h
    exact .inr ⟨o, its, n, h1, h2, h3, h4, h5⟩
/-- the script: a list of ints that is read -/
def ScrAt (K : PySem.W.Frag) (av : Av) (H : Hp) (a : Addr) (ns : List Int) : Prop :=
  (Rd H a (.lst (ns.map V.int)) ∧ ¬ av a) ∨
    ∃ (o : Obj) (its : Array Value) (n : Nat), K.lookup a = some o ∧ o.cls = .type "list" ∧ o.dict = none ∧ o.data = .seq its n ∧ its.size ≤ sizeLine ∧ Vals (ns.map V.int) its.toList
theorem ScrAt.sq {K : PySem.W.Frag} {av : Av} {H : Hp} {a : Addr} {xs : List Int} (h : ScrAt K av H a xs) : SqL K H a (xs.map V.int) := by
  rcases h with h | h
  · exact .inl h.1
  · exact .inr h
mutual
inductive Rep (K : PySem.W.Frag) (av : Av) (H : Hp) : V → D → Prop
  | non : Rep K av H .non .non
  | bl (b : Bool) : Rep K av H (.bl b) (.bl b)
  | int (i : Int) : Rep K av H (.int i) (.int i)
  | str (x : Str) : Rep K av H (.str x) (.str x)
  | lst {a : Addr} {xs : List V} {ds : List D} : H a = some (.lst xs) → ¬ av a → Reps K av H xs ds → Rep K av H (.ref a) (.lst ds)
  | scr {a : Addr} {ns : List Int} : ScrAt K av H a ns → Rep K av H (.ref a) (.scr ns)
  | dic {a : Addr} {l : List (Str × Str)} : H a = some (.dK (l.map fun p => (.inr p.1, V.str p.2))) → ¬ av a → Rep K av H (.ref a) (.dic l)
  | tup {a : Addr} {xs : List V} {ds : List D} : TupAt K av H a xs → Reps K av H xs ds → Rep K av H (.ref a) (.tup ds)
inductive Reps (K : PySem.W.Frag) (av : Av) (H : Hp) : List V → List D → Prop
  | nil : Reps K av H [] []
  | cons {v : V} {vs : List V} {d : D} {ds : List D} : Rep K av H v d → Reps K av H vs ds → Reps K av H (v :: vs) (d :: ds)
end

/-- what is not avoided stays -/
def Ext (av : Av) (H H' : Hp) : Prop := ∀ a o, ¬ av a → H a = some o → H' a = some o
abbrev Same (H H' : Hp) : Prop := ∀ a o, H a = some o → H' a = some o
theorem Same.refl (H : Hp) : Same H H := fun _ _ e => e
theorem Same.trans {H H1 H2 : Hp} (a : Same H H1) (b : Same H1 H2) : Same H H2 := fun x o e => b x o (a x o e)
theorem Same.ext {av : Av} {H H' : Hp} (s : Same H H') : Ext av H H' := fun a o _ e => s a o e
theorem Same.upd {H : Hp} {p : Addr} {o : HO} (h : H p = none) : Same H (upd H p o) := fun a u e => by
  rw [upd_ne (ne_of_none e h)]; exact e
theorem Same.to {H H1 : Hp} {p : Addr} {o : HO} (s : Same H H1) (h : H1 p = none) : Same H (L2.upd H1 p o) := s.trans (Same.upd h)

theorem sqL_ext {K : PySem.W.Frag} {av : Av} {H H' : Hp} {a : Addr} {xs : List V} (e : Ext av H H') (n : ¬ av a) (h : SqL K H a xs) : SqL K H' a xs := by
  rcases h with (h | ⟨o, h⟩) | h
  · exact .inl (.inl (e a _ n h))
  · exact .inl (.inr ⟨o, e a _ n h⟩)
  · exact .inr h
theorem TupAt.ext {K : PySem.W.Frag} {av : Av} {H H' : Hp} {a : Addr} {xs : List V} (e : Ext av H H') (h : TupAt K av H a xs) : TupAt K av H' a xs := by
  rcases h with ⟨⟨o, h0, h⟩, n⟩ | h
  · exact .inl ⟨⟨o, h0, e a _ n h⟩, n⟩
  · exact .inr h
theorem TupAt.mono {K : PySem.W.Frag} {av av' : Av} {H : Hp} {a : Addr} {xs : List V} (e : ∀ a, av' a → av a) (h : TupAt K av H a xs) : TupAt K av' H a xs := by
  rcases h with ⟨h, n⟩ | h
  · exact .inl ⟨h, fun z => n (e _ z)⟩
  · exact .inr h
theorem ScrAt.ext {K : PySem.W.Frag} {av : Av} {H H' : Hp} {a : Addr} {xs : List Int} (e : Ext av H H') (h : ScrAt K av H a xs) : ScrAt K av H' a xs := by
  rcases h with ⟨h | ⟨o, h⟩, n⟩ | h
  · exact .inl ⟨.inl (e a _ n h), n⟩
  · exact .inl ⟨.inr ⟨o, e a _ n h⟩, n⟩
  · exact .inr h
theorem ScrAt.mono {K : PySem.W.Frag} {av av' : Av} {H : Hp} {a : Addr} {xs : List Int} (e : ∀ a, av' a → av a) (h : ScrAt K av H a xs) : ScrAt K av' H a xs := by
  rcases h with ⟨h, n⟩ | h
  · exact .inl ⟨h, fun z => n (e _ z)⟩
  · exact .inr h
mutual
theorem Rep.ext {K : PySem.W.Frag} {av : Av} {H H' : Hp} (e : Ext av H H') : ∀ {v : V} {d : D}, Rep K av H v d → Rep K av H' v d
  | _, _, .non => .non
  | _, _, .bl b => .bl b
  | _, _, .int i => .int i
  | _, _, .str x => .str x
  | _, _, .lst h n r => .lst (e _ _ n h) n (Reps.ext e r)
  | _, _, .scr h => .scr (h.ext e)
  | _, _, .dic h n => .dic (e _ _ n h) n
  | _, _, .tup h r => .tup (h.ext e) (Reps.ext e r)
theorem Reps.ext {K : PySem.W.Frag} {av : Av} {H H' : Hp} (e : Ext av H H') : ∀ {v : List V} {d : List D}, Reps K av H v d → Reps K av H' v d
  | _, _, .nil => .nil
  | _, _, .cons a b => .cons (Rep.ext e a) (Reps.ext e b)
end
mutual
theorem Rep.mono {K : PySem.W.Frag} {av av' : Av} {H : Hp} (e : ∀ a, av' a → av a) : ∀ {v : V} {d : D}, Rep K av H v d → Rep K av' H v d
  | _, _, .non => .non
  | _, _, .bl b => .bl b
  | _, _, .int i => .int i
  | _, _, .str x => .str x
  | _, _, .lst h n r => .lst h (fun z => n (e _ z)) (Reps.mono e r)
  | _, _, .scr h => .scr (h.mono e)
  | _, _, .dic h n => .dic h fun z => n (e _ z)
  | _, _, .tup h r => .tup (h.mono e) (Reps.mono e r)
theorem Reps.mono {K : PySem.W.Frag} {av av' : Av} {H : Hp} (e : ∀ a, av' a → av a) : ∀ {v : List V} {d : List D}, Reps K av H v d → Reps K av' H v d
  | _, _, .nil => .nil
  | _, _, .cons a b => .cons (Rep.mono e a) (Reps.mono e b)
end
section
variable {K : PySem.W.Frag} {av : Av} {H : Hp}
theorem Reps.length : ∀ {xs : List V} {ds : List D}, Reps K av H xs ds → xs.length = ds.length
  | _, _, .nil => rfl
  | _, _, .cons _ t => by simp [Reps.length t]
theorem Reps.append : ∀ {xs ys : List V} {ds es : List D}, Reps K av H xs ds → Reps K av H ys es → Reps K av H (xs ++ ys) (ds ++ es)
  | _, _, _, _, .nil, s => s
  | _, _, _, _, .cons a t, s => .cons a (Reps.append t s)
theorem Reps.get : ∀ {xs : List V} {ds : List D} {i : Nat} {x : V}, Reps K av H xs ds → xs[i]? = some x → ∃ d, ds[i]? = some d ∧ Rep K av H x d
  | _, _, _, _, .nil, e => by simp at e
  | _, _, 0, _, .cons r _, e => by simp at e; subst e; exact ⟨_, rfl, r⟩
  | _, _, i + 1, x, .cons _ t, e => by
    obtain ⟨d, h1, h2⟩ := Reps.get (i := i) (x := x) t (by simpa using e)
    exact ⟨d, by simpa using h1, h2⟩
theorem Reps.getD : ∀ {xs : List V} {ds : List D} {i : Nat} {d : D}, Reps K av H xs ds → ds[i]? = some d → ∃ x, xs[i]? = some x ∧ Rep K av H x d
  | _, _, _, _, .nil, e => by simp at e
  | _, _, 0, _, .cons r _, e => by simp at e; subst e; exact ⟨_, rfl, r⟩
  | _, _, i + 1, d, .cons _ t, e => by
    obtain ⟨x, h1, h2⟩ := Reps.getD (i := i) (d := d) t (by simpa using e)
    exact ⟨x, by simpa using h1, h2⟩
theorem Reps.take : ∀ {xs : List V} {ds : List D} (n : Nat), Reps K av H xs ds → Reps K av H (xs.take n) (ds.take n)
  | _, _, 0, _ => .nil
  | _, _, _ + 1, .nil => .nil
  | _, _, n + 1, .cons r t => .cons r (Reps.take n t)
theorem Reps.drop : ∀ {xs : List V} {ds : List D} (n : Nat), Reps K av H xs ds → Reps K av H (xs.drop n) (ds.drop n)
  | _, _, 0, r => r
  | _, _, _ + 1, .nil => .nil
  | _, _, n + 1, .cons _ t => Reps.drop n t
theorem Reps.set {v : V} {d : D} (r : Rep K av H v d) : ∀ {xs : List V} {ds : List D} (n : Nat), Reps K av H xs ds → Reps K av H (xs.set n v) (ds.set n d)
  | _, _, _, .nil => .nil
  | _, _, 0, .cons _ t => .cons r t
  | _, _, n + 1, .cons q t => .cons q (Reps.set r n t)
theorem Reps.snoc {xs : List V} {ds : List D} {v : V} {d : D} (a : Reps K av H xs ds) (b : Rep K av H v d) : Reps K av H (xs ++ [v]) (ds ++ [d]) := a.append (.cons b .nil)
theorem Reps.reverse : ∀ {xs : List V} {ds : List D}, Reps K av H xs ds → Reps K av H xs.reverse ds.reverse
  | _, _, .nil => .nil
  | _, _, .cons r t => by rw [List.reverse_cons, List.reverse_cons]; exact (Reps.reverse t).snoc r
theorem Reps.rep {xs : List V} {ds : List D} (r : Reps K av H xs ds) : ∀ k : Nat, Reps K av H (List.replicate k xs).flatten (List.replicate k ds).flatten
  | 0 => .nil
  | k + 1 => by simp only [List.replicate_succ, List.flatten_cons]; exact r.append (Reps.rep r k)
theorem Reps.eraseIdx : ∀ {xs : List V} {ds : List D} (n : Nat), Reps K av H xs ds → Reps K av H (xs.eraseIdx n) (ds.eraseIdx n)
  | _, _, _, .nil => .nil
  | _, _, 0, .cons _ t => t
  | _, _, n + 1, .cons q t => .cons q (Reps.eraseIdx n t)
theorem reps_ints : ∀ (ns : List Int), Reps K av H (ns.map V.int) (ns.map D.int)
  | [] => .nil
  | n :: ns => .cons (.int n) (reps_ints ns)
theorem reps_strs : ∀ (ns : List Str), Reps K av H (ns.map V.str) (ns.map D.str)
  | [] => .nil
  | n :: ns => .cons (.str n) (reps_strs ns)
theorem reps_of_ints : ∀ {ns : List Int} {xs : List V}, Reps K av H xs (ns.map D.int) → xs = ns.map V.int
  | [], _, .nil => rfl
  | _ :: _, _, .cons (.int _) t => by rw [reps_of_ints t]; rfl
theorem reps_of_bls : ∀ {ns : List Bool} {xs : List V}, Reps K av H xs (ns.map D.bl) → xs = ns.map V.bl
  | [], _, .nil => rfl
  | _ :: _, _, .cons (.bl _) t => by rw [reps_of_bls t]; rfl
theorem reps_of_strs : ∀ {ns : List Str} {xs : List V}, Reps K av H xs (ns.map D.str) → xs = ns.map V.str
  | [], _, .nil => rfl
  | _ :: _, _, .cons (.str _) t => by rw [reps_of_strs t]; rfl
theorem rep_lst {v : V} {ds : List D} (r : Rep K av H v (.lst ds)) : ∃ a xs, v = .ref a ∧ H a = some (.lst xs) ∧ ¬ av a ∧ Reps K av H xs ds := by
  cases r with
  | lst h n r => exact ⟨_, _, rfl, h, n, r⟩
theorem rep_tup {v : V} {ds : List D} (r : Rep K av H v (.tup ds)) : ∃ a xs, v = .ref a ∧ TupAt K av H a xs ∧ Reps K av H xs ds := by
  cases r with
  | tup h r => exact ⟨_, _, rfl, h, r⟩
/-- as Rep, but that the list itself may be avoided: of a thing that is read alone -/
inductive RepW (K : PySem.W.Frag) (av : Av) (H : Hp) : V → D → Prop
  | non : RepW K av H .non .non
  | bl (b : Bool) : RepW K av H (.bl b) (.bl b)
  | int (i : Int) : RepW K av H (.int i) (.int i)
  | str (x : Str) : RepW K av H (.str x) (.str x)
  | lst {a : Addr} {xs : List V} {ds : List D} : H a = some (.lst xs) → Reps K av H xs ds → RepW K av H (.ref a) (.lst ds)
  | scr {a : Addr} {ns : List Int} : SqL K H a (ns.map V.int) → RepW K av H (.ref a) (.scr ns)
  | dic {a : Addr} {l : List (Str × Str)} : H a = some (.dK (l.map fun p => (.inr p.1, V.str p.2))) → RepW K av H (.ref a) (.dic l)
  | tup {a : Addr} {xs : List V} {ds : List D} : TupAt K av H a xs → Reps K av H xs ds → RepW K av H (.ref a) (.tup ds)
theorem Rep.w {v : V} {d : D} (r : Rep K av H v d) : RepW K av H v d := by
  cases r with
  | non => exact .non
  | bl b => exact .bl b
  | int i => exact .int i
  | str x => exact .str x
  | lst h n r => exact .lst h r
  | scr h => exact .scr h.sq
  | dic h n => exact .dic h
  | tup h r => exact .tup h r
theorem RepW.same {H' : Hp} {v : V} {d : D} (s : Same H H') (r : RepW K av H v d) : RepW K av H' v d := by
  cases r with
  | non => exact .non
  | bl b => exact .bl b
  | int i => exact .int i
  | str x => exact .str x
  | lst h r => exact .lst (s _ _ h) (r.ext s.ext)
  | scr h => exact .scr (sqL_ext (av := fun _ => False) s.ext (fun z => z) h)
  | dic h => exact .dic (s _ _ h)
  | tup h r => exact .tup (h.ext s.ext) (r.ext s.ext)
theorem RepW.mono {av' : Av} {v : V} {d : D} (e : ∀ a, av' a → av a) (r : RepW K av H v d) : RepW K av' H v d := by
  cases r with
  | non => exact .non
  | bl b => exact .bl b
  | int i => exact .int i
  | str x => exact .str x
  | lst h r => exact .lst h (r.mono e)
  | scr h => exact .scr h
  | dic h => exact .dic h
  | tup h r => exact .tup (h.mono e) (r.mono e)
theorem repW_lst {v : V} {ds : List D} (r : RepW K av H v (.lst ds)) : ∃ a xs, v = .ref a ∧ H a = some (.lst xs) ∧ Reps K av H xs ds := by
  cases r with
  | lst h r => exact ⟨_, _, rfl, h, r⟩
theorem repW_tup {v : V} {ds : List D} (r : RepW K av H v (.tup ds)) : ∃ a xs, v = .ref a ∧ TupAt K av H a xs ∧ Reps K av H xs ds := by
  cases r with
  | tup h r => exact ⟨_, _, rfl, h, r⟩
inductive RepWs (K : PySem.W.Frag) (av : Av) (H : Hp) : List V → List D → Prop
  | nil : RepWs K av H [] []
  | cons {v : V} {vs : List V} {d : D} {ds : List D} : RepW K av H v d → RepWs K av H vs ds → RepWs K av H (v :: vs) (d :: ds)
theorem Reps.ws : ∀ {xs : List V} {ds : List D}, Reps K av H xs ds → RepWs K av H xs ds
  | _, _, .nil => .nil
  | _, _, .cons a b => .cons a.w (Reps.ws b)
end
/-- what stands is no place that is free -/
def Wid (av : Av) (H : Hp) : Av := fun a => av a ∨ H a = none
theorem rd_some {H : Hp} {a : Addr} {u : HO} (h : Rd H a u) : H a ≠ none := by
  rcases h with h | ⟨o, h⟩ <;> (rw [h]; intro z; cases z)
theorem ct_some {H : Hp} {a : Addr} {xs : List V} (h : ∃ o : Obj, o.dict = none ∧ H a = some (.frz o (.tup xs))) : H a ≠ none := by
  obtain ⟨o, _, h⟩ := h
  rw [h]; intro z; cases z
mutual
theorem Rep.wid {K : PySem.W.Frag} {av : Av} {H : Hp} : ∀ {v : V} {d : D}, Rep K av H v d → Rep K (Wid av H) H v d
  | _, _, .non => .non
  | _, _, .bl b => .bl b
  | _, _, .int i => .int i
  | _, _, .str x => .str x
  | _, _, .lst h n r => .lst h (fun z => z.elim n fun e => by rw [h] at e; cases e) (Reps.wid r)
  | _, _, .scr (.inl h) => .scr (.inl ⟨h.1, fun z => z.elim h.2 (rd_some h.1)⟩)
  | _, _, .scr (.inr h) => .scr (.inr h)
  | _, _, .dic h n => .dic h fun z => z.elim n fun e => by rw [h] at e; cases e
  | _, _, .tup (.inl h) r => .tup (.inl ⟨h.1, fun z => z.elim h.2 (ct_some h.1)⟩) (Reps.wid r)
  | _, _, .tup (.inr h) r => .tup (.inr h) (Reps.wid r)
theorem Reps.wid {K : PySem.W.Frag} {av : Av} {H : Hp} : ∀ {v : List V} {d : List D}, Reps K av H v d → Reps K (Wid av H) H v d
  | _, _, .nil => .nil
  | _, _, .cons a b => .cons (Rep.wid a) (Reps.wid b)
end
/-- what is avoided stands -/
def Dom (av : Av) (H : Hp) : Prop := ∀ a, av a → H a ≠ none
theorem Dom.same {av : Av} {H H' : Hp} (d : Dom av H) (s : Same H H') : Dom av H' := fun a h e => by
  cases q : H a with
  | none => exact d a h q
  | some o => rw [s a o q] at e; cases e
theorem Dom.new {av : Av} {H : Hp} (d : Dom av H) {p : Addr} (h : H p = none) : ¬ av p := fun z => d p z h
/-- a list is a new one -/
def Fr (K : PySem.W.Frag) (av : Av) (H H' : Hp) (v : V) (d : D) : Prop := ∀ ds, d = .lst ds → ∃ p xs, v = .ref p ∧ H p = none ∧ H' p = some (.lst xs) ∧ Reps K (fun a => av a ∨ a = p) H' xs ds
theorem Fr.no {K : PySem.W.Frag} {av : Av} {H H' : Hp} {v : V} {d : D} (h : ∀ ds, d ≠ .lst ds) : Fr K av H H' v d := fun ds e => absurd e (h ds)
/-- what is wanted of a result -/
def OKV (K : PySem.W.Frag) (av : Av) (H : Hp) (Q : VK) : Res D → Prop
  | .ok d => ∀ v H', Same H H' → Rep K av H' v d → Fr K av H H' v d → Q v H'
  | _ => False
def OKW (K : PySem.W.Frag) (av : Av) (H : Hp) (Q : VK) : Res D → Prop
  | .ok d => ∀ v H', Same H H' → Rep K av H' v d → Q v H'
  | _ => False
section
variable {K : PySem.W.Frag} {av : Av} {H : Hp} {Q : VK}
theorem OKV.need {b : Bool} {r : Res D} (h : OKV K av H Q (need b r)) : b = true ∧ OKV K av H Q r := by
  cases b with
  | true => exact ⟨rfl, h⟩
  | false => exact h.elim
theorem Rep.newL {xs : List V} {ds : List D} {p : Addr} (dm : Dom av H) (h : H p = none) (r : Reps K av H xs ds) : Rep K av (upd H p (.lst xs)) (.ref p) (.lst ds) :=
  .lst upd_same (dm.new h) (r.ext (Same.upd h).ext)
theorem Rep.newT {xs : List V} {ds : List D} {p : Addr} {o : Obj} (ho : o.dict = none) (dm : Dom av H) (h : H p = none) (r : Reps K av H xs ds) : Rep K av (upd H p (.frz o (.tup xs))) (.ref p) (.tup ds) :=
  .tup (.inl ⟨⟨o, ho, upd_same⟩, dm.new h⟩) (r.ext (Same.upd h).ext)
theorem Fr.new {xs : List V} {ds : List D} {p : Addr} (h : H p = none) (r : Reps K av H xs ds) : Fr K av H (upd H p (.lst xs)) (.ref p) (.lst ds) := fun es e => by
  cases e
  exact ⟨p, xs, rfl, h, upd_same, (r.wid.mono fun a z => z.elim .inl fun z => .inr (by rw [z]; exact h)).ext (Same.upd h).ext⟩
theorem OKV.lst {ds : List D} {xs : List V} (q : OKV K av H Q (.ok (.lst ds))) (dm : Dom av H) (r : Reps K av H xs ds) : ∀ p, H p = none → Q (.ref p) (upd H p (.lst xs)) :=
  fun p h => q _ _ (Same.upd h) (Rep.newL dm h r) (Fr.new h r)
/-- a new tuple, its dict none -/
def NewT (H : Hp) (Q : VK) (xs : List V) : Prop := ∀ (p : Addr) (o : Obj), o.dict = none → H p = none → Q (.ref p) (upd H p (.frz o (.tup xs)))
theorem OKV.tup {ds : List D} {xs : List V} (q : OKV K av H Q (.ok (.tup ds))) (dm : Dom av H) (r : Reps K av H xs ds) : NewT H Q xs :=
  fun p o ho h => q _ _ (Same.upd h) (Rep.newT ho dm h r) (.no fun _ e => by cases e)
theorem OKV.int {i : Int} (q : OKV K av H Q (.ok (.int i))) : Q (.int i) H := q _ _ (Same.refl H) (.int i) (.no fun _ e => by cases e)
theorem OKV.bl {i : Bool} (q : OKV K av H Q (.ok (.bl i))) : Q (.bl i) H := q _ _ (Same.refl H) (.bl i) (.no fun _ e => by cases e)
theorem OKV.str {i : Str} (q : OKV K av H Q (.ok (.str i))) : Q (.str i) H := q _ _ (Same.refl H) (.str i) (.no fun _ e => by cases e)
theorem OKV.is {ds : List D} {v : V} (q : OKV K av H Q (.ok (.tup ds))) (r : Rep K av H v (.tup ds)) : Q v H := q _ _ (Same.refl H) r (.no fun _ e => by cases e)
theorem OKW.is {d : D} {v : V} (q : OKW K av H Q (.ok d)) (r : Rep K av H v d) : Q v H := q _ _ (Same.refl H) r
end
end Li

/-! t * 1, t * 0 of a tuple -/
namespace Li
open PySem PySem.Spec PyProof.Rows L2
theorem mul1_tup (l : Addr) (items : Array Value) (n : Nat) (dd : Option Addr) (sl : Array (Option Value)) (u : Tok) :
    Meets (Builtin.«tuple.__mul__» ⟨[.ref l, .int 1 u], []⟩) (fun _ R s => s.heap.get? l = some { cls := .type "tuple", dict := dd, data := .seq items n, slots := sl } ∧ R (.ok (.ret (Value.ref l))) s) :=
  .of_wp fun prog w A R s h => by
    obtain ⟨hp, g, d, tk, os⟩ := s
    obtain ⟨hl, h⟩ := h
    have f1 := AutoSeq1.idx_int
    have c0 : (decide ((1 : Int) < -(2 ^ 63)) || decide ((1 : Int) ≥ 2 ^ 63)) = false := by decide
    have c1 : (items.isEmpty || (1 : Int) == 1) = true := by simp
    wp_walk using wpAny_loadPart' hl
    repeat (first
      | (refine wpAny_ite_false (decide_eq_false (by rw [c0]; exact Bool.false_ne_true)) ?_; wp_walk using wpAny_loadPart' hl)
      | (refine wpAny_ite_true (decide_eq_true c1) ?_; wp_walk using wpAny_loadPart' hl))
    exact ⟨_, rfl, h⟩
theorem mul0_tup (l : Addr) (items : Array Value) (n : Nat) (dd : Option Addr) (sl : Array (Option Value)) (u : Tok) (hi : items.isEmpty = false) :
    Meets (Builtin.«tuple.__mul__» ⟨[.ref l, .int 0 u], []⟩) (fun _ R s => s.heap.get? l = some { cls := .type "tuple", dict := dd, data := .seq items n, slots := sl } ∧ R (.ok (.ret (Value.ref s.heap.objs.size))) { s with heap := s.heap.push { cls := Value.type "tuple", data := Data.seq #[] }, toks := s.toks }) :=
  .of_wp fun prog w A R s h => by
    obtain ⟨hp, g, d, tk, os⟩ := s
    obtain ⟨hl, h⟩ := h
    have f1 := AutoSeq1.idx_int
    have c0 : (decide ((0 : Int) < -(2 ^ 63)) || decide ((0 : Int) ≥ 2 ^ 63)) = false := by decide
    have c1 : (items.isEmpty || (0 : Int) == 1) = false := by rw [hi]; decide
    have c2 : (decide ((0 : Int) ≤ 0) || items.isEmpty) = true := by simp
    have c5 : (#[] : Array Value).size ≤ sizeLine := Nat.zero_le _
    wp_walk using wpAny_loadPart' hl
    repeat (first
      | (refine wpAny_ite_false (decide_eq_false (by rw [c0]; exact Bool.false_ne_true)) ?_; wp_walk using wpAny_loadPart' hl)
      | (refine wpAny_ite_false (decide_eq_false (by rw [c1]; exact Bool.false_ne_true)) ?_; wp_walk using wpAny_loadPart' hl)
      | (refine wpAny_ite_true (decide_eq_true c2) ?_; wp_walk using wpAny_loadPart' hl)
      | (refine wpAny_ite_false (decide_eq_false (Nat.not_lt.mpr c5)) ?_; wp_walk using wpAny_loadPart' hl))
    exact ⟨_, rfl, h⟩
/-- a new tuple is laid -/
theorem laidT {X : Cx} {pins : List (Addr × Obj)} {σ : L2.St} {H : Hp} {s : Shared} {xs : List V} {its : List Value} {Q : VK} (I : Inv X pins σ H s) (hz : xs.length ≤ sizeLine) (r : Vals xs its) (q : NewT H Q xs) :
    EP X pins σ Q (.ref s.heap.objs.size) { s with heap := s.heap.push { cls := .type "tuple", data := .seq its.toArray } } :=
  ⟨.ref s.heap.objs.size, _, I.laid (t' := s.toks) (o := .frz { cls := .type "tuple", data := .seq its.toArray } (.tup xs)) (fun b ob q => Heap.get?_push_of_some _ q) (Nat.le_refl _) ⟨Heap.get?_push_size _ rfl, hz, its, r, IsTup.new _ _⟩, rfl, q _ _ rfl (I.hok.fresh (Nat.le_refl _))⟩
def rRep01 (K : PySem.W.Frag) : R2 := fun x y H Q => ∃ l k xs, x = .ref l ∧ y = .int k ∧ SqT K H l xs ∧ xs ≠ [] ∧ ((k = 1 ∧ Q (.ref l) H) ∨ (k = 0 ∧ NewT H Q []))
theorem op_rep01 {X : Cx} : OpR X (binaryOp .Mult) (rRep01 X.K) := by
  intro pins s σ H x y v u Q I rx ry h
  obtain ⟨l, k, xs, rfl, rfl, hT, hne, q⟩ := h
  cases rx
  obtain ⟨t, rfl⟩ := ry
  obtain ⟨its, r, ⟨⟨cls, dd, data, sl⟩, ho, hc, n, hd⟩, hs⟩ := I.tuple hT
  simp only at hc hd
  subst hc hd
  have hle : its.length = xs.length := r.length.symm
  have hi : its.toArray.isEmpty = false := by
    cases its with
    | nil => exact absurd (List.eq_nil_of_length_eq_zero hle.symm) hne
    | cons a b => rfl
  refine wpAny_binaryOp_repeat_ref (T := "tuple") (U := "int") (by decide) ⟨_, ho, rfl⟩ (fun s' => typeIs_int s' k t) noFill_tuple_mul F.fills_int_mul F.slot_int_rmul repeat_tuple F.slot_int_index.lookup
    (call_meets F.slot_int_rmul (typeIs_int s k t) F.entry_int_rmul (F.args_int_rmul_2 _ _) (int_rmul_tuple k t l its.toArray n dd sl) ⟨ho, rfl, ⟨_, ho, rfl⟩, ?_⟩)
  rcases q with ⟨rfl, q⟩ | ⟨rfl, q⟩
  · exact call_meets F.slot_tuple_mul ⟨_, ho, rfl⟩ F.entry_tuple_mul (F.args_tuple_mul_2 _ _) (mul1_tup l its.toArray n dd sl t) ⟨ho, .ref l, H, I, rfl, q⟩
  · refine call_meets F.slot_tuple_mul ⟨_, ho, rfl⟩ F.entry_tuple_mul (F.args_tuple_mul_2 _ _) (mul0_tup l its.toArray n dd sl t hi) ⟨ho, ?_⟩
    exact laidT (its := []) I (Nat.zero_le _) .nil q
/-! ### tuples are made, their dict none -/
def tTupC (t : TA) : TE := fun σ H Q => t σ H fun xs H1 => xs.length ≤ sizeLine ∧ NewT H1 Q xs
theorem pe_tupC {X : Cx} {es : List Expr} {t : TA} {pos : Pos} {x1} (h : PA X es t) : PE X (.Tuple es x1 pos) (tTupC t) := by
  refine ⟨fun pins s σ H Q I hq => ?_⟩
  refine wpAny_Tuple_spliced (thn (h.run pos pins s σ H _ I hq) fun us s1 ⟨xs, H1, I1, r, z, q⟩ => ⟨by rw [← r.length]; exact z, ?_⟩)
  exact laidT I1 z r q
theorem call_tupleC {X : Cx} : CallR X (.type "tuple") (fun xs H Q => ∃ p ys, xs = [.ref p] ∧ ((SqL X.K H p ys ∧ NewT H Q ys) ∨ (SqT X.K H p ys ∧ Q (.ref p) H))) := by
  intro pins s σ H xs us Q I r h
  obtain ⟨p, ys, rfl, h⟩ := h
  obtain ⟨u, rfl, rx⟩ := vals1 r
  cases rx
  rcases h with ⟨hq, q⟩ | ⟨hq, q⟩
  · obtain ⟨its, r', pl, hz⟩ := I.list hq
    have hlen := r'.length
    refine call_tuple_list pl.isList (fun h' kp => ?_) (by simp only [List.size_toArray] <;> omega)
    have I1 : Inv X pins σ H { s with heap := h' } := I.kept (t' := s.toks) kp
    exact laidT I1 hz r' q
  · obtain ⟨its, r', pl, hz⟩ := I.tuple hq
    exact call_tuple_same pl ⟨.ref p, H, I, rfl, q⟩
def tTupRgC (te : L2.St → Hp → (Int → Int → Hp → Prop) → Prop) : TE := fun σ H Q => te σ H fun a b H1 => RgOk a b ∧ NewT H1 Q (rgV a b)
theorem pe_tupRgC {X : Cx} {e : Expr} {te : L2.St → Hp → (Int → Int → Hp → Prop) → Prop} {p pos : Pos} (hc : X.calm = true) (hg : Gl X "tuple") (hm : X.mg "tuple" = none) (he : PRg X e te) (na : starEach [e] X.env = (false, eval e X.env) :: starEach [] X.env := by rfl) : PE X (.Call (.Name "tuple" p) [e] [] pos) (tTupRgC te) := by
  refine ⟨fun pins s σ H Q I h => ?_⟩
  refine Call_ (ld_blt I hg hm boot_tuple (PyProof.Rows.callWith_type1 (args_cons (thn (he pins s σ H _ I h) fun x s1 ⟨r, a, b, t, u, v, H1, ex, hr, I1, ok, q⟩ => args_nil ?_) na) na))
  subst ex
  obtain ⟨b1, b2, b3, b4, b5⟩ := ok
  refine call_tuple_range (n := (b - a).toNat) (I1.ok.hd hc) hr (small_one b1 b2 b3 b4) (rangeSize_nat a b) b5 fun h' tk acc hk hi => ?_
  have I2 : Inv X pins σ H1 { s1 with heap := h', toks := tk } := I1.kept hk
  have := laidT (its := acc.toList) I2 (by rw [rgV_length, sizeLine_eq]; omega) (vals_rg hi) q
  rw [Array.toArray_toList] at this
  exact this
def rCatC (K : PySem.W.Frag) : R2 := fun x y H Q => ∃ a b xs ys, x = .ref a ∧ y = .ref b ∧ SqT K H a xs ∧ SqT K H b ys ∧ xs.length + ys.length ≤ sizeLine ∧
  (xs = [] → Q (.ref b) H) ∧ (xs ≠ [] → ys = [] → Q (.ref a) H) ∧ (xs ≠ [] → ys ≠ [] → NewT H Q (xs ++ ys))
theorem op_catC {X : Cx} : OpR X (binaryOp .Add) (rCatC X.K) := by
  intro pins s σ H x y v u Q I rx ry h
  obtain ⟨a, b, xs, ys, rfl, rfl, ha, hb, hz, q0, q1, q2⟩ := h
  cases rx
  cases ry
  obtain ⟨its, r1, p1, _⟩ := I.tuple ha
  obtain ⟨its2, r2, p2, _⟩ := I.tuple hb
  by_cases hx : xs = []
  · subst hx
    cases r1
    exact cat_tup0 p1 p2 ⟨.ref b, H, I, rfl, q0 rfl⟩
  · refine HT.cat_tup p1 p2 (fun z => hx (r1.nil_iff.mp z)) (fun z => ⟨.ref a, H, I, rfl, q1 hx (r2.nil_iff.mp z)⟩) (fun z => ?_) (by rw [← r1.length, ← r2.length]; exact hz)
    exact laidT (its := its ++ its2) I (by rw [List.length_append]; exact hz) (r1.append r2) (q2 hx fun w => z (r2.nil_iff.mpr w))
def rSlC (K : PySem.W.Frag) : V → Option Int → Option Int → Hp → VK → Prop := fun x lo hi H Q => ∃ a xs, x = .ref a ∧ SqT K H a xs ∧
  (HT.sIx xs.length 0 lo = 0 ∧ HT.sIx xs.length xs.length hi = xs.length → Q (.ref a) H) ∧ (¬ (HT.sIx xs.length 0 lo = 0 ∧ HT.sIx xs.length xs.length hi = xs.length) → NewT H Q (cutV xs lo hi))
theorem sl_tupC {X : Cx} : SlR X (rSlC X.K) := by
  intro pins s σ H x v vl vu lo hi sl Q I rx hs pl pu h
  obtain ⟨a, xs, rfl, hx, q1, q2⟩ := h
  cases rx
  obtain ⟨its, r, ht, hz⟩ := I.tuple hx
  have hlen : its.toArray.size = xs.length := by rw [List.size_toArray]; exact r.length.symm
  refine ⟨"tuple", _, PyProof.Rows.slot_tuple_getitem.lookup, ht.typeIs, ?_⟩
  by_cases hw : HT.sIx xs.length 0 lo = 0 ∧ HT.sIx xs.length xs.length hi = xs.length
  · exact getItem_tuple_whole ht hs pl pu (by rw [hlen]; exact hw) ⟨.ref a, H, I, rfl, q1 hw⟩
  · refine HT.getItem_tuple_cut ht hs pl pu (by rw [hlen]; exact hw) ?_ (by rw [hlen]; exact hz)
    rw [hlen]
    exact laidT I (Nat.le_trans (cutV_length xs lo hi) hz) ((r.drop (HT.sIx xs.length 0 lo)).take (HT.sIx xs.length xs.length hi - HT.sIx xs.length 0 lo)) (q2 hw)
def rRepC (K : PySem.W.Frag) : R2 := fun x y H Q => ∃ l k xs, x = .ref l ∧ y = .int k ∧ SqT K H l xs ∧ xs ≠ [] ∧ 2 ≤ k ∧ k ≤ 1000 ∧ xs.length ≤ 1000 ∧ NewT H Q (List.replicate k.toNat xs).flatten
theorem op_repC {X : Cx} : OpR X (binaryOp .Mult) (rRepC X.K) := by
  intro pins s σ H x y v u Q I rx ry h
  obtain ⟨l, k, xs, rfl, rfl, hT, hne, h1, h2, hz, q⟩ := h
  cases rx
  obtain ⟨t, rfl⟩ := ry
  obtain ⟨its, r, ⟨⟨cls, dd, data, sl⟩, ho, hc, n, hd⟩, hs⟩ := I.tuple hT
  simp only at hc hd
  subst hc hd
  have hle : its.length = xs.length := r.length.symm
  have hi : its.toArray.isEmpty = false := by
    cases its with
    | nil => exact absurd (List.eq_nil_of_length_eq_zero hle.symm) hne
    | cons a b => rfl
  have hsz0 : its.toArray.size = xs.length := by rw [List.size_toArray, hle]
  have a0 : k.toNat * xs.length ≤ 1000 * 1000 := Nat.mul_le_mul (by omega) hz
  have hm : ((its.toArray.size : Nat) : Int) * k ≤ 1000000 := by
    rw [hsz0]
    have a1 : ((xs.length : Nat) : Int) * k ≤ 1000 * k := Int.mul_le_mul_of_nonneg_right (by omega) (by omega)
    omega
  have flen : (List.replicate k.toNat its).flatten.length ≤ sizeLine := by
    rw [PyProof.Rows.lm_len_rep_flat, hle, sizeLine_eq]
    omega
  have c0 : (decide (k < -(2 ^ 63)) || decide (k ≥ 2 ^ 63)) = false := by
    rw [decide_eq_false (by omega), decide_eq_false (by omega)] <;> rfl
  have c1 : (its.toArray.isEmpty || k == 1) = false := by
    rw [hi, Bool.false_or]
    exact beq_eq_false_iff_ne.mpr (by omega)
  have c2 : (decide (k ≤ 0) || its.toArray.isEmpty) = false := by
    rw [hi, Bool.or_false]
    exact decide_eq_false (by omega)
  have c4 : Builtin.Tuple.tupleTooMany (((its.toArray.size : Nat) : Int) * k) = false := by
    unfold Builtin.Tuple.tupleTooMany
    rw [sizeLine_eq]
    exact decide_eq_false (by omega)
  refine wpAny_binaryOp_repeat_ref (T := "tuple") (U := "int") (by decide) ⟨_, ho, rfl⟩ (fun s' => typeIs_int s' k t) noFill_tuple_mul F.fills_int_mul F.slot_int_rmul repeat_tuple F.slot_int_index.lookup
    (call_meets F.slot_int_rmul (typeIs_int s k t) F.entry_int_rmul (F.args_int_rmul_2 _ _) (int_rmul_tuple k t l its.toArray n dd sl)
      ⟨ho, rfl, ⟨_, ho, rfl⟩, call_meets F.slot_tuple_mul ⟨_, ho, rfl⟩ F.entry_tuple_mul (F.args_tuple_mul_2 _ _) (tuple_mulW l its.toArray n dd sl k t c0 c1 c2 (by omega) c4 (by rw [size_rep, List.size_toArray]; exact flen)) ⟨ho, ?_⟩⟩)
  rw [size_rep]
  exact laidT I (by rw [PyProof.Rows.lm_len_rep_flat, sizeLine_eq]; omega) (r.rep k.toNat) q
end Li

/-! the operations, by data -/
namespace Li
open PySem PySem.Spec PyProof.Rows L2

/-! ### equality -/
mutual
def pd : D → PyData
  | .non => .none
  | .bl b => .bool b
  | .int i => .int i
  | .str x => .str x
  | .tup l => .tuple (pds l)
  | .lst l => .list (pds l)
  | .exc _ => .none
  | .scr l => .list (l.map PyData.int)
  | .dic _ => .none
def pds : List D → List PyData
  | [] => []
  | d :: l => pd d :: pds l
end
mutual
/-- no dict in it -/
def nd : D → Bool
  | .tup l => nds l
  | .lst l => nds l
  | .dic _ => false
  | _ => true
def nds : List D → Bool
  | [] => true
  | d :: l => nd d && nds l
end
theorem nds_cons {d : D} {l : List D} (h : nds (d :: l) = true) : nd d = true ∧ nds l = true := by
  simp only [nds, Bool.and_eq_true] at h
  exact h
mutual
theorem sh_nd : ∀ (n : Nat) (d : D), sh n d = true → nd d = true
  | _, .non, _ => by simp [nd]
  | _, .bl _, _ => by simp [nd]
  | _, .int _, _ => by simp [nd]
  | _, .str _, _ => by simp [nd]
  | 0, .tup _, h => by simp [sh] at h
  | 0, .lst _, h => by simp [sh] at h
  | n + 1, .tup l, h => by
    simp only [sh] at h
    simp only [nd]
    exact shs_nds n l h
  | n + 1, .lst l, h => by
    simp only [sh] at h
    simp only [nd]
    exact shs_nds n l h
  | _, .exc _, h => by simp [sh] at h
  | _, .scr _, _ => by simp [nd]
  | _, .dic _, h => by simp [sh] at h
theorem shs_nds : ∀ (n : Nat) (l : List D), shs n l = true → nds l = true
  | _, [], _ => by simp [nds]
  | n, d :: l, h => by
    simp only [shs, Bool.and_eq_true] at h
    simp only [nds, Bool.and_eq_true]
    exact ⟨sh_nd n d h.1, shs_nds n l h.2⟩
end
theorem dp_ints {K : PySem.W.Frag} {H : Hp} : ∀ (ns : List Int), DpAll K H (ns.map V.int) (ns.map PyData.int)
  | [] => .nil
  | n :: ns => .cons (.int n) (dp_ints ns)
mutual
theorem Rep.dp {K : PySem.W.Frag} {av : Av} {H : Hp} : ∀ {v : V} {d : D}, Rep K av H v d → nd d = true → Dp K H v (pd d)
  | _, _, .non, _ => .non
  | _, _, .bl b, _ => .bl b
  | _, _, .int i, _ => .int i
  | _, _, .str x, _ => .str x
  | _, _, .lst h _ r, e => .lst (SqL.of h) (Reps.dp r (by simpa [nd] using e))
  | _, _, .scr (ns := ns) h, _ => .lst h.sq (dp_ints ns)
  | _, _, .tup h r, e => .tup h.sq (Reps.dp r (by simpa [nd] using e))
  | _, _, .dic _ _, e => by simp [nd] at e
theorem Reps.dp {K : PySem.W.Frag} {av : Av} {H : Hp} : ∀ {v : List V} {d : List D}, Reps K av H v d → nds d = true → DpAll K H v (pds d)
  | _, _, .nil, _ => .nil
  | _, _, .cons a b, e => .cons (Rep.dp a (nds_cons e).1) (Reps.dp b (nds_cons e).2)
end
theorem RepW.dp {K : PySem.W.Frag} {av : Av} {H : Hp} {v : V} {d : D} (r : RepW K av H v d) (e : nd d = true) : Dp K H v (pd d) := by
  cases r with
  | non => exact .non
  | bl b => exact .bl b
  | int i => exact .int i
  | str x => exact .str x
  | lst h r => exact .lst (SqL.of h) (r.dp (by simpa [nd] using e))
  | scr h => exact .lst h (dp_ints _)
  | tup h r => exact .tup h.sq (r.dp (by simpa [nd] using e))
  | dic h => simp [nd] at e
mutual
theorem sh_pd : ∀ (n : Nat) (d : D), sh n d = true → (pd d).canLay0 = true ∧ (pd d).depth ≤ n
  | _, .non, _ => by simp [pd, PyData.canLay0, PyData.depth]
  | _, .bl _, _ => by simp [pd, PyData.canLay0, PyData.depth]
  | _, .int _, _ => by simp [pd, PyData.canLay0, PyData.depth]
  | _, .str x, h => by simp only [sh] at h; simp [pd, PyData.canLay0, PyData.depth, h]
  | 0, .tup _, h => by simp [sh] at h
  | 0, .lst _, h => by simp [sh] at h
  | n + 1, .tup l, h => by
    simp only [sh] at h
    have := shs_pd n l h
    simp only [pd, PyData.canLay0, PyData.depth]
    exact ⟨this.1, by omega⟩
  | n + 1, .lst l, h => by
    simp only [sh] at h
    have := shs_pd n l h
    simp only [pd, PyData.canLay0, PyData.depth]
    exact ⟨this.1, by omega⟩
  | _, .exc _, h => by simp [sh] at h
  | _, .scr _, h => by simp [sh] at h
  | _, .dic _, h => by simp [sh] at h
theorem shs_pd : ∀ (n : Nat) (l : List D), shs n l = true → PyData.canLayAll0 (pds l) = true ∧ PyData.depthAll (pds l) ≤ n
  | _, [], _ => by simp [pds, PyData.canLayAll0, PyData.depthAll]
  | n, d :: l, h => by
    simp only [shs, Bool.and_eq_true] at h
    have h1 := sh_pd n d h.1
    have h2 := shs_pd n l h.2
    simp only [pds, PyData.canLayAll0, PyData.depthAll, Bool.and_eq_true]
    exact ⟨⟨h1.1, h2.1⟩, by omega⟩
end
theorem sh_shaped {n : Nat} {d : D} (h : sh n d = true) (hn : n ≤ 64) : SeqAt.shaped (pd d) = true := by
  have := sh_pd n d h
  show ((pd d).canLay0 && decide ((pd d).depth ≤ 64)) = true
  rw [Bool.and_eq_true]
  exact ⟨this.1, decide_eq_true (by omega)⟩
theorem shs_shaped {n : Nat} {l : List D} (h : shs n l = true) (hn : n ≤ 63) : SeqAt.shaped (.list (pds l)) = true := by
  have := shs_pd n l h
  show (PyData.canLay0 (.list (pds l)) && decide (PyData.depth (.list (pds l)) ≤ 64)) = true
  rw [Bool.and_eq_true]
  refine ⟨?_, decide_eq_true ?_⟩
  · simp only [PyData.canLay0]; exact this.1
  · simp only [PyData.depth]; omega
theorem shs_shapedT {n : Nat} {l : List D} (h : shs n l = true) (hn : n ≤ 63) : SeqAt.shaped (.tuple (pds l)) = true := by
  have := shs_pd n l h
  show (PyData.canLay0 (.tuple (pds l)) && decide (PyData.depth (.tuple (pds l)) ≤ 64)) = true
  rw [Bool.and_eq_true]
  refine ⟨?_, decide_eq_true ?_⟩
  · simp only [PyData.canLay0]; exact this.1
  · simp only [PyData.depth]; omega
mutual
theorem eqD_pd : ∀ (n m : Nat) (d e : D), sh n d = true → sh m e = true → PyData.eqv (pd d) (pd e) = eqD d e
  | n, m, .tup l, .tup r, h1, h2 => by
    cases n with
    | zero => simp [sh] at h1
    | succ n =>
      cases m with
      | zero => simp [sh] at h2
      | succ m =>
        simp only [sh] at h1 h2
        simp only [pd, PyData.eqv, eqD]
        exact eqDs_pd n m l r h1 h2
  | n, m, .lst l, .lst r, h1, h2 => by
    cases n with
    | zero => simp [sh] at h1
    | succ n =>
      cases m with
      | zero => simp [sh] at h2
      | succ m =>
        simp only [sh] at h1 h2
        simp only [pd, PyData.eqv, eqD]
        exact eqDs_pd n m l r h1 h2
  | _, _, .exc _, _, h1, _ => by simp [sh] at h1
  | _, _, .scr _, _, h1, _ => by simp [sh] at h1
  | _, _, .dic _, _, h1, _ => by simp [sh] at h1
  | _, _, d, .exc _, _, h2 => by simp [sh] at h2
  | _, _, d, .scr _, _, h2 => by simp [sh] at h2
  | _, _, d, .dic _, _, h2 => by simp [sh] at h2
  | _, _, .non, .non, _, _ | _, _, .non, .bl _, _, _ | _, _, .non, .int _, _, _ | _, _, .non, .str _, _, _ | _, _, .non, .tup _, _, _ | _, _, .non, .lst _, _, _ => by simp [pd, PyData.eqv, eqD]
  | _, _, .bl _, .non, _, _ | _, _, .bl _, .bl _, _, _ | _, _, .bl _, .int _, _, _ | _, _, .bl _, .str _, _, _ | _, _, .bl _, .tup _, _, _ | _, _, .bl _, .lst _, _, _ => by simp [pd, PyData.eqv, eqD]
  | _, _, .int _, .non, _, _ | _, _, .int _, .bl _, _, _ | _, _, .int _, .int _, _, _ | _, _, .int _, .str _, _, _ | _, _, .int _, .tup _, _, _ | _, _, .int _, .lst _, _, _ => by simp [pd, PyData.eqv, eqD]
  | _, _, .str _, .non, _, _ | _, _, .str _, .bl _, _, _ | _, _, .str _, .int _, _, _ | _, _, .str _, .str _, _, _ | _, _, .str _, .tup _, _, _ | _, _, .str _, .lst _, _, _ => by simp [pd, PyData.eqv, eqD]
  | _, _, .tup _, .non, _, _ | _, _, .tup _, .bl _, _, _ | _, _, .tup _, .int _, _, _ | _, _, .tup _, .str _, _, _ | _, _, .tup _, .lst _, _, _ => by simp [pd, PyData.eqv, eqD]
  | _, _, .lst _, .non, _, _ | _, _, .lst _, .bl _, _, _ | _, _, .lst _, .int _, _, _ | _, _, .lst _, .str _, _, _ | _, _, .lst _, .tup _, _, _ => by simp [pd, PyData.eqv, eqD]
theorem eqDs_pd : ∀ (n m : Nat) (d e : List D), shs n d = true → shs m e = true → PyData.eqvAll (pds d) (pds e) = eqDs d e
  | _, _, [], [], _, _ => by simp [pds, PyData.eqvAll, eqDs]
  | _, _, [], _ :: _, _, _ => by simp [pds, PyData.eqvAll, eqDs]
  | _, _, _ :: _, [], _, _ => by simp [pds, PyData.eqvAll, eqDs]
  | n, m, d :: l, e :: r, h1, h2 => by
    simp only [shs, Bool.and_eq_true] at h1 h2
    simp only [pds, PyData.eqvAll, eqDs]
    rw [eqD_pd n m d e h1.1 h2.1, eqDs_pd n m l r h1.2 h2.2]
end

/-! ### comparisons -/
theorem imp2 {X : Cx} {f : Value → Value → Sem Value} {r r' : R2} (h : OpR X f r) (k : ∀ x y H Q, r' x y H Q → r x y H Q) : OpR X f r' :=
  fun pins s σ H x y v u Q I rx ry q => h pins s σ H x y v u Q I rx ry (k x y H Q q)
/-- two data, and what is wanted of the result -/
def r2 (K : PySem.W.Frag) (f : D → D → Res D) : R2 := fun x y H Q => ∃ av a b, Dom av H ∧ RepW K av H x a ∧ RepW K av H y b ∧ OKV K av H Q (f a b)
def r2w (K : PySem.W.Frag) (f : D → D → Res D) : R2 := fun x y H Q => ∃ av a b, Dom av H ∧ RepW K av H x a ∧ RepW K av H y b ∧ OKW K av H Q (f a b)
theorem shand {a b : Bool} (h : (a && b) = true) : a = true ∧ b = true := by simpa using h
theorem op_eqR {X : Cx} (hu : X.A.units + 64 < cLine) : OpR X (compareOp .Eq) (r2 X.K eqR) := by
  refine imp2 (op_eqD hu) ?_
  rintro x y H Q ⟨av, a, b, dm, ra, rb, q⟩
  have gen : (∀ ns, a = .scr ns → b ≠ .lst []) → ∃ d e, Dp X.K H x d ∧ Dp X.K H y e ∧ SeqAt.shaped d = true ∧ SeqAt.shaped e = true ∧ Q (.bl (PyData.eqv d e)) H := by
    intro hn
    have e : eqR a b = need (sh 60 a && sh 60 b) (.ok (.bl (eqD a b))) := by
      unfold eqR
      split
      · exact absurd rfl (hn _ rfl)
      · rfl
    rw [e] at q
    obtain ⟨hs, q⟩ := q.need
    obtain ⟨h1, h2⟩ := shand hs
    refine ⟨pd a, pd b, ra.dp (sh_nd _ _ h1), rb.dp (sh_nd _ _ h2), sh_shaped h1 (by decide), sh_shaped h2 (by decide), ?_⟩
    rw [eqD_pd 60 60 a b h1 h2]
    exact q.bl
  cases a with
  | scr ns =>
    cases b with
    | lst l =>
      cases l with
      | nil =>
        have q' : OKV X.K av H Q (.ok (.bl ns.isEmpty)) := q
        refine ⟨_, _, ra.dp (by simp [nd]), rb.dp (by simp [nd, nds]), ?_, ?_, ?_⟩
        · show (PyData.canLay0 (.list (ns.map PyData.int)) && decide (PyData.depth (.list (ns.map PyData.int)) ≤ 64)) = true
          rw [Bool.and_eq_true]
          have : ∀ ns : List Int, PyData.canLayAll0 (ns.map PyData.int) = true ∧ PyData.depthAll (ns.map PyData.int) = 0 := fun ns => by
            induction ns with
            | nil => simp [PyData.canLayAll0, PyData.depthAll]
            | cons n ns ih => simp [PyData.canLayAll0, PyData.depthAll, PyData.canLay0, PyData.depth, ih]
          refine ⟨?_, decide_eq_true ?_⟩
          · simp only [PyData.canLay0]; exact (this ns).1
          · simp only [PyData.depth]; have := (this ns).2; omega
        · decide
        · have e : PyData.eqv (pd (.scr ns)) (pd (.lst [])) = ns.isEmpty := by
            cases ns <;> simp [pd, pds, PyData.eqv, PyData.eqvAll]
          rw [e]
          exact q'.bl
      | cons z l => exact gen fun _ _ h => by simp at h
    | _ => exact gen fun _ _ h => by simp at h
  | _ => exact gen fun _ h => by simp at h
theorem op_neR {X : Cx} (hu : X.A.units + 64 < cLine) : OpR X (compareOp .NotEq) (r2 X.K neR) := by
  refine imp2 (op_neD hu) ?_
  rintro x y H Q ⟨av, a, b, dm, ra, rb, q⟩
  obtain ⟨hs, q⟩ := OKV.need q
  obtain ⟨h1, h2⟩ := shand hs
  refine ⟨pd a, pd b, ra.dp (sh_nd _ _ h1), rb.dp (sh_nd _ _ h2), sh_shaped h1 (by decide), sh_shaped h2 (by decide), ?_⟩
  rw [eqD_pd 60 60 a b h1 h2]
  exact q.bl
theorem any_pds {x : D} {n : Nat} (hx : sh n x = true) {m : Nat} : ∀ {l : List D}, shs m l = true → ((pds l).any fun z => PyData.eqv z (pd x)) = inD x l
  | [], _ => rfl
  | d :: l, h => by
    simp only [shs, Bool.and_eq_true] at h
    simp only [pds, List.any_cons, inD]
    rw [eqD_pd m n d x h.1 hx, any_pds hx h.2]
    rfl
/-- in over a tuple, by data -/
theorem in_tup {X : Cx} (hu : X.A.units + 65 < cLine) {pins : List (Addr × Obj)} {s : Shared} {σ : L2.St} {H : Hp} (I : Inv X pins σ H s) {x y : V} {v u : Value} (rx : RelV x v) (ry : RelV y u) {d : PyData} {ds : List PyData}
    (hd : Dp X.K H x d) (he : Dp X.K H y (.tuple ds)) (sd : SeqAt.shaped d = true) (se : SeqAt.shaped (.tuple ds) = true) {E : Value → Shared → Prop} {Q : Value → Shared → Prop} (q : Q (.bool (ds.any fun z => PyData.eqv z d)) s) :
    wpAny (model X.prog X.w) X.A (compareOp .In v u) Q E s := by
  obtain ⟨as, r1⟩ := Dp.reads I d x v hd rx
  obtain ⟨bs, r2⟩ := Dp.reads I (.tuple ds) y u he ry
  exact SeqAt.in_tuple_reads r2 r1 (SeqAt.canLay_of_shaped se) (SeqAt.canLay_of_shaped sd) (room_in_shaped sd hu) q

theorem notIn_tup {X : Cx} (hu : X.A.units + 65 < cLine) {pins : List (Addr × Obj)} {s : Shared} {σ : L2.St} {H : Hp} (I : Inv X pins σ H s) {x y : V} {v u : Value} (rx : RelV x v) (ry : RelV y u) {d : PyData} {ds : List PyData}
    (hd : Dp X.K H x d) (he : Dp X.K H y (.tuple ds)) (sd : SeqAt.shaped d = true) (se : SeqAt.shaped (.tuple ds) = true) {E : Value → Shared → Prop} {Q : Value → Shared → Prop} (q : Q (.bool (!ds.any fun z => PyData.eqv z d)) s) :
    wpAny (model X.prog X.w) X.A (compareOp .NotIn v u) Q E s := by
  obtain ⟨as, r1⟩ := Dp.reads I d x v hd rx
  obtain ⟨bs, r2⟩ := Dp.reads I (.tuple ds) y u he ry
  exact SeqAt.notIn_tuple_reads r2 r1 (SeqAt.canLay_of_shaped se) (SeqAt.canLay_of_shaped sd) (room_in_shaped sd hu) q
theorem one_sign {x : Str} (h : x.cps.toList.length = 1) : ∃ c, x = ⟨#[c]⟩ := by
  obtain ⟨cps⟩ := x
  have h : cps.toList.length = 1 := h
  obtain ⟨c, hc⟩ := List.length_eq_one_iff.mp h
  exact ⟨c, congrArg Str.mk (Array.toList_inj.mp hc)⟩
theorem inS_one (c : Nat) (y : Str) : inS ⟨#[c]⟩ y = decide (c ∈ y.cps.toList) := by
  show (decide (c ∈ y.cps.toList) && true) = _
  rw [Bool.and_true]
theorem op_inR {X : Cx} (hu : X.A.units + 65 < cLine) : OpR X (compareOp .In) (r2 X.K inR) := by
  intro pins s σ H x y v u Q I rx ry h
  obtain ⟨av, a, b, dm, ra, rb, q⟩ := h
  cases b with
  | lst l =>
    obtain ⟨hs, q⟩ := OKV.need q
    obtain ⟨h1, h2⟩ := shand hs
    refine op_inD hu pins s σ H x y v u Q I rx ry ⟨pd a, pds l, ra.dp (sh_nd _ _ h1), rb.dp (by simp only [nd]; exact shs_nds _ _ h2), sh_shaped h1 (by decide), shs_shaped h2 (by decide), ?_⟩
    rw [any_pds h1 h2]
    exact q.bl
  | tup l =>
    obtain ⟨hs, q⟩ := OKV.need q
    obtain ⟨h1, h2⟩ := shand hs
    refine in_tup hu I rx ry (ra.dp (sh_nd _ _ h1)) (rb.dp (by simp only [nd]; exact shs_nds _ _ h2)) (sh_shaped h1 (by decide)) (shs_shapedT h2 (by decide)) ?_
    rw [any_pds h1 h2]
    exact ⟨.bl _, H, I, rfl, q.bl⟩
  | str z =>
    cases ra with
    | str z0 =>
      obtain ⟨hs, q⟩ := OKV.need q
      obtain ⟨c, rfl⟩ := one_sign (of_decide_eq_true hs)
      rw [inS_one] at q
      cases rb
      exact op_in_sign pins s σ H _ _ v u Q I rx ry ⟨c, z, rfl, rfl, q.bl⟩
    | _ => exact (show False from q).elim
  | _ => exact (show False from q).elim
theorem notR_need {b c : Bool} : notR (need b (.ok (.bl c))) = need b (.ok (.bl (!c))) := by cases b <;> rfl
theorem op_notInR {X : Cx} (hu : X.A.units + 65 < cLine) : OpR X (compareOp .NotIn) (r2 X.K fun a b => notR (inR a b)) := by
  intro pins s σ H x y v u Q I rx ry h
  obtain ⟨av, a, b, dm, ra, rb, q⟩ := h
  cases b with
  | lst l =>
    simp only [inR, notR_need] at q
    obtain ⟨hs, q⟩ := OKV.need q
    obtain ⟨h1, h2⟩ := shand hs
    refine op_notInD hu pins s σ H x y v u Q I rx ry ⟨pd a, pds l, ra.dp (sh_nd _ _ h1), rb.dp (by simp only [nd]; exact shs_nds _ _ h2), sh_shaped h1 (by decide), shs_shaped h2 (by decide), ?_⟩
    rw [any_pds h1 h2]
    exact q.bl
  | tup l =>
    simp only [inR, notR_need] at q
    obtain ⟨hs, q⟩ := OKV.need q
    obtain ⟨h1, h2⟩ := shand hs
    refine notIn_tup hu I rx ry (ra.dp (sh_nd _ _ h1)) (rb.dp (by simp only [nd]; exact shs_nds _ _ h2)) (sh_shaped h1 (by decide)) (shs_shapedT h2 (by decide)) ?_
    rw [any_pds h1 h2]
    exact ⟨.bl _, H, I, rfl, q.bl⟩
  | str z =>
    cases ra with
    | str z0 =>
      simp only [inR, notR_need] at q
      obtain ⟨hs, q⟩ := OKV.need q
      obtain ⟨c, rfl⟩ := one_sign (of_decide_eq_true hs)
      rw [inS_one] at q
      cases rb
      exact op_notIn_sign pins s σ H _ _ v u Q I rx ry ⟨c, z, rfl, rfl, q.bl⟩
    | _ => exact (show False from q).elim
  | _ => exact (show False from q).elim
/-! order -/
theorem all_ints : ∀ {l : List D}, l.all isInt = true → l = (l.map toI).map D.int
  | [], _ => rfl
  | d :: l, h => by
    rw [List.all_cons, Bool.and_eq_true] at h
    have e := all_ints h.2
    cases d with
    | int i => simp only [List.map_cons, toI]; rw [← e]
    | _ => simp [isInt] at h
theorem ltDs_ints : ∀ (ns ms : List Int), ltDs (ns.map D.int) (ms.map D.int) = HT.lexLt ns ms
  | [], [] => rfl
  | [], _ :: _ => rfl
  | _ :: _, [] => rfl
  | n :: ns, m :: ms => by
    rw [HT.lexLt_cons]
    show (if eqD (.int n) (.int m) = true then ltDs (ns.map D.int) (ms.map D.int) else ltD (.int n) (.int m)) = _
    rw [ltDs_ints ns ms]
    have e : eqD (.int n) (.int m) = (n == m) := by simp [eqD]
    rw [e]
    by_cases h : n = m
    · subst h; simp
    · simp [h, ltD]
mutual
theorem alk_pd : ∀ (a b : D), alk a b = true → PySem.W.alike (pd a) (pd b) = true
  | .int _, .int _, _ => by simp [pd, PySem.W.alike]
  | .tup xs, .tup ys, h => by
    simp only [alk] at h
    simp only [pd, PySem.W.alike]
    exact alks_pd xs ys h
  | .int _, .tup _, h => by simp [alk] at h
  | .tup _, .int _, h => by simp [alk] at h
  | .non, _, h => by simp [alk] at h
  | .bl _, _, h => by simp [alk] at h
  | .str _, _, h => by simp [alk] at h
  | .lst _, _, h => by simp [alk] at h
  | .exc _, _, h => by simp [alk] at h
  | .scr _, _, h => by simp [alk] at h
  | .dic _, _, h => by simp [alk] at h
  | .int _, .non, h => by simp [alk] at h
  | .int _, .bl _, h => by simp [alk] at h
  | .int _, .str _, h => by simp [alk] at h
  | .int _, .lst _, h => by simp [alk] at h
  | .int _, .exc _, h => by simp [alk] at h
  | .int _, .scr _, h => by simp [alk] at h
  | .int _, .dic _, h => by simp [alk] at h
  | .tup _, .non, h => by simp [alk] at h
  | .tup _, .bl _, h => by simp [alk] at h
  | .tup _, .str _, h => by simp [alk] at h
  | .tup _, .lst _, h => by simp [alk] at h
  | .tup _, .exc _, h => by simp [alk] at h
  | .tup _, .scr _, h => by simp [alk] at h
  | .tup _, .dic _, h => by simp [alk] at h
theorem alks_pd : ∀ (a b : List D), alks a b = true → PySem.W.alikeAll (pds a) (pds b) = true
  | [], _, _ => by simp [pds, PySem.W.alikeAll]
  | _ :: _, [], _ => by simp [pds, PySem.W.alikeAll]
  | x :: xs, y :: ys, h => by
    simp only [alks, Bool.and_eq_true] at h
    simp only [pds, PySem.W.alikeAll, Bool.and_eq_true]
    exact ⟨alk_pd x y h.1, alks_pd xs ys h.2⟩
end
mutual
theorem ltD_pd : ∀ (a b : D) (n m : Nat), alk a b = true → sh n a = true → sh m b = true → PySem.W.dataLt (pd a) (pd b) = ltD a b
  | .int i, .int j, _, _, _, _, _ => PySem.W.dataLt_int i j
  | .tup xs, .tup ys, n, m, h, h1, h2 => by
    simp only [alk] at h
    cases n with
    | zero => simp [sh] at h1
    | succ n =>
      cases m with
      | zero => simp [sh] at h2
      | succ m =>
        simp only [sh] at h1 h2
        show PySem.W.dataLt (.tuple (pds xs)) (.tuple (pds ys)) = ltDs xs ys
        rw [PySem.W.dataLt_tuple]
        exact ltDs_pd xs ys n m h h1 h2
  | .int _, .tup _, _, _, h, _, _ => by simp [alk] at h
  | .tup _, .int _, _, _, h, _, _ => by simp [alk] at h
  | .non, _, _, _, h, _, _ => by simp [alk] at h
  | .bl _, _, _, _, h, _, _ => by simp [alk] at h
  | .str _, _, _, _, h, _, _ => by simp [alk] at h
  | .lst _, _, _, _, h, _, _ => by simp [alk] at h
  | .exc _, _, _, _, h, _, _ => by simp [alk] at h
  | .scr _, _, _, _, h, _, _ => by simp [alk] at h
  | .dic _, _, _, _, h, _, _ => by simp [alk] at h
  | .int _, .non, _, _, h, _, _ => by simp [alk] at h
  | .int _, .bl _, _, _, h, _, _ => by simp [alk] at h
  | .int _, .str _, _, _, h, _, _ => by simp [alk] at h
  | .int _, .lst _, _, _, h, _, _ => by simp [alk] at h
  | .int _, .exc _, _, _, h, _, _ => by simp [alk] at h
  | .int _, .scr _, _, _, h, _, _ => by simp [alk] at h
  | .int _, .dic _, _, _, h, _, _ => by simp [alk] at h
  | .tup _, .non, _, _, h, _, _ => by simp [alk] at h
  | .tup _, .bl _, _, _, h, _, _ => by simp [alk] at h
  | .tup _, .str _, _, _, h, _, _ => by simp [alk] at h
  | .tup _, .lst _, _, _, h, _, _ => by simp [alk] at h
  | .tup _, .exc _, _, _, h, _, _ => by simp [alk] at h
  | .tup _, .scr _, _, _, h, _, _ => by simp [alk] at h
  | .tup _, .dic _, _, _, h, _, _ => by simp [alk] at h
theorem ltDs_pd : ∀ (a b : List D) (n m : Nat), alks a b = true → shs n a = true → shs m b = true → PyProof.Rows.lexLt PyProof.Rows.itemOrd (PySem.W.keyToksAll (pds a)) (PySem.W.keyToksAll (pds b)) = ltDs a b
  | [], [], _, _, _, _, _ => by rfl
  | [], _ :: _, _, _, _, _, _ => by
    simp only [pds, ltDs, PySem.W.keyToksAll]
    rfl
  | _ :: _, [], _, _, _, _, _ => by
    simp only [pds, ltDs, PySem.W.keyToksAll]
    rfl
  | x :: xs, y :: ys, n, m, h, h1, h2 => by
    simp only [alks, Bool.and_eq_true] at h
    simp only [shs, Bool.and_eq_true] at h1 h2
    have e := eqD_pd n m x y h1.1 h2.1
    simp only [pds, ltDs]
    cases q : eqD x y with
    | true =>
      rw [q] at e
      rw [PySem.W.dataLt_all_yes (alk_pd x y h.1) e, if_pos rfl]
      exact ltDs_pd xs ys n m h.2 h1.2 h2.2
    | false =>
      rw [q] at e
      rw [PySem.W.dataLt_all_no (alk_pd x y h.1) e, if_neg Bool.false_ne_true]
      exact ltD_pd x y n m h.1 h1.1 h2.1
end
mutual
theorem alk_comm : ∀ (a b : D), alk a b = true → alk b a = true := by
  intro a b h
  cases a <;> cases b <;> first | (simp only [alk]; done) | (simp [alk] at h; done) | (simp only [alk] at h ⊢; exact alks_comm _ _ h)
theorem alks_comm : ∀ (a b : List D), alks a b = true → alks b a = true
  | [], [], _ => rfl
  | [], _ :: _, _ => rfl
  | _ :: _, [], _ => rfl
  | x :: xs, y :: ys, h => by
    simp only [alks, Bool.and_eq_true] at h ⊢
    exact ⟨alk_comm x y h.1, alks_comm xs ys h.2⟩
end
theorem dp_depth {n : Nat} {l : List D} (h : shs n l = true) : (PyData.tuple (pds l)).depth ≤ n + 1 := by
  have := (shs_pd n l h).2
  simp only [PyData.depth]
  omega
theorem op_ltR {X : Cx} (hu : X.A.units + 65 < cLine) : OpR X (compareOp .Lt) (r2 X.K ltR) := by
  intro pins s σ H x y v u Q I rx ry h
  obtain ⟨av, a, b, dm, ra, rb, q⟩ := h
  cases ra with
  | int i =>
    cases rb with
    | int j => exact op_lt pins s σ H _ _ v u Q I rx ry ⟨i, j, rfl, rfl, OKV.bl q⟩
    | _ => exact (show False from q).elim
  | @tup a1 xs ds h1 r1 =>
    cases rb with
    | @tup a2 ys es h2 r2 =>
      obtain ⟨hs, q⟩ := OKV.need q
      rcases (Bool.or_eq_true _ _ ▸ hs : _ ∨ _) with hs | hs
      case inr =>
        simp only [Bool.and_eq_true] at hs
        obtain ⟨⟨k0, k1⟩, k2⟩ := hs
        obtain ⟨as, ra⟩ := Dp.reads I (.tuple (pds ds)) _ v (.tup h1.sq (r1.dp (shs_nds _ _ k1))) rx
        obtain ⟨bs, rb⟩ := Dp.reads I (.tuple (pds es)) _ u (.tup h2.sq (r2.dp (shs_nds _ _ k2))) ry
        refine PySem.W.lt_data ra rb (alk_pd (.tup ds) (.tup es) (by simpa only [alk] using k0)) (fun z => by cases z) (by have := dp_depth k1; omega) ⟨.bl _, H, I, rfl, ?_⟩
        rw [PySem.W.dataLt_tuple, ltDs_pd ds es 59 59 k0 k1 k2]
        exact q.bl
      obtain ⟨k1, k2⟩ := shand hs
      have e1 := all_ints k1
      have e2 := all_ints k2
      rw [e1] at r1
      rw [e2] at r2
      have f1 := reps_of_ints r1
      have f2 := reps_of_ints r2
      rw [f1] at h1
      rw [f2] at h2
      refine op_ltT (by omega) pins s σ H _ _ v u Q I rx ry ⟨a1, a2, _, _, rfl, rfl, h1.sq, h2.sq, ?_⟩
      rw [← ltDs_ints, ← e1, ← e2]
      exact q.bl
    | _ => exact (show False from q).elim
  | _ => exact (show False from q).elim
theorem op_leR {X : Cx} : OpR X (compareOp .LtE) (r2 X.K leR) := by
  intro pins s σ H x y v u Q I rx ry h
  obtain ⟨av, a, b, dm, ra, rb, q⟩ := h
  cases ra with
  | int i =>
    cases rb with
    | int j => exact op_le pins s σ H _ _ v u Q I rx ry ⟨i, j, rfl, rfl, OKV.bl q⟩
    | _ => exact (show False from q).elim
  | _ => exact (show False from q).elim
theorem op_geR {X : Cx} : OpR X (compareOp .GtE) (r2 X.K fun a b => leR b a) := by
  intro pins s σ H x y v u Q I rx ry h
  obtain ⟨av, a, b, dm, ra, rb, q⟩ := h
  cases rb with
  | int i =>
    cases ra with
    | int j => exact op_ge pins s σ H _ _ v u Q I rx ry ⟨j, i, rfl, rfl, OKV.bl q⟩
    | _ => exact (show False from q).elim
  | _ => exact (show False from q).elim

theorem lexAt_shift (e r : Nat → Bool) (z : Bool) : ∀ (k i : Nat), Ob.lexAt e r z (i + 1) k = Ob.lexAt (fun j => e (j + 1)) (fun j => r (j + 1)) z i k
  | 0, _ => rfl
  | k + 1, i => by
    rw [Ob.lexAt_succ, Ob.lexAt_succ, lexAt_shift e r z k (i + 1)]
theorem lexAt_gt : ∀ (ns ms : List Int), Ob.lexAt (fun j => decide (ns.getD j 0 = ms.getD j 0)) (fun j => decide (ms.getD j 0 < ns.getD j 0)) (decide (ms.length < ns.length)) 0 (min ns.length ms.length) = HT.lexLt ms ns
  | [], [] => rfl
  | [], _ :: _ => by simp [Ob.lexAt, HT.lexLt]
  | _ :: _, [] => by simp [Ob.lexAt, HT.lexLt]
  | n :: ns, m :: ms => by
    rw [HT.lexLt_cons, ← lexAt_gt ns ms]
    have e : min (n :: ns).length (m :: ms).length = min ns.length ms.length + 1 := by simp only [List.length_cons]; omega
    rw [e, Ob.lexAt_succ, lexAt_shift]
    simp only [List.getD_cons_zero, List.getD_cons_succ, List.length_cons, Nat.add_lt_add_iff_right]
    by_cases h : n = m
    · subst h; simp
    · simp [h, Ne.symm h]
theorem op_gtT {X : Cx} (hu : X.A.units < cLine) : OpR X (compareOp .Gt) (fun x y H Q => ∃ (a b : Addr) (ns ms : List Int), x = .ref a ∧ y = .ref b ∧ SqT X.K H a (ns.map V.int) ∧ SqT X.K H b (ms.map V.int) ∧ Q (.bl (HT.lexLt ms ns)) H) := by
  intro pins s σ H x y v u Q I rx ry h
  obtain ⟨a, b, ns, ms, rfl, rfl, ha, hb, q⟩ := h
  cases rx
  cases ry
  obtain ⟨its, r1, p1, _⟩ := I.tuple ha
  obtain ⟨its2, r2, p2, _⟩ := I.tuple hb
  have i1 : IntsAre its ns := Vals.ints r1
  have i2 : IntsAre its2 ms := Vals.ints r2
  have e1 : its.toArray.size = ns.length := by rw [List.size_toArray]; exact i1.length
  have e2 : its2.toArray.size = ms.length := by rw [List.size_toArray]; exact i2.length
  have at1 : ∀ j (h1 : j < its.toArray.size), ∃ t, its.toArray[j] = .int (ns.getD j 0) t := fun j h1 => PyProof.Rows.IntsAre.int_at i1 _ _ (by simp at h1; simp [h1])
  have at2 : ∀ j (h1 : j < its2.toArray.size), ∃ t, its2.toArray[j] = .int (ms.getD j 0) t := fun j h1 => PyProof.Rows.IntsAre.int_at i2 _ _ (by simp at h1; simp [h1])
  have R := Ob.RcOp.tuples_gt (A := X.A) (s := s) (e := fun j => decide (ns.getD j 0 = ms.getD j 0)) (r := fun j => decide (ms.getD j 0 < ns.getD j 0)) p1 p2 hu (fun j h1 h2 => by
    obtain ⟨t, et⟩ := at1 j h1
    obtain ⟨t', et'⟩ := at2 j h2
    rw [et, et']
    have z : (ns.getD j 0 == ms.getD j 0) = decide (ns.getD j 0 = ms.getD j 0) := by
      by_cases q : ns.getD j 0 = ms.getD j 0
      · rw [decide_eq_true q]; exact beq_iff_eq.mpr q
      · rw [decide_eq_false q]; exact beq_eq_false_iff_ne.mpr q
    rw [← z]
    exact SeqAt.EqAt.int_int _ _ _ _) (fun j h1 h2 _ => by
    obtain ⟨t, et⟩ := at1 j h1
    obtain ⟨t', et'⟩ := at2 j h2
    rw [et, et']
    exact Ob.RcOp.gt_int _ _ _ _)
  refine R X.prog X.w _ _ ?_
  refine ⟨.bl _, H, I, ?_, q⟩
  show Value.bool _ = Value.bool _
  rw [← lexAt_gt, e1, e2]
theorem op_gtR {X : Cx} (hu : X.A.units + 65 < cLine) : OpR X (compareOp .Gt) (r2 X.K fun a b => ltR b a) := by
  intro pins s σ H x y v u Q I rx ry h
  obtain ⟨av, a, b, dm, ra, rb, q⟩ := h
  cases ra with
  | int i =>
    cases rb with
    | int j => exact op_gt pins s σ H _ _ v u Q I rx ry ⟨i, j, rfl, rfl, OKV.bl q⟩
    | _ => exact (show False from q).elim
  | @tup a1 xs ds h1 r1 =>
    cases rb with
    | @tup a2 ys es h2 r2 =>
      obtain ⟨hs, q⟩ := OKV.need q
      rcases (Bool.or_eq_true _ _ ▸ hs : _ ∨ _) with hs | hs
      case inr =>
        simp only [Bool.and_eq_true] at hs
        obtain ⟨⟨k0, k2⟩, k1⟩ := hs
        obtain ⟨as, ra⟩ := Dp.reads I (.tuple (pds ds)) _ v (.tup h1.sq (r1.dp (shs_nds _ _ k1))) rx
        obtain ⟨bs, rb⟩ := Dp.reads I (.tuple (pds es)) _ u (.tup h2.sq (r2.dp (shs_nds _ _ k2))) ry
        refine PySem.W.gt_data ra rb (alk_pd (.tup ds) (.tup es) (by simpa only [alk] using alks_comm es ds k0)) (fun z => by cases z) (by have := dp_depth k1; omega) ⟨.bl _, H, I, rfl, ?_⟩
        rw [PySem.W.dataLt_tuple, ltDs_pd es ds 59 59 k0 k2 k1]
        exact q.bl
      obtain ⟨k2, k1⟩ := shand hs
      have e1 := all_ints k1
      have e2 := all_ints k2
      rw [e1] at r1
      rw [e2] at r2
      have f1 := reps_of_ints r1
      have f2 := reps_of_ints r2
      rw [f1] at h1
      rw [f2] at h2
      refine op_gtT (by omega) pins s σ H _ _ v u Q I rx ry ⟨a1, a2, _, _, rfl, rfl, h1.sq, h2.sq, ?_⟩
      rw [← ltDs_ints, ← e1, ← e2]
      exact q.bl
    | _ => exact (show False from q).elim
  | _ => cases rb <;> exact (show False from q).elim
theorem op_cmpR {X : Cx} (hu : X.A.units + 65 < cLine) (op : Co) : OpR X (compareOp op.py) (r2 X.K (cmpR op)) := by
  cases op with
  | eq => exact op_eqR (by omega)
  | ne => exact op_neR (by omega)
  | lt => exact op_ltR hu
  | le => exact op_leR
  | gt => exact op_gtR hu
  | ge => exact op_geR
  | isin => exact op_inR hu
  | notin => exact op_notInR hu
/-! ### arithmetic, sequences -/
theorem lim : (LIM : Nat) ≤ sizeLine := by rw [sizeLine_eq]; decide
theorem op_addR {X : Cx} : OpR X (binaryOp .Add) (r2 X.K addR) := by
  intro pins s σ H x y v u Q I rx ry h
  obtain ⟨av, a, b, dm, ra, rb, q⟩ := h
  have hl := lim
  cases ra with
  | int i =>
    cases rb with
    | int j => exact op_add pins s σ H _ _ v u Q I rx ry ⟨i, j, rfl, rfl, OKV.int q⟩
    | _ => exact (show False from q).elim
  | str i =>
    cases rb with
    | str j =>
      obtain ⟨hs, q⟩ := OKV.need q
      have hs := of_decide_eq_true hs
      exact op_add_str pins s σ H _ _ v u Q I rx ry ⟨i, j, rfl, rfl, by omega, q.str⟩
    | _ => exact (show False from q).elim
  | @lst a1 xs ds h1 r1 =>
    cases rb with
    | @lst a2 ys es h2 r2 =>
      obtain ⟨hs, q⟩ := OKV.need q
      have hs := of_decide_eq_true hs
      have e1 := r1.length
      have e2 := r2.length
      exact op_cat pins s σ H _ _ v u Q I rx ry ⟨a1, a2, xs, ys, rfl, rfl, h1, h2, by omega, q.lst dm (r1.append r2)⟩
    | _ => exact (show False from q).elim
  | @tup a1 xs ds h1 r1 =>
    cases rb with
    | @tup a2 ys es h2 r2 =>
      obtain ⟨hs, q⟩ := OKV.need q
      have hs := of_decide_eq_true hs
      have e1 := r1.length
      have e2 := r2.length
      refine op_catC pins s σ H _ _ v u Q I rx ry ⟨a1, a2, xs, ys, rfl, rfl, h1.sq, h2.sq, by omega, ?_⟩
      refine ⟨fun e => ?_, fun _ e => ?_, fun _ _ => q.tup dm (r1.append r2)⟩
      · subst e
        cases r1
        exact q.is (.tup h2 r2)
      · subst e
        cases r2
        rw [List.append_nil] at q
        exact q.is (.tup h1 r1)
    | _ => exact (show False from q).elim
  | _ => exact (show False from q).elim

theorem foldl_cat : ∀ (l : List (Array Nat)) (acc : Array Nat), (l.foldl (· ++ ·) acc).toList = acc.toList ++ (l.map Array.toList).flatten
  | [], acc => by simp
  | a :: l, acc => by
    rw [List.foldl_cons, foldl_cat l (acc ++ a)]
    simp
theorem repS_one (z : Str) : repS z 1 = z := by
  obtain ⟨cps⟩ := z
  show Str.mk (List.replicate 1 cps.toList).flatten.toArray = _
  simp
theorem repS_len (z : Str) (n : Int) : (repS z n).length = z.length * n.toNat := by
  show ((List.replicate n.toNat z.cps.toList).flatten.toArray).size = z.cps.size * n.toNat
  rw [List.size_toArray, List.length_flatten, List.map_replicate, List.sum_replicate_nat, Array.length_toList, Nat.mul_comm]
theorem op_mulS {X : Cx} : OpR X (binaryOp .Mult) (fun x y H Q => ∃ (z : Str) (n : Int), x = .str z ∧ y = .int n ∧ 0 ≤ n ∧ n ≤ 1000000 ∧ z.length * n.toNat ≤ LIM ∧ Q (.str (repS z n)) H) := by
  intro pins s σ H x y v u Q I rx ry h
  obtain ⟨z, n, rfl, rfl, h0, h1, hz, q⟩ := h
  obtain ⟨t, rfl⟩ := rx
  obtain ⟨t', rfl⟩ := ry
  have hl := lim
  have hz1 : ¬ n < 1 → z.length ≤ LIM := fun h => Nat.le_trans (Nat.le_mul_of_pos_right _ (by omega)) hz
  have hL : (LIM : Nat) = 1000000 := rfl
  refine PySem.P.mul_str ?_ (fun h _ => ?_) (fun h _ => ?_) ?_
  · rw [decide_eq_false (by omega), decide_eq_false (by omega)]
    rfl
  · have := hz1 h
    have h3 : (1000000 : Int) ≤ (2 ^ 63 - 1) / n := (Int.le_ediv_iff_mul_le (by omega)).mpr (by omega)
    omega
  · unfold Builtin.Str.tooLong
    rw [decide_eq_false]
    omega
  · by_cases c1 : n < 1
    · rw [if_pos c1]
      have e : n = 0 := by omega
      subst e
      exact ⟨by decide, .str _, H, I.tok _, ⟨_, rfl⟩, q⟩
    · rw [if_neg c1]
      by_cases c2 : (n == 1 || z.length == 0) = true
      · rw [if_pos c2]
        have e : repS z n = z := by
          rw [Bool.or_eq_true, beq_iff_eq, beq_iff_eq] at c2
          rcases c2 with c2 | c2
          · rw [c2, repS_one]
          · have e0 := repS_len z n
            rw [c2, Nat.zero_mul] at e0
            have k : ∀ a b : Str, a.length = 0 → b.length = 0 → a = b := fun a b ha hb => by
              obtain ⟨a⟩ := a
              obtain ⟨b⟩ := b
              have ha : a.size = 0 := ha
              have hb : b.size = 0 := hb
              rw [Array.eq_empty_of_size_eq_zero ha, Array.eq_empty_of_size_eq_zero hb]
            exact k _ _ e0 c2
        rw [e] at q
        exact ⟨.str z, H, I, ⟨t, rfl⟩, q⟩
      · rw [if_neg c2]
        have e : (⟨(List.replicate n.toNat z.cps).foldl (· ++ ·) #[]⟩ : Str) = repS z n := by
          refine congrArg Str.mk (Array.toList_inj.mp ?_)
          rw [foldl_cat, List.map_replicate]
          rfl
        rw [e]
        exact ⟨by rw [repS_len]; omega, .str _, H, I.tok _, ⟨_, rfl⟩, q⟩
theorem op_mulR {X : Cx} : OpR X (binaryOp .Mult) (r2 X.K mulR) := by
  intro pins s σ H x y v u Q I rx ry h
  obtain ⟨av, a, b, dm, ra, rb, q⟩ := h
  have hl := lim
  cases ra with
  | int i =>
    cases rb with
    | int j =>
      obtain ⟨hs, q⟩ := OKV.need q
      simp only [mulOk, Bool.or_eq_true, Bool.and_eq_true, decide_eq_true_eq] at hs
      exact op_mul pins s σ H _ _ v u Q I rx ry ⟨i, j, rfl, rfl, hs, q.int⟩
    | _ => exact (show False from q).elim
  | str z =>
    cases rb with
    | int k =>
      obtain ⟨hs, q⟩ := OKV.need q
      simp only [Bool.and_eq_true, decide_eq_true_eq] at hs
      exact op_mulS pins s σ H _ _ v u Q I rx ry ⟨z, k, rfl, rfl, hs.1.1, hs.1.2, hs.2, q.str⟩
    | _ => exact (show False from q).elim
  | @lst a1 xs ds h1 r1 =>
    cases rb with
    | int k =>
      obtain ⟨hs, q⟩ := OKV.need q
      simp only [Bool.and_eq_true, decide_eq_true_eq] at hs
      have e1 := r1.length
      exact op_rep pins s σ H _ _ v u Q I rx ry ⟨a1, k, xs, rfl, rfl, h1, by omega, by omega, by rw [e1]; omega, q.lst dm (r1.rep k.toNat)⟩
    | _ => exact (show False from q).elim
  | @tup a1 xs ds h1 r1 =>
    cases rb with
    | int k =>
      obtain ⟨hs, q⟩ := OKV.need q
      simp only [Bool.and_eq_true, decide_eq_true_eq] at hs
      have e1 := r1.length
      have ne : xs ≠ [] := by
        rintro rfl
        cases r1
        simp at hs
      by_cases k2 : 2 ≤ k
      · exact op_repC pins s σ H _ _ v u Q I rx ry ⟨a1, k, xs, rfl, rfl, h1.sq, ne, by omega, by omega, by omega, q.tup dm (r1.rep k.toNat)⟩
      · have : k = 0 ∨ k = 1 := by omega
        rcases this with rfl | rfl
        · exact op_rep01 pins s σ H _ _ v u Q I rx ry ⟨a1, 0, xs, rfl, rfl, h1.sq, ne, .inr ⟨rfl, OKV.tup (xs := []) q dm .nil⟩⟩
        · have ed : repD ds 1 = ds := by
            show (List.replicate 1 ds).flatten = ds
            simp
          rw [ed] at q
          exact op_rep01 pins s σ H _ _ v u Q I rx ry ⟨a1, 1, xs, rfl, rfl, h1.sq, ne, .inl ⟨rfl, q.is (.tup h1 r1)⟩⟩
    | _ => exact (show False from q).elim
  | _ => exact (show False from q).elim
theorem op_binR {X : Cx} (op : Bo) : OpR X (binaryOp op.py) (r2 X.K (binR op)) := by
  cases op with
  | add => exact op_addR
  | mul => exact op_mulR
  | sub =>
    intro pins s σ H x y v u Q I rx ry h
    obtain ⟨av, a, b, dm, ra, rb, q⟩ := h
    cases ra with
    | int i =>
      cases rb with
      | int j => exact op_sub pins s σ H _ _ v u Q I rx ry ⟨i, j, rfl, rfl, OKV.int q⟩
      | _ => exact (show False from q).elim
    | _ => exact (show False from q).elim
  | fdiv =>
    intro pins s σ H x y v u Q I rx ry h
    obtain ⟨av, a, b, dm, ra, rb, q⟩ := h
    cases ra with
    | int i =>
      cases rb with
      | int j =>
        obtain ⟨hs, q⟩ := OKV.need q
        simp only [Bool.and_eq_true, decide_eq_true_eq] at hs
        exact op_fdiv pins s σ H _ _ v u Q I rx ry ⟨i, j, rfl, rfl, hs, OKV.int q⟩
      | _ => exact (show False from q).elim
    | _ => exact (show False from q).elim
  | mod =>
    intro pins s σ H x y v u Q I rx ry h
    obtain ⟨av, a, b, dm, ra, rb, q⟩ := h
    cases ra with
    | int i =>
      cases rb with
      | int j =>
        obtain ⟨hs, q⟩ := OKV.need q
        exact op_mod pins s σ H _ _ v u Q I rx ry ⟨i, j, rfl, rfl, of_decide_eq_true hs, OKV.int q⟩
      | _ => exact (show False from q).elim
    | _ => exact (show False from q).elim
def r1D (K : PySem.W.Frag) (f : D → Res D) : V → Hp → VK → Prop := fun x H Q => ∃ av a, Dom av H ∧ RepW K av H x a ∧ OKV K av H Q (f a)
theorem un_negR {X : Cx} : UnR X (unaryOp .USub) (r1D X.K negR) := by
  intro pins s σ H x v Q I rx h
  obtain ⟨av, a, dm, ra, q⟩ := h
  cases ra with
  | int i => exact un_neg pins s σ H _ v Q I rx ⟨i, rfl, OKV.int q⟩
  | _ => exact (show False from q).elim
/-! ### items, slices -/
theorem ix_R {X : Cx} : IxR X (r2w X.K ixR) := by
  intro value slice pins s σ H x y v u Q I rx ry h hsub
  obtain ⟨av, a, b, dm, ra, rb, q⟩ := h
  cases ra with
  | @lst a1 xs ds h1 r1 =>
    cases rb with
    | int i =>
      simp only [ixR] at q
      have e1 := r1.length
      cases e : atI ds i with
      | none => rw [e] at q; exact (show False from q).elim
      | some d =>
        rw [e] at q
        obtain ⟨j, hj⟩ : ∃ j, ixN ds.length i = some j := by
          unfold atI at e
          cases z : ixN ds.length i with
          | none => rw [z] at e; cases e
          | some j => exact ⟨j, rfl⟩
        have ed : ds[j]? = some d := by unfold atI at e; rw [hj] at e; exact e
        obtain ⟨w', hw, rw'⟩ := r1.getD ed
        refine ix_list value slice pins s σ H _ _ v u Q I rx ry ⟨a1, xs, i, w', rfl, rfl, SqL.of h1, ?_, OKW.is q rw'⟩ hsub
        unfold atI
        rw [e1, hj]
        exact hw
    | _ => exact (show False from q).elim
  | @tup a1 xs ds h1 r1 =>
    cases rb with
    | int i =>
      simp only [ixR] at q
      have e1 := r1.length
      cases e : atI ds i with
      | none => rw [e] at q; exact (show False from q).elim
      | some d =>
        rw [e] at q
        obtain ⟨j, hj⟩ : ∃ j, ixN ds.length i = some j := by
          unfold atI at e
          cases z : ixN ds.length i with
          | none => rw [z] at e; cases e
          | some j => exact ⟨j, rfl⟩
        have ed : ds[j]? = some d := by unfold atI at e; rw [hj] at e; exact e
        obtain ⟨w', hw, rw'⟩ := r1.getD ed
        refine ix_tup value slice pins s σ H _ _ v u Q I rx ry ⟨a1, xs, i, w', rfl, rfl, h1.sq, ?_, OKW.is q rw'⟩ hsub
        unfold atI
        rw [e1, hj]
        exact hw
    | _ => exact (show False from q).elim
  | @scr a1 ns h1 =>
    cases rb with
    | int i =>
      simp only [ixR] at q
      cases e : atI ns i with
      | none => rw [e] at q; exact (show False from q).elim
      | some d =>
        rw [e] at q
        refine ix_list value slice pins s σ H _ _ v u Q I rx ry ⟨a1, _, i, .int d, rfl, rfl, h1, ?_, OKW.is q (.int d)⟩ hsub
        unfold atI at e ⊢
        rw [List.length_map]
        cases z : ixN ns.length i with
        | none => rw [z] at e; cases e
        | some j =>
          rw [z] at e
          have e' : ns[j]? = some d := e
          show (ns.map V.int)[j]? = some (V.int d)
          rw [List.getElem?_map, e']
          rfl
    | _ => exact (show False from q).elim
  | str z =>
    cases rb with
    | int i =>
      simp only [ixR] at q
      cases e : atI z.cps.toList i with
      | none => rw [e] at q; exact (show False from q).elim
      | some c =>
        rw [e] at q
        have q : OKW X.K av H Q (need (decide (z.length ≤ LIM)) (.ok (.str ⟨#[c]⟩))) := q
        cases hd : decide (z.length ≤ LIM) with
        | false => rw [hd] at q; exact (show False from q).elim
        | true =>
          rw [hd] at q
          have hz := of_decide_eq_true hd
          have hl := lim
          exact ix_str value slice pins s σ H _ _ v u Q I rx ry ⟨z, i, c, rfl, rfl, by omega, e, OKW.is q (.str _)⟩ hsub
    | _ => exact (show False from q).elim
  | _ => exact (show False from q).elim
theorem Reps.cut {K : PySem.W.Frag} {av : Av} {H : Hp} {xs : List V} {ds : List D} (r : Reps K av H xs ds) (lo hi : Option Int) : Reps K av H (cutV xs lo hi) (cutD ds lo hi) := by
  unfold cutV cutD
  rw [r.length]
  exact (r.drop _).take _
theorem cutD_whole {ds : List D} {lo hi : Option Int} (h : HT.sIx ds.length 0 lo = 0 ∧ HT.sIx ds.length ds.length hi = ds.length) : cutD ds lo hi = ds := by
  unfold cutD
  rw [h.1, h.2]
  simp
theorem sl_R {X : Cx} : SlR X (fun x lo hi H Q => ∃ av a, Dom av H ∧ RepW X.K av H x a ∧ OKV X.K av H Q (slcR a lo hi)) := by
  intro pins s σ H x v vl vu lo hi sl Q I rx hs' pl pu h
  obtain ⟨av, a, dm, ra, q⟩ := h
  cases ra with
  | @lst a1 xs ds h1 r1 => exact sl_list pins s σ H _ v vl vu lo hi sl Q I rx hs' pl pu ⟨a1, xs, rfl, SqL.of h1, OKV.lst q dm (r1.cut lo hi)⟩
  | @tup a1 xs ds h1 r1 =>
    refine sl_tupC pins s σ H _ v vl vu lo hi sl Q I rx hs' pl pu ⟨a1, xs, rfl, h1.sq, fun hw => ?_, fun _ => OKV.tup q dm (r1.cut lo hi)⟩
    rw [r1.length] at hw
    have q' : OKV X.K av H Q (.ok (.tup (cutD ds lo hi))) := q
    rw [cutD_whole hw] at q'
    exact q'.is (.tup h1 r1)
  | str z =>
    obtain ⟨hs, q⟩ := OKV.need q
    have hs := of_decide_eq_true hs
    have hl := lim
    exact sl_str pins s σ H _ v vl vu lo hi sl Q I rx hs' pl pu ⟨z, rfl, by omega, q.str⟩
  | _ => exact (show False from q).elim
end Li

/-! sorted -/
namespace Li
open PySem PySem.Spec L2
open PyProof.Rows hiding St
/-! ### the plain sort by keys -/
def insL (x : List Int) : List (List Int) → List (List Int)
  | [] => [x]
  | y :: l => if HT.lexLt x y = true then x :: y :: l else y :: insL x l
def sortL (l : List (List Int)) : List (List Int) := l.foldl (fun acc x => insL x acc) []
theorem insL_perm (x : List Int) : ∀ l, (insL x l).Perm (x :: l)
  | [] => List.Perm.refl _
  | y :: l => by
    unfold insL
    split
    · exact List.Perm.refl _
    · exact ((insL_perm x l).cons y).trans (List.Perm.swap x y l)
theorem foldl_insL_perm : ∀ (l acc : List (List Int)), (l.foldl (fun acc x => insL x acc) acc).Perm (l ++ acc)
  | [], acc => List.Perm.refl _
  | x :: l, acc => (foldl_insL_perm l (insL x acc)).trans (((insL_perm x acc).append_left l).trans List.perm_middle)
theorem sortL_perm (l : List (List Int)) : (sortL l).Perm l := by
  have := foldl_insL_perm l []
  rwa [List.append_nil] at this
abbrev SrtL (l : List (List Int)) : Prop := l.Pairwise fun x y => HT.lexLt y x = false
theorem insL_srt (x : List Int) : ∀ {l}, SrtL l → SrtL (insL x l)
  | [], _ => List.pairwise_singleton _ _
  | y :: l, h => by
    obtain ⟨h1, h2⟩ := List.pairwise_cons.mp h
    unfold insL
    split
    · rename_i hx
      refine List.pairwise_cons.mpr ⟨fun z hz => ?_, h⟩
      rcases List.mem_cons.mp hz with rfl | hz
      · exact NtL.lex_asym _ _ hx
      · exact NtL.lex_tr _ _ _ (NtL.lex_asym _ _ hx) (h1 z hz)
    · rename_i hx
      refine List.pairwise_cons.mpr ⟨fun z hz => ?_, insL_srt x h2⟩
      rcases List.mem_cons.mp ((insL_perm x l).mem_iff.mp hz) with rfl | hz
      · simpa using hx
      · exact h1 z hz
theorem foldl_insL_srt : ∀ (l acc : List (List Int)), SrtL acc → SrtL (l.foldl (fun acc x => insL x acc) acc)
  | [], _, h => h
  | x :: l, acc, h => foldl_insL_srt l _ (insL_srt x h)
theorem sortL_srt (l : List (List Int)) : SrtL (sortL l) := foldl_insL_srt l [] List.Pairwise.nil
theorem lex_anti : ∀ {x y : List Int}, HT.lexLt x y = false → HT.lexLt y x = false → x = y
  | [], [], _, _ => rfl
  | [], _ :: _, h, _ => by rw [HT.lexLt_nil_cons] at h; cases h
  | _ :: _, [], _, h => by rw [HT.lexLt_nil_cons] at h; cases h
  | a :: x, b :: y, h1, h2 => by
    rw [HT.lexLt_cons] at h1 h2
    by_cases e : a = b
    · subst e
      rw [if_pos rfl] at h1 h2
      rw [lex_anti h1 h2]
    · rw [if_neg e] at h1
      rw [if_neg (Ne.symm e)] at h2
      have := of_decide_eq_false h1
      have := of_decide_eq_false h2
      omega
theorem srtL_uniq {l m : List (List Int)} (hl : SrtL l) (hm : SrtL m) (p : l.Perm m) : l = m :=
  p.eq_of_pairwise (fun a b _ _ h1 h2 => lex_anti h2 h1) hl hm
section
variable {u : List Int → D} {S : List Int → Prop}
theorem insD_map (hu : ∀ a b, S a → S b → ltD (u a) (u b) = HT.lexLt a b) {x : List Int} (hx : S x) : ∀ {l : List (List Int)}, (∀ y ∈ l, S y) → insD (u x) (l.map u) = (insL x l).map u
  | [], _ => rfl
  | y :: l, h => by
    show (if ltD (u x) (u y) = true then u x :: u y :: l.map u else u y :: insD (u x) (l.map u)) = (insL x (y :: l)).map u
    rw [hu x y hx (h y List.mem_cons_self), insD_map hu hx fun z hz => h z (List.mem_cons_of_mem _ hz)]
    simp only [insL]
    split <;> rfl
theorem foldl_insD_map (hu : ∀ a b, S a → S b → ltD (u a) (u b) = HT.lexLt a b) : ∀ (l acc : List (List Int)), (∀ y ∈ l, S y) → (∀ y ∈ acc, S y) → (l.map u).foldl (fun acc x => insD x acc) (acc.map u) = (l.foldl (fun acc x => insL x acc) acc).map u
  | [], _, _, _ => rfl
  | x :: l, acc, h, ha => by
    rw [List.map_cons, List.foldl_cons, List.foldl_cons, insD_map hu (h x List.mem_cons_self) ha]
    refine foldl_insD_map hu l _ (fun y hy => h y (List.mem_cons_of_mem _ hy)) fun y hy => ?_
    rcases List.mem_cons.mp ((insL_perm x acc).mem_iff.mp hy) with rfl | hy
    · exact h _ List.mem_cons_self
    · exact ha y hy
theorem sortD_map (hu : ∀ a b, S a → S b → ltD (u a) (u b) = HT.lexLt a b) {l : List (List Int)} (h : ∀ y ∈ l, S y) : sortD (l.map u) = (sortL l).map u := foldl_insD_map hu l [] h fun _ h => nomatch h
end
/-! ### tuples of ints in the heap -/
def TIn (h : Heap) (v : Value) (l : List Int) : Prop := ∃ (a : Addr) (its : List Value), v = .ref a ∧ IsTup h a its.toArray ∧ IntsAre its l
def ITn (h : Heap) (v : Value) (l : List Int) : Prop := ∃ (a : Addr) (i : Int) (t : Tok) (b : Value) (ns : List Int), v = .ref a ∧ IsTup h a [.int i t, b].toArray ∧ TIn h b ns ∧ l = i :: ns
theorem intsAre_fun : ∀ {its : List Value} {l m : List Int}, IntsAre its l → IntsAre its m → l = m
  | _, _, _, .nil, .nil => rfl
  | _, _, _, .cons n t h, .cons _ _ k => by rw [intsAre_fun h k]
theorem isTup_fun {h : Heap} {a : Addr} {x y : Array Value} (p : IsTup h a x) (q : IsTup h a y) : x = y := by
  obtain ⟨o, e1, _, n, d1⟩ := p
  obtain ⟨o', e2, _, n', d2⟩ := q
  rw [e1] at e2
  cases e2
  rw [d1] at d2
  cases d2
  rfl
theorem TIn.uniq {h : Heap} {v : Value} {l m : List Int} (p : TIn h v l) (q : TIn h v m) : l = m := by
  obtain ⟨a, its, rfl, t1, i1⟩ := p
  obtain ⟨b, its2, e, t2, i2⟩ := q
  cases e
  have e := isTup_fun t1 t2
  have e : its = its2 := by simpa using e
  subst e
  exact intsAre_fun i1 i2
theorem ITn.uniq {h : Heap} {v : Value} {l m : List Int} (p : ITn h v l) (q : ITn h v m) : l = m := by
  obtain ⟨a, i, t, b, ns, rfl, t1, i1, rfl⟩ := p
  obtain ⟨a2, i2, t2, b2, ns2, e, t2', i2', rfl⟩ := q
  cases e
  have e := isTup_fun t1 t2'
  have e : [Value.int i t, b] = [Value.int i2 t2, b2] := by simpa using e
  cases e
  rw [i1.uniq i2']
theorem IsTup.keeps {h h' : Heap} {a : Addr} {x : Array Value} (k : ∀ b o, o.cls = .type "tuple" → h.get? b = some o → h'.get? b = some o) (p : IsTup h a x) : IsTup h' a x := by
  obtain ⟨o, e1, c, n, d1⟩ := p
  exact ⟨o, k a o c e1, c, n, d1⟩
theorem TIn.keeps {h h' : Heap} {v : Value} {l : List Int} (k : ∀ b o, o.cls = .type "tuple" → h.get? b = some o → h'.get? b = some o) (p : TIn h v l) : TIn h' v l := by
  obtain ⟨a, its, e, t1, i1⟩ := p
  exact ⟨a, its, e, IsTup.keeps k t1, i1⟩
theorem ITn.keeps {h h' : Heap} {v : Value} {l : List Int} (k : ∀ b o, o.cls = .type "tuple" → h.get? b = some o → h'.get? b = some o) (p : ITn h v l) : ITn h' v l := by
  obtain ⟨a, i, t, b, ns, e, t1, i1, e2⟩ := p
  exact ⟨a, i, t, b, ns, e, IsTup.keeps k t1, i1.keeps k, e2⟩
section
variable {prog : Program} {w : World} {A : Around} {s : Shared}
theorem kat_ints : ∀ {its its2 : List Value} {ns ms : List Int} {b fin : Bool} {i : Nat} {Q : Bool → Shared → Prop}, IntsAre its ns → IntsAre its2 ms → fin = decide (ns.length < ms.length) → Q (HT.lexLt ns ms) s → PySem.W.KatLex prog w A b fin Q (its.zip its2) i s
  | _, _, _, _, b, fin, i, Q, .nil, .nil, hf, q => PySem.W.kat_nil (by rw [hf]; exact q)
  | _, _, _, _, b, fin, i, Q, .nil, .cons m t h, hf, q => PySem.W.kat_nil (by rw [HT.lexLt_nil_cons] at q; rw [hf]; simpa using q)
  | _, _, _, _, b, fin, i, Q, .cons n t h, .nil, hf, q => PySem.W.kat_nil (by rw [HT.lexLt_cons_nil] at q; rw [hf]; simpa using q)
  | _, _, _, _, b, fin, i, Q, .cons n t (ns := ns) h, .cons m u (ns := ms) k, hf, q => by
    rw [HT.lexLt_cons] at q
    refine PySem.W.kat_cons (SeqAt.EqAt.int_int n t m u prog w _ _ ?_)
    refine PySem.W.kat_go (fun e1 => ?_) (fun e1 => ?_)
    · have ex : n = m := by simpa using e1
      rw [if_pos ex] at q
      exact PySem.W.kat_yes (kat_ints h k (by rw [hf]; simp) q)
    · have ex : ¬ n = m := by simpa using e1
      rw [if_neg ex] at q
      refine PySem.W.kat_no ?_
      cases (b && i == 0) with
      | true => exact PyProof.Rows.oneLt_int q
      | false => exact PySem.W.kat_one _ _ (PyProof.Rows.lt_int q)
theorem ti_lt {v u : Value} {ns ms : List Int} (p : TIn s.heap v ns) (q : TIn s.heap u ms) {E : Value → Shared → Prop} {Q : Bool → Shared → Prop} (h : Q (HT.lexLt ns ms) s) : wpAny (model prog w) A (keyLt' (tuples' true) v u) Q E s := by
  obtain ⟨a, its, rfl, ⟨o, e1, _, n, d1⟩, i1⟩ := p
  obtain ⟨b, its2, rfl, ⟨o2, e2, _, n2, d2⟩, i2⟩ := q
  refine PySem.W.kat_lt e1 d1 e2 d2 (kat_ints i1 i2 ?_ h)
  rw [List.size_toArray, List.size_toArray, i1.length, i2.length]
theorem all_range_eq : ∀ (ns ms : List Int), ((List.range (min ns.length ms.length)).all (fun j => decide (ns.getD j 0 = ms.getD j 0)) && ns.length == ms.length) = decide (ns = ms)
  | [], [] => rfl
  | [], _ :: _ => by simp
  | _ :: _, [] => by simp
  | n :: ns, m :: ms => by
    have e : min (n :: ns).length (m :: ms).length = min ns.length ms.length + 1 := by simp only [List.length_cons]; omega
    rw [e, List.range_succ_eq_map, List.all_cons, List.all_map]
    have ih := all_range_eq ns ms
    simp only [List.getD_cons_zero, List.length_cons]
    have e2 : ((fun j => decide ((n :: ns).getD j 0 = (m :: ms).getD j 0)) ∘ Nat.succ) = fun j => decide (ns.getD j 0 = ms.getD j 0) := by
      funext j
      simp [Function.comp]
    rw [e2]
    have e3 : (ns.length + 1 == ms.length + 1) = (ns.length == ms.length) := by
      by_cases h : ns.length = ms.length <;> simp [h]
    rw [e3, Bool.and_assoc, ih]
    by_cases h : n = m
    · subst h; simp
    · simp [h]
theorem ti_eq {v u : Value} {ns ms : List Int} (hu : A.units < cLine) (p : TIn s.heap v ns) (q : TIn s.heap u ms) : SeqAt.EqAt A s v u (decide (ns = ms)) := by
  obtain ⟨a, its, rfl, t1, i1⟩ := p
  obtain ⟨b, its2, rfl, t2, i2⟩ := q
  by_cases hab : a = b
  · subst hab
    have e : its = its2 := by simpa using isTup_fun t1 t2
    subst e
    rw [intsAre_fun i1 i2, decide_eq_true rfl]
    exact SeqAt.EqAt.same _
  · have e1 : its.toArray.size = ns.length := by rw [List.size_toArray]; exact i1.length
    have e2 : its2.toArray.size = ms.length := by rw [List.size_toArray]; exact i2.length
    rw [← all_range_eq, ← e1, ← e2]
    refine SeqAt.EqAt.of_refs hab (SeqAt.RcAt.tuples t1 t2 hu fun j h1 h2 => ?_)
    obtain ⟨t, et⟩ := PyProof.Rows.IntsAre.int_at i1 j its.toArray[j] (by simp at h1; simp [h1])
    obtain ⟨t', et'⟩ := PyProof.Rows.IntsAre.int_at i2 j its2.toArray[j] (by simp at h2; simp [h2])
    rw [et, et']
    have z : (ns.getD j 0 == ms.getD j 0) = decide (ns.getD j 0 = ms.getD j 0) := by
      by_cases q : ns.getD j 0 = ms.getD j 0
      · rw [decide_eq_true q]; exact beq_iff_eq.mpr q
      · rw [decide_eq_false q]; exact beq_eq_false_iff_ne.mpr q
    rw [← z]
    exact SeqAt.EqAt.int_int _ _ _ _
theorem it_lt {v u : Value} {ns ms : List Int} (hu : A.units < cLine) (p : ITn s.heap v ns) (q : ITn s.heap u ms) {E : Value → Shared → Prop} {Q : Bool → Shared → Prop} (h : Q (HT.lexLt ns ms) s) : wpAny (model prog w) A (keyLt' (tuples' true) v u) Q E s := by
  obtain ⟨a, i, t, b, ns, rfl, ⟨o, e1, _, n, d1⟩, p, rfl⟩ := p
  obtain ⟨a2, i2, t2, b2, ms, rfl, ⟨o2, e2, _, n2, d2⟩, q, rfl⟩ := q
  rw [HT.lexLt_cons] at h
  refine PySem.W.kat_lt e1 d1 e2 d2 ?_
  show PySem.W.KatLex prog w A true (decide (2 < 2)) _ [(.int i t, .int i2 t2), (b, b2)] 0 s
  refine PySem.W.kat_cons (SeqAt.EqAt.int_int i t i2 t2 prog w _ _ ?_)
  refine PySem.W.kat_go (fun e1 => ?_) (fun e1 => ?_)
  · have ex : i = i2 := by simpa using e1
    rw [if_pos ex] at h
    refine PySem.W.kat_yes (PySem.W.kat_cons (ti_eq hu p q prog w _ _ ?_))
    refine PySem.W.kat_go (fun e2 => ?_) (fun e2 => ?_)
    · have ey : ns = ms := of_decide_eq_true e2
      subst ey
      refine PySem.W.kat_yes (PySem.W.kat_nil ?_)
      have e3 : HT.lexLt ns ns = false := by
        cases z : HT.lexLt ns ns with
        | false => rfl
        | true => have z2 := NtL.lex_asym _ _ z; rw [z] at z2; exact z2
      rw [e3] at h
      exact h
    · refine PySem.W.kat_no (PySem.W.kat_one _ _ ?_)
      obtain ⟨x, its, rfl, t1, i1⟩ := p
      obtain ⟨y, its2, rfl, t2, i2⟩ := q
      exact HT.lt_tupInts t1 t2 i1 i2 hu h
  · have ex : ¬ i = i2 := by simpa using e1
    rw [if_neg ex] at h
    exact PySem.W.kat_no (PyProof.Rows.oneLt_int h)
end
/-! pairs of tuples: the key is the first, 0, the second -/
theorem lex_irr (l : List Int) : HT.lexLt l l = false := by
  cases z : HT.lexLt l l with
  | false => rfl
  | true => have z2 := NtL.lex_asym _ _ z; rw [z] at z2; cases z2
theorem lex_key : ∀ {ns ns' ms ms' : List Int}, (∀ n ∈ ns, 0 < n) → (∀ n ∈ ns', 0 < n) → HT.lexLt (ns ++ 0 :: ms) (ns' ++ 0 :: ms') = if ns = ns' then HT.lexLt ms ms' else HT.lexLt ns ns'
  | [], [], ms, ms', _, _ => by
    show HT.lexLt (0 :: ms) (0 :: ms') = _
    rw [HT.lexLt_cons, if_pos rfl, if_pos rfl]
  | [], y :: ns', ms, ms', _, h => by
    have hy := h y List.mem_cons_self
    show HT.lexLt (0 :: ms) (y :: (ns' ++ 0 :: ms')) = _
    rw [HT.lexLt_cons, if_neg (by omega), if_neg (by simp), decide_eq_true hy]
    rfl
  | x :: ns, [], ms, ms', h, _ => by
    have hx := h x List.mem_cons_self
    show HT.lexLt (x :: (ns ++ 0 :: ms)) (0 :: ms') = _
    rw [HT.lexLt_cons, if_neg (by omega), if_neg (by simp), decide_eq_false (by omega)]
    rfl
  | x :: ns, y :: ns', ms, ms', h, h' => by
    have ih := lex_key (ns := ns) (ns' := ns') (ms := ms) (ms' := ms') (fun n hn => h n (List.mem_cons_of_mem _ hn)) (fun n hn => h' n (List.mem_cons_of_mem _ hn))
    show HT.lexLt (x :: (ns ++ 0 :: ms)) (y :: (ns' ++ 0 :: ms')) = _
    rw [HT.lexLt_cons, HT.lexLt_cons, ih]
    by_cases e : x = y
    · subst e
      by_cases e2 : ns = ns'
      · subst e2; simp
      · simp [e2]
    · simp [e]
def TTn (h : Heap) (v : Value) (l : List Int) : Prop := ∃ (a : Addr) (b c : Value) (ns ms : List Int), v = .ref a ∧ IsTup h a [b, c].toArray ∧ TIn h b ns ∧ TIn h c ms ∧ (∀ n ∈ ns, 0 < n) ∧ l = ns ++ 0 :: ms
theorem TTn.uniq {h : Heap} {v : Value} {l m : List Int} (p : TTn h v l) (q : TTn h v m) : l = m := by
  obtain ⟨a, b, c, ns, ms, rfl, t1, i1, j1, _, rfl⟩ := p
  obtain ⟨a2, b2, c2, ns2, ms2, e, t2, i2, j2, _, rfl⟩ := q
  cases e
  have e : [b, c] = [b2, c2] := by simpa using isTup_fun t1 t2
  cases e
  rw [i1.uniq i2, j1.uniq j2]
theorem TTn.keeps {h h' : Heap} {v : Value} {l : List Int} (k : ∀ b o, o.cls = .type "tuple" → h.get? b = some o → h'.get? b = some o) (p : TTn h v l) : TTn h' v l := by
  obtain ⟨a, b, c, ns, ms, e, t1, i1, j1, z, e2⟩ := p
  exact ⟨a, b, c, ns, ms, e, IsTup.keeps k t1, i1.keeps k, j1.keeps k, z, e2⟩
theorem firstsT {h : Heap} : ∀ {vs : List Value}, (∀ v ∈ vs, ∃ l, TTn h v l) → ∃ fs, PySem.W.KatTups h vs fs ∧ fs.length = vs.length ∧ ∀ f ∈ fs, ∃ l, TIn h f l
  | [], _ => ⟨[], PySem.W.KatTups.nil, rfl, fun _ h => nomatch h⟩
  | v :: vs, hv => by
    obtain ⟨l, a, b, c, ns, ms, rfl, ⟨o, e1, cc, n, d1⟩, i1, _⟩ := hv v List.mem_cons_self
    obtain ⟨fs, h1, h2, h3⟩ := firstsT fun u hu => hv u (List.mem_cons_of_mem _ hu)
    refine ⟨b :: fs, PySem.W.KatTups.cons e1 cc d1 rfl h1, by simp [h2], fun f hf => ?_⟩
    rcases List.mem_cons.mp hf with rfl | hf
    · exact ⟨ns, i1⟩
    · exact h3 f hf
section
variable {prog : Program} {w : World} {A : Around} {s : Shared}
theorem kind_pairs {E : Value → Shared → Prop} {its : List Value} (h : ∀ v ∈ its, ∃ l, TTn s.heap v l) (h2 : 2 ≤ its.length) {Q : SortKind → Shared → Prop} (hq : Q (tuples' false) s) : wpAny (model prog w) A (keyKind' its.toArray) Q E s := by
  obtain ⟨fs, f1, f2, f3⟩ := firstsT (h := s.heap) (vs := its) h
  refine PySem.W.kat_kind (T := .type "tuple") f1 (by omega) (fun f hm => ?_) (by rfl) ?_
  · obtain ⟨l, a, xs, rfl, ⟨o, e1, c, _⟩, _⟩ := f3 f hm
    rw [← c]
    exact (PySem.W.Looks.ld e1).andThen .now
  · have e : (Value.type "tuple" != Value.type "tuple") = false := by first | decide +kernel | rfl | decide
    rw [e]
    exact hq
theorem tt_lt {v u : Value} {l m : List Int} (hu : A.units < cLine) (p : TTn s.heap v l) (q : TTn s.heap u m) {E : Value → Shared → Prop} {Q : Bool → Shared → Prop} (h : Q (HT.lexLt l m) s) : wpAny (model prog w) A (keyLt' (tuples' false) v u) Q E s := by
  obtain ⟨a, b, c, ns, ms, rfl, ⟨o, e1, _, n, d1⟩, p1, p2, z1, rfl⟩ := p
  obtain ⟨a2, b2, c2, ns2, ms2, rfl, ⟨o2, e2, _, n2, d2⟩, q1, q2, z2, rfl⟩ := q
  rw [lex_key z1 z2] at h
  refine PySem.W.kat_lt e1 d1 e2 d2 ?_
  show PySem.W.KatLex prog w A false (decide (2 < 2)) _ [(b, b2), (c, c2)] 0 s
  have lt : ∀ {v u : Value} {k l : List Int} {Q : Bool → Shared → Prop}, TIn s.heap v k → TIn s.heap u l → Q (HT.lexLt k l) s → wpAny (model prog w) A (oneLt' false v u) Q (fun _ _ => False) s := fun {v u k l Q} p q h => by
    obtain ⟨x, its, rfl, t1, i1⟩ := p
    obtain ⟨y, its2, rfl, t2, i2⟩ := q
    exact PySem.W.kat_one _ _ (HT.lt_tupInts t1 t2 i1 i2 hu h)
  refine PySem.W.kat_cons (ti_eq hu p1 q1 prog w _ _ ?_)
  refine PySem.W.kat_go (fun e1 => ?_) (fun e1 => ?_)
  · have ex : ns = ns2 := of_decide_eq_true e1
    rw [if_pos ex] at h
    refine PySem.W.kat_yes (PySem.W.kat_cons (ti_eq hu p2 q2 prog w _ _ ?_))
    refine PySem.W.kat_go (fun e2 => ?_) (fun e2 => ?_)
    · have ey : ms = ms2 := of_decide_eq_true e2
      subst ey
      refine PySem.W.kat_yes (PySem.W.kat_nil ?_)
      rw [lex_irr] at h
      exact h
    · exact PySem.W.kat_no (lt p2 q2 h)
  · have ex : ¬ ns = ns2 := of_decide_eq_false e1
    rw [if_neg ex] at h
    exact PySem.W.kat_no (lt p1 q1 h)
end
/-- what the keys are, by a relation -/
noncomputable def kyV (R : Value → List Int → Prop) (v : Value) : List Int := by
  classical
  exact if h : ∃ l, R v l then h.choose else []
theorem kyV_eq {R : Value → List Int → Prop} (hu : ∀ v l m, R v l → R v m → l = m) {v : Value} {l : List Int} (h : R v l) : kyV R v = l := by
  have hh : ∃ l, R v l := ⟨l, h⟩
  unfold kyV
  rw [dif_pos hh]
  exact hu v _ _ hh.choose_spec h
theorem firsts {h : Heap} : ∀ {vs : List Value}, (∀ v ∈ vs, ∃ a i t rest, v = Value.ref a ∧ IsTup h a (Value.int i t :: rest).toArray) → ∃ fs, PySem.W.KatTups h vs fs ∧ fs.length = vs.length ∧ ∀ f ∈ fs, ∃ x t, f = Value.int x t
  | [], _ => ⟨[], PySem.W.KatTups.nil, rfl, fun _ h => nomatch h⟩
  | v :: vs, hv => by
    obtain ⟨a, i, t, rest, rfl, o, e1, c, n, d1⟩ := hv v List.mem_cons_self
    obtain ⟨fs, h1, h2, h3⟩ := firsts fun u hu => hv u (List.mem_cons_of_mem _ hu)
    refine ⟨.int i t :: fs, ?_, by simp [h2], fun f hf => ?_⟩
    · exact PySem.W.KatTups.cons e1 c d1 rfl h1
    · rcases List.mem_cons.mp hf with rfl | hf
      · exact ⟨i, t, rfl⟩
      · exact h3 f hf
end Li

/-! sorted(t) of a tuple; keys with () ahead -/
namespace Li
open PySem PySem.Spec L2
open PyProof.Rows hiding St
section
variable {prog : Program} {w : World} {A : Around} {E : Value → Shared → Prop} {s : Shared}
theorem collectT {a : Addr} {its : List Value} {Q : List Value → Shared → Prop} (ht : IsTup s.heap a its.toArray) (hz : its.length ≤ sizeLine)
    (q : Q its { s with heap := (s.heap.push (seqObj "list" #[] 0)).update s.heap.objs.size (Obj.mapSeq (· ++ its.toArray)) }) : wpAny (model prog w) A (collect (.ref a)) Q E s := by
  obtain ⟨ob, g1, g2, k, g3⟩ := ht
  unfold collect
  refine wpAny_bind (wpAny_runValue (codeAny_builtin entry_proto_collect' ?_))
  show wpAny (model prog w) _ (do again (.builtin "list.__iadd__" ⟨[← newList [], .ref a], []⟩)) _ _ s
  have new0 : (s.heap.push (seqObj "list" #[] 0)).get? s.heap.objs.size = some (seqObj "list" #[] 0) := Heap.get?_push_size _ rfl
  refine wpAny_bind (wpAny_newList (wpAny_pure ⟨Code.quiet_builtin _ (by decide +kernel), codeAny_builtin entry_list_iadd' ?_⟩))
  show wpAny (model prog w) _ (Builtin.List.listExtendWith (.ref s.heap.objs.size) (.ref a) (.ref s.heap.objs.size)) _ _ { s with heap := s.heap.push (seqObj "list" #[] 0) }
  have g1' : (s.heap.push (seqObj "list" #[] 0)).get? a = some ob := Heap.get?_push_of_some _ g1
  unfold Builtin.List.listExtendWith
  refine wpAny_bind (wpAny_typeOf (T := "tuple") ⟨ob, g1', g2⟩ ?_)
  have tt : (Value.type "tuple" == Value.type "tuple") = true := by rfl
  rw [if_pos (by rw [tt]; simp)]
  refine wpAny_bind (listItems_at g1' g3 ?_)
  refine wpAny_bind (listItems_at (xs := #[]) (n := 0) new0 rfl ?_)
  rw [if_neg (by simp)]
  have sz : ((#[] : Array Value) ++ its.toArray).size ≤ sizeLine + 1 := by
    simp only [Array.size_append, List.size_toArray, List.length_nil]
    omega
  refine wpAny_bind (listUpdate_at (xs := #[]) (n := 0) new0 rfl ?_ (Nat.zero_le _) sz)
  refine wpAny_pure ?_
  show wpAny (model prog w) A (do
      let got ← load s.heap.objs.size
      match got.data with
      | .seq xs _ => pure xs.toList
      | _ => unsupported "internal:collect") Q E { s with heap := (s.heap.push (seqObj "list" #[] 0)).update s.heap.objs.size (Obj.mapSeq (· ++ its.toArray)) }
  refine wpAny_bind (wpAny_load (get?_update_seq new0 _) ?_)
  have e : ((#[] : Array Value) ++ its.toArray).toList = its := by simp
  show wpAny (model prog w) A (pure ((#[] : Array Value) ++ its.toArray).toList) Q E _
  rw [e]
  exact wpAny_pure q
/-- what sorting asks of the items, and what it ends with -/
def SortsBy (prog : Program) (w : World) (A : Around) (s : Shared) (a : Addr) (vs : List Value) : Prop := ∀ {ltv : Value → Value → Bool} {Q : Value → Shared → Prop} {E : Value → Shared → Prop}, SrtO.Swo ltv →
    (2 ≤ vs.length → ∀ (h₁ : Heap) (b : Addr), h₁.get? b = some (seqObj "list" vs.toArray 0) → (∀ c o, s.heap.get? c = some o → c ≠ b ∧ h₁.get? c = some o) → SrtO.SortableO prog w A.in1.in1 { s with heap := h₁ } b vs ltv) →
    (∀ out : List Value, SrtO.Srtd ltv out → SrtO.Stb ltv out vs → Q (.ref (s.heap.objs.size + 1)) { s with heap := sortedAll s.heap vs out.toArray }) →
    wpAny (model prog w) A (call (.builtin "sorted") [.ref a]) Q E s
theorem sortsBy_list {a : Addr} {vs : List Value} (hl : s.heap.IsList a vs.toArray) (hz : vs.length ≤ sizeLine) : SortsBy prog w A s a vs := fun O hS h => SrtO.sorted_ord O hl hz hS h
theorem sortsBy_tuple {a : Addr} {vs : List Value} (ht : IsTup s.heap a vs.toArray) (hz : vs.length ≤ sizeLine) : SortsBy prog w A s a vs := by
  intro ltv Q E O hS q
  refine Calls.call_function_entry kind_sorted plain_sorted entry_sorted (args_sorted1 _) ?_
  unfold Builtin.«sorted»
  refine wpAny_bind (m := checkCount "sorted" 1 1 _) (wpAny_pure ?_)
  refine wpAny_bind (collectT ht hz ?_)
  refine wpAny_bind (wpAny_newList ?_ hz)
  let h0 : Heap := (s.heap.push (seqObj "list" #[] 0)).update s.heap.objs.size (Obj.mapSeq (· ++ vs.toArray))
  have e1 : h0.objs.size = s.heap.objs.size + 1 := by
    show ((s.heap.push (seqObj "list" #[] 0)).update s.heap.objs.size (Obj.mapSeq (· ++ vs.toArray))).objs.size = _
    rw [Heap.size_update, size_push']
  have e2 : (h0.push (seqObj "list" vs.toArray 0)).get? (s.heap.objs.size + 1) = some (seqObj "list" vs.toArray 0) := by
    rw [← e1]
    exact Heap.get?_push_size _ rfl
  have e3 : ∀ c o, s.heap.get? c = some o → c ≠ s.heap.objs.size + 1 ∧ (h0.push (seqObj "list" vs.toArray 0)).get? c = some o := fun c o g => by
    have lt : c < s.heap.objs.size := Heap.lt_size g
    refine ⟨Nat.ne_of_lt (Nat.lt_succ_of_lt lt), Heap.get?_push_of_some _ ?_⟩
    show ((s.heap.push (seqObj "list" #[] 0)).update s.heap.objs.size (Obj.mapSeq (· ++ vs.toArray))).get? c = some o
    rw [Heap.get?_update_ne _ _ _ _ (Nat.ne_of_lt lt)]
    exact Heap.get?_push_of_some _ g
  show wpAny _ _ _ _ _ { s with heap := h0.push (seqObj "list" vs.toArray 0) }
  have e4 : ((s.heap.push (seqObj "list" #[] 0)).update s.heap.objs.size (Obj.mapSeq (· ++ vs.toArray))).objs.size = s.heap.objs.size + 1 := e1
  rw [e4]
  refine wpAny_bind (wpAny_holding (wpAny_call_entry slot_list_sort ⟨_, e2, rfl⟩ entry_list_sort (SrtO.list_sort_ord O e2 hz (fun z => hS z _ _ e2 e3) fun out r1 r2 => ⟨_, rfl, ?_⟩) (args_list_sort _)))
  exact wpAny_pure ⟨_, rfl, q out r1 r2⟩
/-! ### the kind of keys that are tuples, the first one () -/
theorem first_of {M : Model} {v : Value} {l : List Int} (h : TIn s.heap v l) {Q : Option Value → Shared → Prop} (q : ∀ o, (l = [] → o = none) → Q o s) : wpAny M A (firstOfTuple' v) Q E s := by
  obtain ⟨a, its, rfl, ⟨o, ho, hc, n, hd⟩, hi⟩ := h
  rw [PySem.W.kas_first_eq]
  refine wpAny_bind (PySem.W.Looks.here (show PySem.W.Looks M s.heap (typeOf (.ref a)) o.cls from (PySem.W.Looks.ld ho).andThen .now) ?_)
  rw [hc, if_neg (by first | decide | simp)]
  refine wpAny_bind (listItems_at ho hd (wpAny_pure (q _ fun z => ?_)))
  subst z
  cases hi
  rfl
theorem firsts_of {M : Model} : ∀ (vs : List Value) {Q : List (Option Value) → Shared → Prop}, (∀ v ∈ vs, ∃ l, TIn s.heap v l) → (∀ os : List (Option Value), os.length = vs.length → (∀ v r, vs = v :: r → TIn s.heap v [] → os[0]? = some none) → Q os s) → wpAny M A (vs.mapM firstOfTuple') Q E s
  | [], Q, _, q => by rw [List.mapM_nil]; exact wpAny_pure (q [] rfl fun _ _ z => by cases z)
  | v :: vs, Q, hv, q => by
    rw [List.mapM_cons]
    obtain ⟨l, hl⟩ := hv v List.mem_cons_self
    refine wpAny_bind (first_of hl fun o ho => ?_)
    refine wpAny_bind (firsts_of vs (fun u hu => hv u (List.mem_cons_of_mem _ hu)) fun os h1 _ => wpAny_pure (q (o :: os) (by simp [h1]) fun u r e ht => ?_))
    cases e
    have := hl.uniq ht
    rw [ho this]
    rfl
theorem kindE {M : Model} {v : Value} {vs : List Value} (h0 : TIn s.heap v []) (hv : ∀ u ∈ v :: vs, ∃ l, TIn s.heap u l) {Q : SortKind → Shared → Prop} (q : Q oneType' s) : wpAny M A (keyKind' (v :: vs).toArray) Q E s := by
  rw [PyProof.Rows.kat_kind_eq, List.mapM_toArray, map_eq_pure_bind]
  refine wpAny_bind (wpAny_bind (firsts_of (v :: vs) hv fun os h1 h2 => wpAny_pure ?_))
  have h3 := h2 v vs rfl h0
  have c1 : (os.toArray.all fun x => x.isSome) = false := by
    cases os with
    | nil => cases h3
    | cons o os =>
      have : o = none := by simpa using h3
      subst this
      simp
  rw [if_neg (by rw [c1]; simp)]
  have c2 : ((os.toArray[0]?).bind id).isSome = false := by
    rw [List.getElem?_toArray, h3]
    rfl
  rw [if_neg (by rw [c2]; simp)]
  rw [PyProof.Rows.oneTypeOnly'_eq, List.mapM_toArray, map_eq_pure_bind]
  have ty : ∀ u ∈ v :: vs, ∀ (Q' : Value → Shared → Prop), Q' (.type "tuple") s → wpAny M A (typeOf u) Q' E s := fun u hu Q' q' => by
    obtain ⟨l, a, its, rfl, ⟨o, ho, hc, n, hd⟩, hi⟩ := hv u hu
    refine PySem.W.Looks.here (show PySem.W.Looks M s.heap (typeOf (.ref a)) o.cls from (PySem.W.Looks.ld ho).andThen .now) ?_
    rw [hc]
    exact q'
  refine wpAny_bind (wpAny_bind (wpAny_bind (PySem.W.kas_mapM (r := .type "tuple") _ ty (wpAny_pure ?_))))
  have a1 : ((List.map (fun _ => Value.type "tuple") (v :: vs)).toArray.all fun x => x == Value.type "tuple") = true := by
    simp only [List.all_toArray, List.all_map, List.all_eq_true]
    intro _ _
    rfl
  have a0 : (List.map (fun _ => Value.type "tuple") (v :: vs)).toArray[0]? = some (Value.type "tuple") := by simp
  rw [a0]
  simp only [a1, if_true]
  exact wpAny_pure (wpAny_pure q)
theorem tiE_lt {v u : Value} {ns ms : List Int} (hu : A.units < cLine) (p : TIn s.heap v ns) (q : TIn s.heap u ms) {E : Value → Shared → Prop} {Q : Bool → Shared → Prop} (h : Q (HT.lexLt ns ms) s) : wpAny (model prog w) A (keyLt' oneType' v u) Q E s := by
  obtain ⟨a, its, rfl, ⟨⟨c1, dd1, dt1, sl1⟩, e1, f1, n1, g1⟩, i1⟩ := p
  obtain ⟨b, its2, rfl, ⟨⟨c2, dd2, dt2, sl2⟩, e2, f2, n2, g2⟩, i2⟩ := q
  simp only at f1 g1 f2 g2
  subst f1 g1 f2 g2
  rw [keyLt'_oneType, oneLt'_eq]
  simp only [if_true]
  refine wpAny_bind (wpAny_cRoomFor hu ?_)
  refine wpAny_bind (wpAny_callSpecialIfBound?_slot (T := "tuple") ⟨_, e1, rfl⟩ F.slot_tuple_lt (call_meets F.slot_tuple_lt ⟨_, e1, rfl⟩ F.entry_tuple_lt (F.args_tuple_lt_2 _ _) (HT.tuple_lt_ints a b its.toArray its2.toArray n1 n2 dd1 dd2 sl1 sl2 ns ms (by simpa using i1) (by simpa using i2)) ⟨e1, e2, ?_⟩))
  exact wpAny_truthy_bool h
end
end Li

/-! tuples of tuples of ints above 0 as keys: alone, () ahead; behind an int -/
namespace Li
open PySem PySem.Spec L2
open PyProof.Rows hiding St
def kyB (nss : List (List Int)) : List Int := nss.flatMap fun ns => ns ++ [0]
theorem kyB_cons (ns : List Int) (r : List (List Int)) : kyB (ns :: r) = ns ++ 0 :: kyB r := by
  show (ns ++ [0]) ++ kyB r = _
  rw [List.append_assoc]
  rfl
def AllP (nss : List (List Int)) : Prop := ∀ ns ∈ nss, ∀ n ∈ ns, 0 < n
theorem AllP.head {ns : List Int} {r : List (List Int)} (h : AllP (ns :: r)) : ∀ n ∈ ns, 0 < n := h ns List.mem_cons_self
theorem AllP.tail {ns : List Int} {r : List (List Int)} (h : AllP (ns :: r)) : AllP r := fun x hx => h x (List.mem_cons_of_mem _ hx)
theorem lexB : ∀ {xs ys : List (List Int)}, AllP xs → AllP ys → ∀ {x y : List Int}, True → HT.lexLt (kyB xs) (kyB ys) = (match xs, ys with
    | x :: xs, y :: ys => if x = y then HT.lexLt (kyB xs) (kyB ys) else HT.lexLt x y
    | [], _ :: _ => true
    | _, [] => false)
  | [], [], _, _, _, _, _ => HT.lexLt_nil_nil
  | [], y :: ys, _, _, _, _, _ => by
    rw [kyB_cons]
    cases y with
    | nil => exact HT.lexLt_nil_cons _ _
    | cons b y => exact HT.lexLt_nil_cons _ _
  | x :: xs, [], _, _, _, _, _ => by
    rw [kyB_cons]
    cases x with
    | nil => exact HT.lexLt_cons_nil _ _
    | cons b y => exact HT.lexLt_cons_nil _ _
  | x :: xs, y :: ys, h1, h2, _, _, _ => by
    rw [kyB_cons, kyB_cons, lex_key h1.head h2.head]
theorem kyB_inj : ∀ {xs ys : List (List Int)}, AllP xs → AllP ys → kyB xs = kyB ys → xs = ys
  | [], [], _, _, _ => rfl
  | [], y :: ys, _, _, e => by
    rw [kyB_cons] at e
    cases y <;> cases e
  | x :: xs, [], _, _, e => by
    rw [kyB_cons] at e
    cases x <;> cases e
  | x :: xs, y :: ys, h1, h2, e => by
    have l := lexB h1 h2 (x := []) (y := []) trivial
    have l' := lexB h2 h1 (x := []) (y := []) trivial
    rw [e, lex_irr] at l
    rw [e, lex_irr] at l'
    simp only at l l'
    by_cases q : x = y
    · subst q
      rw [kyB_cons, kyB_cons] at e
      have e2 := List.append_cancel_left e
      injection e2 with _ e2
      rw [kyB_inj h1.tail h2.tail e2]
    · rw [if_neg q] at l
      rw [if_neg fun z => q z.symm] at l'
      exact absurd (lex_anti l.symm l'.symm) q
/-! in the heap -/
def ETI (h : Heap) : List Value → List (List Int) → Prop
  | [], [] => True
  | v :: vs, l :: ls => TIn h v l ∧ ETI h vs ls
  | _, _ => False
theorem ETI.uniq {h : Heap} : ∀ {vs : List Value} {l m : List (List Int)}, ETI h vs l → ETI h vs m → l = m
  | [], [], [], _, _ => rfl
  | [], [], _ :: _, _, q => q.elim
  | [], _ :: _, _, p, _ => p.elim
  | _ :: _, [], _, p, _ => p.elim
  | _ :: _, _ :: _, [], _, q => q.elim
  | v :: vs, l :: ls, m :: ms, p, q => by rw [p.1.uniq q.1, ETI.uniq p.2 q.2]
theorem ETI.keeps {h h' : Heap} (k : ∀ b o, o.cls = .type "tuple" → h.get? b = some o → h'.get? b = some o) : ∀ {vs : List Value} {l : List (List Int)}, ETI h vs l → ETI h' vs l
  | [], [], _ => trivial
  | [], _ :: _, p => p.elim
  | _ :: _, [], p => p.elim
  | v :: vs, l :: ls, p => ⟨p.1.keeps k, p.2.keeps k⟩
def TBn (h : Heap) (v : Value) (l : List Int) : Prop := ∃ (a : Addr) (its : List Value) (nss : List (List Int)), v = .ref a ∧ IsTup h a its.toArray ∧ ETI h its nss ∧ AllP nss ∧ l = kyB nss
def IBn (h : Heap) (v : Value) (l : List Int) : Prop := ∃ (a : Addr) (i : Int) (t : Tok) (b : Value) (ns : List Int), v = .ref a ∧ IsTup h a [.int i t, b].toArray ∧ TBn h b ns ∧ l = i :: ns
theorem TBn.uniq {h : Heap} {v : Value} {l m : List Int} (p : TBn h v l) (q : TBn h v m) : l = m := by
  obtain ⟨a, its, n1, rfl, t1, i1, _, rfl⟩ := p
  obtain ⟨b, its2, n2, e, t2, i2, _, rfl⟩ := q
  cases e
  have e := isTup_fun t1 t2
  have e : its = its2 := by simpa using e
  subst e
  rw [i1.uniq i2]
theorem TBn.keeps {h h' : Heap} {v : Value} {l : List Int} (k : ∀ b o, o.cls = .type "tuple" → h.get? b = some o → h'.get? b = some o) (p : TBn h v l) : TBn h' v l := by
  obtain ⟨a, its, n1, e, t1, i1, z, e2⟩ := p
  exact ⟨a, its, n1, e, IsTup.keeps k t1, i1.keeps k, z, e2⟩
theorem IBn.uniq {h : Heap} {v : Value} {l m : List Int} (p : IBn h v l) (q : IBn h v m) : l = m := by
  obtain ⟨a, i, t, b, ns, rfl, t1, i1, rfl⟩ := p
  obtain ⟨a2, i2, t2, b2, ns2, e, t2', i2', rfl⟩ := q
  cases e
  have e := isTup_fun t1 t2'
  have e : [Value.int i t, b] = [Value.int i2 t2, b2] := by simpa using e
  cases e
  rw [i1.uniq i2']
theorem IBn.keeps {h h' : Heap} {v : Value} {l : List Int} (k : ∀ b o, o.cls = .type "tuple" → h.get? b = some o → h'.get? b = some o) (p : IBn h v l) : IBn h' v l := by
  obtain ⟨a, i, t, b, ns, e, t1, i1, e2⟩ := p
  exact ⟨a, i, t, b, ns, e, IsTup.keeps k t1, i1.keeps k, e2⟩
/-! as data -/
def dT (ns : List Int) : PyData := .tuple (ns.map .int)
theorem readsInts {h : Heap} : ∀ {its : List Value} {l : List Int}, IntsAre its l → ReadsAll h its (l.map .int) []
  | _, _, .nil => .nil
  | _, _, .cons n t k => .cons (.int n t) (readsInts k)
theorem TIn.reads {h : Heap} {v : Value} {l : List Int} (p : TIn h v l) : Reads h v (dT l) [] := by
  obtain ⟨a, its, rfl, ⟨o, e1, c, n, d1⟩, i1⟩ := p
  exact .tuple e1 c d1 (by rw [List.toList_toArray]; exact readsInts i1)
theorem ETI.reads {h : Heap} : ∀ {vs : List Value} {l : List (List Int)}, ETI h vs l → ReadsAll h vs (l.map dT) []
  | [], [], _ => .nil
  | [], _ :: _, p => p.elim
  | _ :: _, [], p => p.elim
  | v :: vs, l :: ls, p => .cons p.1.reads p.2.reads
theorem alk_dT (a b : List Int) : PySem.W.alike (dT a) (dT b) = true := by
  simp only [dT, PySem.W.alike]
  exact PySem.W.alike_ints a b
theorem alks_dT : ∀ (a b : List (List Int)), PySem.W.alikeAll (a.map dT) (b.map dT) = true
  | [], _ => by simp [PySem.W.alikeAll]
  | _ :: _, [] => by simp [PySem.W.alikeAll]
  | x :: xs, y :: ys => by
    show PySem.W.alikeAll (dT x :: xs.map dT) (dT y :: ys.map dT) = true
    rw [PySem.W.alikeAll, alk_dT x y, alks_dT xs ys]
    rfl
theorem depth_dT : ∀ (a : List (List Int)), PyData.depthAll (a.map dT) ≤ 1
  | [] => by simp [PyData.depthAll]
  | x :: xs => by
    show PyData.depthAll (dT x :: xs.map dT) ≤ 1
    have h1 := depth_dT xs
    have h2 := PySem.W.depth_ints x
    have h3 : (dT x).depth ≤ 1 := by
      simp only [dT, PyData.depth]
      omega
    simp only [PyData.depthAll]
    omega
theorem eqv_ints : ∀ (a b : List Int), PyData.eqvAll (a.map .int) (b.map .int) = decide (a = b)
  | [], [] => by simp [PyData.eqvAll]
  | [], _ :: _ => by simp [PyData.eqvAll]
  | _ :: _, [] => by simp [PyData.eqvAll]
  | x :: xs, y :: ys => by
    show PyData.eqvAll (.int x :: xs.map .int) (.int y :: ys.map .int) = _
    rw [PySem.W.eqv_all_cons, eqv_ints xs ys]
    have e : PyData.eqv (.int x) (.int y) = decide (x = y) := by
      by_cases h : x = y <;> simp [PyData.eqv, h]
    rw [e]
    by_cases h : x = y <;> by_cases h2 : xs = ys <;> simp [h, h2]
theorem eqv_dT (a b : List Int) : PyData.eqv (dT a) (dT b) = decide (a = b) := by
  have := eqv_ints a b
  simp only [dT, PyData.eqv]
  exact this
theorem lt_lexI : ∀ ns ms : List Int, decide (ns < ms) = HT.lexLt ns ms
  | [], [] => by rw [HT.lexLt_nil_nil]; rfl
  | [], _ :: _ => by rw [HT.lexLt_nil_cons]; exact decide_eq_true (List.nil_lt_cons _ _)
  | _ :: _, [] => by rw [HT.lexLt_cons_nil]; exact decide_eq_false (List.not_lt_nil _)
  | n :: ns, m :: ms => by
    rw [HT.lexLt_cons, ← lt_lexI ns ms]
    by_cases h : n = m
    · subst h
      rw [if_pos rfl]
      by_cases h2 : ns < ms
      · rw [decide_eq_true h2, decide_eq_true (List.cons_lt_cons_iff.mpr (.inr ⟨rfl, h2⟩))]
      · rw [decide_eq_false h2, decide_eq_false fun z => (List.cons_lt_cons_iff.mp z).elim (fun z => by omega) fun z => h2 z.2]
    · rw [if_neg h]
      by_cases h2 : n < m
      · rw [decide_eq_true h2, decide_eq_true (List.cons_lt_cons_iff.mpr (.inl h2))]
      · rw [decide_eq_false h2, decide_eq_false fun z => (List.cons_lt_cons_iff.mp z).elim (fun z => h2 z) fun z => h z.1]
theorem dlt_dT (a b : List Int) : PySem.W.dataLt (dT a) (dT b) = HT.lexLt a b := by
  unfold dT
  rw [PySem.W.dataLt_tuple, ← lt_lexI]
  exact PySem.W.dataLt_ints a b
theorem dlt_B : ∀ {xs ys : List (List Int)}, AllP xs → AllP ys → PyProof.Rows.lexLt PyProof.Rows.itemOrd (PySem.W.keyToksAll (xs.map dT)) (PySem.W.keyToksAll (ys.map dT)) = HT.lexLt (kyB xs) (kyB ys)
  | [], [], _, _ => by
    rw [lexB (x := []) (y := []) (fun _ h => absurd h List.not_mem_nil) (fun _ h => absurd h List.not_mem_nil) trivial]
    rfl
  | [], y :: ys, h1, h2 => by
    rw [lexB (x := []) (y := []) h1 h2 trivial]
    simp only [List.map_cons, List.map_nil, PySem.W.keyToksAll]
    rfl
  | x :: xs, [], h1, h2 => by
    rw [lexB (x := []) (y := []) h1 h2 trivial]
    simp only [List.map_cons, List.map_nil, PySem.W.keyToksAll]
    rfl
  | x :: xs, y :: ys, h1, h2 => by
    rw [lexB (x := []) (y := []) h1 h2 trivial]
    simp only [List.map_cons]
    by_cases h : x = y
    · rw [if_pos h, PySem.W.dataLt_all_yes (alk_dT x y) (by rw [eqv_dT, decide_eq_true h])]
      exact dlt_B h1.tail h2.tail
    · rw [if_neg h, PySem.W.dataLt_all_no (alk_dT x y) (by rw [eqv_dT, decide_eq_false h])]
      exact dlt_dT x y
section
variable {prog : Program} {w : World} {A : Around} {s : Shared}
theorem tb_lt {v u : Value} {ns ms : List Int} (hu : A.units + 30 < cLine) (p : TBn s.heap v ns) (q : TBn s.heap u ms) {E : Value → Shared → Prop} {Q : Bool → Shared → Prop} (h : Q (HT.lexLt ns ms) s) : wpAny (model prog w) A (keyLt' oneType' v u) Q E s := by
  obtain ⟨a, its, n1, rfl, ⟨⟨c1, dd1, dt1, sl1⟩, e1, f1, m1, g1⟩, i1, z1, rfl⟩ := p
  obtain ⟨b, its2, n2, rfl, ⟨⟨c2, dd2, dt2, sl2⟩, e2, f2, m2, g2⟩, i2, z2, rfl⟩ := q
  simp only at f1 g1 f2 g2
  subst f1 g1 f2 g2
  rw [← dlt_B z1 z2] at h
  have h4 := i1.reads
  have k4 := i2.reads
  have l1 : its.toArray.size = (n1.map dT).length := by simpa using SeqAt.ReadsAll.length _ _ _ h4
  have l2 : its2.toArray.size = (n2.map dT).length := by simpa using SeqAt.ReadsAll.length _ _ _ k4
  have hal := alks_dT n1 n2
  have d1 := depth_dT n1
  rw [← PySem.W.firstLt_toks _ _ hal, ← l1, ← l2] at h
  rw [keyLt'_oneType, oneLt'_eq]
  simp only [if_true]
  refine wpAny_bind (wpAny_cRoomFor (by omega) ?_)
  refine wpAny_bind (wpAny_callSpecialIfBound?_slot (T := "tuple") ⟨_, e1, rfl⟩ F.slot_tuple_lt (call_meets F.slot_tuple_lt ⟨_, e1, rfl⟩ F.entry_tuple_lt (F.args_tuple_lt_2 _ _) (SeqAt.tuple_ltAt a b its.toArray its2.toArray m1 m2 dd1 dd2 sl1 sl2 (SeqAt.pairEq (n1.map dT) (n2.map dT)) (fun j => PySem.W.dataLt ((n1.map dT).getD j .none) ((n2.map dT).getD j .none))) ⟨e1, e2, fun j j1 j2 => ?_, fun j j1 j2 hj => ?_, ?_⟩))
  · have := PySem.W.eqAt_alikeAll (n1.map dT) (n2.map dT) A.in1 s its its2 _ _ h4 k4 hal (by show A.units + 1 + _ < cLine; omega) j (by simpa using j1) (by simpa using j2)
    simpa using this
  · have := PySem.W.rcLt_alikeAll (n1.map dT) (n2.map dT) A.in1 s its its2 _ _ h4 k4 hal (by show A.units + 1 + _ < cLine; omega) j (by simpa using j1) (by simpa using j2) hj
    simpa using this
  · exact wpAny_truthy_bool h
theorem ib_lt {v u : Value} {ns ms : List Int} (hu : A.units + 30 < cLine) (p : IBn s.heap v ns) (q : IBn s.heap u ms) {E : Value → Shared → Prop} {Q : Bool → Shared → Prop} (h : Q (HT.lexLt ns ms) s) : wpAny (model prog w) A (keyLt' (tuples' true) v u) Q E s := by
  obtain ⟨a, i, t, b, ns, rfl, ⟨o, e1, _, n, d1⟩, ⟨a', its, n1, rfl, ⟨o', e1', c', n', d1'⟩, i1, z1, rfl⟩, rfl⟩ := p
  obtain ⟨a2, i2, t2, b2, ms, rfl, ⟨o2, e2, _, m, d2⟩, ⟨b', its2, n2, rfl, ⟨q', e2', c2', m', d2'⟩, j1, z2, rfl⟩, rfl⟩ := q
  have r1 : ReadsAll s.heap [.int i t, .ref a'] [.int i, .tuple (n1.map dT)] [] := .cons (.int i t) (.cons (.tuple e1' c' d1' (by rw [List.toList_toArray]; exact i1.reads)) .nil)
  have r2 : ReadsAll s.heap [.int i2 t2, .ref b'] [.int i2, .tuple (n2.map dT)] [] := .cons (.int i2 t2) (.cons (.tuple e2' c2' d2' (by rw [List.toList_toArray]; exact j1.reads)) .nil)
  have hal : PySem.W.alikeAll [.int i, .tuple (n1.map dT)] [.int i2, .tuple (n2.map dT)] = true := by
    have := alks_dT n1 n2
    simp [PySem.W.alikeAll, PySem.W.alike, this]
  have dp : PyData.depthAll [.int i, .tuple (n1.map dT)] ≤ 3 := by
    have := depth_dT n1
    simp only [PyData.depthAll, PyData.depth]
    omega
  refine PySem.W.kat_lt e1 d1 e2 d2 ?_
  refine PySem.W.katLex_alike [.int i, .tuple (n1.map dT)] [.int i2, .tuple (n2.map dT)] 0 _ _ _ _ r1 r2 hal (by omega) (fun _ _ x r t ex => ?_) (by rfl) ?_
  · injection ex with ex _
    subst ex
    intro z
    cases z
  · rw [HT.lexLt_cons, ← dlt_B z1 z2] at h
    by_cases e : i = i2
    · rw [if_pos e] at h
      rw [PySem.W.dataLt_all_yes (by simp [PySem.W.alike]) (by simp [PyData.eqv, e])]
      by_cases e' : n1 = n2
      · subst e'
        rw [PyProof.Rows.lex_irrefl] at h ⊢
        exact h
      · have hal2 : PySem.W.alike (.tuple (n1.map dT)) (.tuple (n2.map dT)) = true := by
          simp only [PySem.W.alike]
          exact alks_dT n1 n2
        have hne : PyData.eqv (.tuple (n1.map dT)) (.tuple (n2.map dT)) = false := by
          cases hz : PyData.eqv (.tuple (n1.map dT)) (.tuple (n2.map dT)) with
          | false => rfl
          | true =>
            have k := (PySem.W.toks_eqv _ _ hal2).1 hz
            simp only [PySem.W.keyToks] at k
            exfalso
            have := dlt_B z1 z2
            have this2 := dlt_B z2 z1
            have k2 : PySem.W.keyToksAll (n1.map dT) = PySem.W.keyToksAll (n2.map dT) := by
              first | exact k | exact List.append_cancel_right k | simpa using k
            rw [k2, PyProof.Rows.lex_irrefl] at this this2
            exact e' (kyB_inj z1 z2 (lex_anti this.symm this2.symm))
        rw [PySem.W.dataLt_all_no hal2 hne, PySem.W.dataLt_tuple]
        exact h
    · rw [if_neg e] at h
      rw [PySem.W.dataLt_all_no (by simp [PySem.W.alike]) (by simp [PyData.eqv, e]), PySem.W.dataLt_int]
      exact h
/-! the kind -/
theorem firstB {E : Value → Shared → Prop} {M : Model} {v : Value} {l : List Int} (h : TBn s.heap v l) {Q : Option Value → Shared → Prop} (q : ∀ o, (l = [] → o = none) → Q o s) : wpAny M A (firstOfTuple' v) Q E s := by
  obtain ⟨a, its, nss, rfl, ⟨o, ho, hc, n, hd⟩, hi, hz, rfl⟩ := h
  rw [PySem.W.kas_first_eq]
  refine wpAny_bind (PySem.W.Looks.here (show PySem.W.Looks M s.heap (typeOf (.ref a)) o.cls from (PySem.W.Looks.ld ho).andThen .now) ?_)
  rw [hc, if_neg (by first | decide | simp)]
  refine wpAny_bind (listItems_at ho hd (wpAny_pure (q _ fun z => ?_)))
  cases nss with
  | nil =>
    cases its with
    | nil => rfl
    | cons => exact hi.elim
  | cons x r =>
    rw [kyB_cons] at z
    cases x <;> cases z
theorem firstsB {E : Value → Shared → Prop} {M : Model} : ∀ (vs : List Value) {Q : List (Option Value) → Shared → Prop}, (∀ v ∈ vs, ∃ l, TBn s.heap v l) → (∀ os : List (Option Value), os.length = vs.length → (∀ v r, vs = v :: r → TBn s.heap v [] → os[0]? = some none) → Q os s) → wpAny M A (vs.mapM firstOfTuple') Q E s
  | [], Q, _, q => by rw [List.mapM_nil]; exact wpAny_pure (q [] rfl fun _ _ z => by cases z)
  | v :: vs, Q, hv, q => by
    rw [List.mapM_cons]
    obtain ⟨l, hl⟩ := hv v List.mem_cons_self
    refine wpAny_bind (firstB hl fun o ho => ?_)
    refine wpAny_bind (firstsB vs (fun u hu => hv u (List.mem_cons_of_mem _ hu)) fun os h1 _ => wpAny_pure (q (o :: os) (by simp [h1]) fun u r e ht => ?_))
    cases e
    have := hl.uniq ht
    rw [ho this]
    rfl
theorem kindEB {E : Value → Shared → Prop} {M : Model} {v : Value} {vs : List Value} (h0 : TBn s.heap v []) (hv : ∀ u ∈ v :: vs, ∃ l, TBn s.heap u l) {Q : SortKind → Shared → Prop} (q : Q oneType' s) : wpAny M A (keyKind' (v :: vs).toArray) Q E s := by
  rw [PyProof.Rows.kat_kind_eq, List.mapM_toArray, map_eq_pure_bind]
  refine wpAny_bind (wpAny_bind (firstsB (v :: vs) hv fun os h1 h2 => wpAny_pure ?_))
  have h3 := h2 v vs rfl h0
  have c1 : (os.toArray.all fun x => x.isSome) = false := by
    cases os with
    | nil => cases h3
    | cons o os =>
      have : o = none := by simpa using h3
      subst this
      simp
  rw [if_neg (by rw [c1]; simp)]
  have c2 : ((os.toArray[0]?).bind id).isSome = false := by
    rw [List.getElem?_toArray, h3]
    rfl
  rw [if_neg (by rw [c2]; simp)]
  rw [PyProof.Rows.oneTypeOnly'_eq, List.mapM_toArray, map_eq_pure_bind]
  have ty : ∀ u ∈ v :: vs, ∀ (Q' : Value → Shared → Prop), Q' (.type "tuple") s → wpAny M A (typeOf u) Q' E s := fun u hu Q' q' => by
    obtain ⟨l, a, its, nss, rfl, ⟨o, ho, hc, n, hd⟩, hi⟩ := hv u hu
    refine PySem.W.Looks.here (show PySem.W.Looks M s.heap (typeOf (.ref a)) o.cls from (PySem.W.Looks.ld ho).andThen .now) ?_
    rw [hc]
    exact q'
  refine wpAny_bind (wpAny_bind (wpAny_bind (PySem.W.kas_mapM (r := .type "tuple") _ ty (wpAny_pure ?_))))
  have a1 : ((List.map (fun _ => Value.type "tuple") (v :: vs)).toArray.all fun x => x == Value.type "tuple") = true := by
    simp only [List.all_toArray, List.all_map, List.all_eq_true]
    intro _ _
    rfl
  have a0 : (List.map (fun _ => Value.type "tuple") (v :: vs)).toArray[0]? = some (Value.type "tuple") := by simp
  rw [a0]
  simp only [a1, if_true]
  exact wpAny_pure (wpAny_pure q)
end
end Li

/-! tuples turned about, builtins -/
namespace Li
open PySem PySem.Spec PyProof.Rows L2 HT
theorem range_get {α : Type} : ∀ (L : List α), (List.range L.length).filterMap (fun m => L[m]?) = L
  | [] => rfl
  | a :: L => by
    rw [List.length_cons, List.range_succ_eq_map, List.filterMap_cons]
    simp only [List.getElem?_cons_zero, List.filterMap_map]
    have e : ((fun m => (a :: L)[m]?) ∘ Nat.succ) = fun m => L[m]? := by funext m; simp
    rw [e, range_get L]
theorem fm_congr {α β : Type} {f g : α → Option β} : ∀ {l : List α}, (∀ x ∈ l, f x = g x) → l.filterMap f = l.filterMap g
  | [], _ => rfl
  | a :: l, h => by
    rw [List.filterMap_cons, List.filterMap_cons, h a List.mem_cons_self, fm_congr fun x hx => h x (List.mem_cons_of_mem _ hx)]
theorem pick_rev (xs : Array Value) : ((List.range xs.size).filterMap fun (m : Nat) => xs[(((xs.size : Int) - 1) + (m : Int) * (-1)).toNat]?).toArray = xs.toList.reverse.toArray := by
  congr 1
  have h := range_get xs.toList.reverse
  rw [List.length_reverse, Array.length_toList] at h
  refine Eq.trans ?_ h
  refine fm_congr fun m hm => ?_
  have hm : m < xs.size := List.mem_range.mp hm
  rw [List.getElem?_reverse (by simpa using hm)]
  have : (((xs.size : Int) - 1) + (m : Int) * (-1)).toNat = xs.toList.length - 1 - m := by rw [Array.length_toList]; omega
  rw [this]
  simp
section
variable {prog : Program} {w : World} {A : Around} {E : Value → Shared → Prop} {s : Shared}
theorem sliceApplied_rev {sl : Addr} {vk : Value} {n : Nat} {Q : Int × Int × Nat → Shared → Prop} (hs : s.heap.IsSliceOf sl .none .none vk) (pk : IsPart vk (some (-1)))
    (h : Q ((n : Int) - 1, -1, n) s) : wpAny (model prog w) A (Builtin.Slice.sliceApplied (.ref sl) (pure (n : Int))) Q E s := by
  obtain ⟨os, hos, hcs, hds⟩ := id hs
  unfold Builtin.Slice.sliceApplied Builtin.Slice.sliceFields
  refine wpAny_bind (wpAny_bind (wpAny_field hos hds (x := .none) rfl (wpAny_bind (wpAny_field hos hds (x := .none) rfl (wpAny_bind (wpAny_field hos hds (x := vk) rfl (wpAny_pure ?_)))))))
  refine wpAny_bind (slicePart_ pk ?_)
  show wpAny _ _ (if ((-1 : Int) == 0) = true then _ else _) _ _ s
  rw [if_neg (by decide)]
  refine wpAny_bind (slicePart_none (wpAny_bind (slicePart_none (wpAny_bind (wpAny_pure ?_)))))
  show wpAny _ _ (match Builtin.Slice.sliceAdjust none none (-1) (n : Int) with | (lo, hi) => pure (lo, (-1 : Int), Builtin.Slice.slicePlaces lo hi (-1))) _ _ s
  have e : Builtin.Slice.sliceAdjust none none (-1) (n : Int) = ((n : Int) - 1, -1) := rfl
  rw [e]
  show wpAny _ _ (pure ((n : Int) - 1, (-1 : Int), Builtin.Slice.slicePlaces ((n : Int) - 1) (-1) (-1))) _ _ s
  have e2 : Builtin.Slice.slicePlaces ((n : Int) - 1) (-1) (-1) = n := by
    unfold Builtin.Slice.slicePlaces
    rw [if_neg (by decide)]
    by_cases h0 : n = 0
    · subst h0; rfl
    · rw [if_pos (by omega)]
      have : ((n : Int) - 1 - -1 - 1) / (-(-1)) + 1 = (n : Int) := by
        have : (-(-1) : Int) = 1 := by decide
        rw [this, Int.ediv_one]
        omega
      rw [this]
      omega
  rw [e2]
  exact wpAny_pure h
theorem getItem_tuple_rev {t sl : Addr} {items : Array Value} {vk : Value} {Q : Value → Shared → Prop} (ht : IsTup s.heap t items) (hs : s.heap.IsSliceOf sl .none .none vk) (pk : IsPart vk (some (-1)))
    (h : Q (.ref s.heap.objs.size) { s with heap := s.heap.push { cls := .type "tuple", data := .seq items.toList.reverse.toArray } })
    (hsz : items.size ≤ sizeLine) : wpAny (model prog w) A (getItem (.ref t) (.ref sl)) Q E s := by
  have htake : sizeOk (.seq items.toList.reverse.toArray) := by
    show items.toList.reverse.toArray.size ≤ sizeLine
    rw [List.size_toArray, List.length_reverse, Array.length_toList]
    exact hsz
  obtain ⟨os, hos, hcs, hds⟩ := id hs
  have hTs : s.TypeIs (.ref sl) "slice" := ⟨os, hos, hcs⟩
  unfold getItem
  try with_reducible refine wpAny_holding ?_
  first | refine wpAny_bind (wpAny_pure ?_) | skip
  refine wpAny_bind (wpAny_sequenceKey ht.typeIs (by decide) ?_)
  refine wpAny_bind (wpAny_callSpecial?_slot (name := Str.ofString "__getitem__") ht.typeIs PyProof.Rows.slot_tuple_getitem
    (wpAny_call_entry PyProof.Rows.slot_tuple_getitem ht.typeIs entry_tuple_getitem ?_ (args_tuple_getitem _ _)))
  show wpAny _ _ (Builtin.Tuple.tupleItemsOf (.ref t) >>= _) _ _ s
  refine wpAny_bind (tupleItemsOf_ ht ?_)
  refine wpAny_bind (wpAny_typeOf hTs ?_)
  rw [if_pos (by decide)]
  refine wpAny_bind (sliceApplied_rev hs pk ?_)
  have hno : ¬ ((((items.size : Int) - 1) == 0 && (-1 : Int) == 1 && items.size == items.size) = true) := by
    intro q
    rw [Bool.and_eq_true, Bool.and_eq_true] at q
    exact absurd (eq_of_beq q.1.2) (by decide)
  show wpAny _ _ (if (((items.size : Int) - 1) == 0 && (-1 : Int) == 1 && items.size == items.size) = true then _ else _) _ _ s
  rw [if_neg hno, pick_rev]
  first
    | exact wpAny_bind (m := Builtin.Tuple.tupleExact _) (wpAny_newObj_type (wpAny_pure ⟨_, rfl, wpAny_pure h⟩) htake)
    | exact wpAny_bind (m := Builtin.Tuple.tupleExact _) (wpAny_newObj_type (wpAny_bind (wpAny_pure (wpAny_pure ⟨_, rfl, wpAny_pure h⟩))) htake)
    | exact wpAny_bind (wpAny_bind (m := Builtin.Tuple.tupleExact _) (wpAny_newObj_type (wpAny_pure (wpAny_pure ⟨_, rfl, wpAny_pure h⟩)) htake))
    | exact wpAny_bind (wpAny_bind (m := Builtin.Tuple.tupleExact _) (wpAny_newObj_type (wpAny_pure ⟨_, rfl, wpAny_pure h⟩) htake))
end
theorem pick_revS (z : Str) : ((Builtin.Str.strSliceIndices none none (-1) z.length).filterMap (z.cps[·]?)) = z.cps.toList.reverse := by
  have e : Builtin.Str.strSliceIndices none none (-1) z.length = (List.range z.cps.size).map fun (k : Nat) => (((z.cps.size : Int) - 1) + (k : Int) * (-1)).toNat := by
    show sliceRange ((z.cps.size : Int) - 1) (-1) (-1) = _
    unfold sliceRange
    rw [if_neg (by decide)]
    have e1 : (if (z.cps.size : Int) - 1 > -1 then ((z.cps.size : Int) - 1 - -1 - -1 - 1) / (- -1) else 0).toNat = z.cps.size := by
      by_cases h : (z.cps.size : Int) - 1 > -1
      · rw [if_pos h]
        show (((z.cps.size : Int) - 1 - -1 - -1 - 1) / 1).toNat = _
        rw [Int.ediv_one]
        omega
      · rw [if_neg h]
        omega
    simp only [e1]
    refine List.map_congr_left fun k _ => ?_
    rw [Int.mul_comm]
  rw [e, List.filterMap_map]
  have h := range_get z.cps.toList.reverse
  rw [List.length_reverse, Array.length_toList] at h
  refine Eq.trans ?_ h
  refine fm_congr fun m hm => ?_
  have hm : m < z.cps.size := List.mem_range.mp hm
  rw [List.getElem?_reverse (by simpa using hm)]
  have : (((z.cps.size : Int) - 1) + (m : Int) * (-1)).toNat = z.cps.toList.length - 1 - m := by rw [Array.length_toList]; omega
  show z.cps[(((z.cps.size : Int) - 1) + (m : Int) * (-1)).toNat]? = _
  rw [this]
  simp
/-- e[::-1] of a list or a tuple -/
def tRevR (K : PySem.W.Frag) (te : TE) : TE := fun σ H Q => te σ H fun x H1 => r1D K revR x H1 Q
theorem pe_revR {X : Cx} {e : Expr} {te : TE} {k : Nat} {p1 p2 p3 pos : Pos} (he : PE X e te) : PE X (.Subscript e (.Slice none none (some (.UnaryOp .USub (.Constant (.int 1) k p1) p2)) p3) pos) (tRevR X.K te) := by
  refine ⟨fun pins s σ H Q I h => ?_⟩
  refine Subscript_ (thn (he.run pins s σ H _ I h) fun v s1 ⟨x, H1, I1, r1, q1⟩ => ?_)
  obtain ⟨av, a, dm, ra, q⟩ := q1
  have hst : PO X (some (.UnaryOp .USub (.Constant (.int 1) k p1) p2)) (tPart (tUn (rU fun i => .int (-i)) (tC (.int 1)))) := po_some (pe_un un_neg pe_int)
  refine wpAny_Slice (thn (po_none.run pins s1 σ H1 (fun o H2 => o = none ∧ H2 = H1) I1 ⟨rfl, rfl⟩) fun vl s2 ⟨l, H2, I2, pl, el, e2⟩ => ?_)
  subst el e2
  refine thn (po_none.run pins s2 σ H2 (fun o H3 => o = none ∧ H3 = H2) I2 ⟨rfl, rfl⟩) fun vu s3 ⟨u, H3, I3, pu, eu, e3⟩ => ?_
  subst eu e3
  refine thn (hst.run pins s3 σ H3 (fun o H4 => o = some (-1) ∧ H4 = H3) I3 ⟨1, rfl, -1, rfl, rfl, rfl⟩) fun vs s4 ⟨o, H4, I4, ps, eo, e4⟩ => ?_
  subst eo e4
  have I5 : Inv X pins σ H4 { s4 with heap := s4.heap.push { cls := .type "slice", data := .fields #[vl, vu, vs] } } := I4.kept (t' := s4.toks) fun b ob q => Heap.get?_push_of_some _ q
  cases ra with
  | @lst a xs ds h1 rr =>
    cases r1
    obtain ⟨its, r, ht, hz⟩ := I5.list (SqL.of h1)
    have hlen := r.length
    show wpAny (model X.prog X.w) X.A (subscriptTail e (.Slice none none (some (.UnaryOp .USub (.Constant (.int 1) k p1) p2)) p3) (.ref a) (.ref s4.heap.objs.size)) (EP X pins σ Q) X.xe { s4 with heap := s4.heap.push { cls := .type "slice", data := .fields #[vl, vu, vs] } }
    refine tail_any (ops := [.ref a, .ref s4.heap.objs.size]) ht.isList.typeIs (PySem.slot_list_getitem.lookup) ?_ (by with_unfolding_all rfl)
    refine wpAny_getItem_list_slice ht.isList (Heap.IsSliceOf.new _ vl vu vs) pl pu ps (by decide) ?_ (by rw [List.size_toArray]; omega)
    rw [PySem.W.krv_pick]
    refine ⟨.ref _, _, I5.laid (t' := s4.toks) (o := .lst xs.reverse) (fun b ob q => Heap.get?_push_of_some _ q) (Nat.le_refl _) ?_, rfl, OKV.lst q dm rr.reverse _ (I5.hok.fresh (Nat.le_refl _))⟩
    exact ⟨by rw [List.length_reverse]; exact hz, _, 0, r.reverse, Heap.get?_push_size _ rfl⟩
  | @tup a xs ds h1 rr =>
    cases r1
    cases pl
    cases pu
    obtain ⟨its, r, ht, hz⟩ := I5.tuple h1.sq
    have hlen := r.length
    show wpAny (model X.prog X.w) X.A (subscriptTail e (.Slice none none (some (.UnaryOp .USub (.Constant (.int 1) k p1) p2)) p3) (.ref a) (.ref s4.heap.objs.size)) (EP X pins σ Q) X.xe { s4 with heap := s4.heap.push { cls := .type "slice", data := .fields #[.none, .none, vs] } }
    refine tail_any (ops := [.ref a, .ref s4.heap.objs.size]) ht.typeIs PyProof.Rows.slot_tuple_getitem.lookup ?_ (by with_unfolding_all rfl)
    refine getItem_tuple_rev ht (Heap.IsSliceOf.new _ .none .none vs) ps ?_ (by rw [List.size_toArray]; omega)
    exact laidT I5 (by rw [List.length_reverse]; exact hz) r.reverse (OKV.tup q dm rr.reverse)
  | str z =>
    obtain ⟨hs, q⟩ := OKV.need q
    have hs := of_decide_eq_true hs
    have hl := lim
    obtain ⟨t, rfl⟩ := r1
    cases pl
    cases pu
    obtain ⟨tk, rfl⟩ : ∃ tk, vs = Value.int (-1) tk := by cases ps; exact ⟨_, rfl⟩
    show wpAny (model X.prog X.w) X.A (subscriptTail e (.Slice none none (some (.UnaryOp .USub (.Constant (.int 1) k p1) p2)) p3) (.str z t) (.ref s4.heap.objs.size)) (EP X pins σ Q) X.xe { s4 with heap := s4.heap.push { cls := .type "slice", data := .fields #[.none, .none, .int (-1) tk] } }
    refine tail_any (ops := [.str z t, .ref s4.heap.objs.size]) (typeIs_str _ _ _) F.slot_str_getitem.lookup ?_ (by with_unfolding_all rfl)
    refine wpAny_getItem_str_slice (l := none) (u := none) (st := some (-1, tk)) ⟨_, Heap.get?_push_size _ rfl, rfl, rfl⟩ rfl ?_
    have e : (⟨((slicePicked z none none (some (-1, tk))).filterMap (z.cps[·]?)).toArray⟩ : Str) = revS z := congrArg (fun l : List Nat => (⟨l.toArray⟩ : Str)) (pick_revS z)
    have e0 : sliceMade z t none none (some (-1, tk)) = Made.str (revS z) := by
      unfold sliceMade
      rw [if_neg (by simp), e]
    rw [e0]
    refine ⟨?_, .str _, H4, I5.tok _, ⟨_, rfl⟩, q.str⟩
    show (z.cps.toList.reverse.toArray).size ≤ sizeLine
    rw [List.size_toArray, List.length_reverse, Array.length_toList]
    exact Nat.le_trans hs hl
  | _ => exact (show False from q).elim

/-! ### builtins of one thing -/
def rC (K : PySem.W.Frag) (f : List D → Res D) : List V → Hp → VK → Prop := fun xs H Q => ∃ av ds, Dom av H ∧ RepWs K av H xs ds ∧ OKV K av H Q (f ds)
def f1 (f : D → Res D) : List D → Res D
  | [a] => f a
  | _ => .no
theorem rC1 {K : PySem.W.Frag} {f : D → Res D} {xs : List V} {H : Hp} {Q : VK} (h : rC K (f1 f) xs H Q) : ∃ av a x, xs = [x] ∧ Dom av H ∧ RepW K av H x a ∧ OKV K av H Q (f a) := by
  obtain ⟨av, ds, dm, r, q⟩ := h
  match ds, q with
  | [], q => exact (show False from q).elim
  | [a], q =>
    cases r with
    | cons r1 r2 => cases r2; exact ⟨av, a, _, rfl, dm, r1, q⟩
  | _ :: _ :: _, q => exact (show False from q).elim
theorem call_lenR {X : Cx} : CallR X (.builtin "len") (rC X.K (f1 lenR)) := by
  intro pins s σ H xs us Q I r h
  obtain ⟨av, a, x, rfl, dm, ra, q⟩ := rC1 h
  have hl := lim
  cases ra with
  | @lst a1 xs ds h1 r1 =>
    refine call_len_seq pins s σ H _ us Q I r ⟨a1, xs, rfl, .inl (SqL.of h1), ?_⟩
    rw [r1.length]
    exact OKV.int q
  | @tup a1 xs ds h1 r1 =>
    refine call_len_seq pins s σ H _ us Q I r ⟨a1, xs, rfl, .inr h1.sq, ?_⟩
    rw [r1.length]
    exact OKV.int q
  | @scr a1 ns h1 =>
    refine call_len_seq pins s σ H _ us Q I r ⟨a1, _, rfl, .inl h1, ?_⟩
    rw [List.length_map]
    exact OKV.int q
  | str z =>
    obtain ⟨hs, q⟩ := OKV.need q
    have hs := of_decide_eq_true hs
    exact call_len_str pins s σ H _ us Q I r ⟨z, rfl, by omega, OKV.int q⟩
  | _ => exact (show False from q).elim
theorem call_listR {X : Cx} : CallR X (.type "list") (rC X.K (f1 listR)) := by
  intro pins s σ H xs us Q I r h
  obtain ⟨av, a, x, rfl, dm, ra, q⟩ := rC1 h
  cases ra with
  | @lst a1 xs ds h1 r1 => exact call_list_of pins s σ H _ us Q I r ⟨a1, xs, rfl, .inl (SqL.of h1), OKV.lst q dm r1⟩
  | @tup a1 xs ds h1 r1 => exact call_list_of pins s σ H _ us Q I r ⟨a1, xs, rfl, .inr h1.sq, OKV.lst q dm r1⟩
  | _ => exact (show False from q).elim
theorem call_tupleR {X : Cx} : CallR X (.type "tuple") (rC X.K (f1 tupleR)) := by
  intro pins s σ H xs us Q I r h
  obtain ⟨av, a, x, rfl, dm, ra, q⟩ := rC1 h
  cases ra with
  | @lst a1 xs ds h1 r1 => exact call_tupleC pins s σ H _ us Q I r ⟨a1, xs, rfl, .inl ⟨SqL.of h1, OKV.tup q dm r1⟩⟩
  | @tup a1 xs ds h1 r1 => exact call_tupleC pins s σ H _ us Q I r ⟨a1, xs, rfl, .inr ⟨h1.sq, OKV.is q (.tup h1 r1)⟩⟩
  | _ => exact (show False from q).elim
theorem call_intR {X : Cx} : CallR X (.type "int") (rC X.K (f1 intR)) := by
  intro pins s σ H xs us Q I r h
  obtain ⟨av, a, x, rfl, dm, ra, q⟩ := rC1 h
  cases ra with
  | int i => exact call_int1 pins s σ H _ us Q I r (.inl ⟨i, rfl, OKV.int q⟩)
  | bl b =>
    refine call_int1 pins s σ H _ us Q I r (.inr ⟨b, rfl, ?_⟩)
    exact OKV.int q
  | str z =>
    simp only [intR] at q
    cases e : PySem.intText? z with
    | none => rw [e] at q; exact (show False from q).elim
    | some n =>
      rw [e] at q
      have q : OKV X.K av H Q (need (decide (z.length ≤ 640)) (.ok (.int n))) := q
      obtain ⟨hs, q⟩ := OKV.need q
      exact call_int_str pins s σ H _ us Q I r ⟨z, n, rfl, e, of_decide_eq_true hs, q.int⟩
  | _ => exact (show False from q).elim
theorem call_strR {X : Cx} : CallR X (.type "str") (rC X.K (f1 strR)) := by
  intro pins s σ H xs us Q I r h
  obtain ⟨av, a, x, rfl, dm, ra, q⟩ := rC1 h
  cases ra with
  | int i =>
    obtain ⟨hs, q⟩ := OKV.need q
    exact call_str_int pins s σ H _ us Q I r ⟨i, rfl, of_decide_eq_true hs, q.str⟩
  | _ => exact (show False from q).elim
theorem preSum_list : ∀ (ns : List Int), preSum (fun i => ns.getD i 0) ns.length = ns.sum := by
  have key : ∀ (ns : List Int) (k : Nat), k ≤ ns.length → preSum (fun i => ns.getD i 0) k = (ns.take k).sum := by
    intro ns k
    induction k with
    | zero => intro _; simp [preSum]
    | succ k ih =>
      intro hk
      have h1 : k < ns.length := by omega
      have e : ns.take (k + 1) = ns.take k ++ [ns[k]] := by rw [List.take_succ, List.getElem?_eq_getElem h1]; rfl
      rw [e, List.sum_append, ← ih (by omega)]
      simp [preSum, List.getD_eq_getElem?_getD, h1]
  intro ns
  rw [key ns ns.length (Nat.le_refl _), List.take_length]
theorem sum_tup {prog : Program} {w : World} {A : Around} {E : Value → Shared → Prop} {s : Shared} {a : Addr} {its : List Value} {ns : List Int} {Q : Value → Shared → Prop} (hh : A.handled = none) (ht : IsTup s.heap a its.toArray) (hi : IntsAre its ns)
    (h : ∀ h' tk t', (∀ b o, s.heap.get? b = some o → h'.get? b = some o) → Q (.int ns.sum t') { s with heap := h', toks := tk }) : wpAny (model prog w) A (call (.builtin "sum") [.ref a]) Q E s := by
  have hlt : a < s.heap.objs.size := by obtain ⟨o, e, _⟩ := ht; exact Heap.lt_size e
  refine PySem.call_sum_walkG (PySem.wpAny_pyIter_tuple ht ?_)
  refine ⟨s.heap.objs.size, _, _, _, _, _, fun i => ns.getD i 0, rfl, PySem.Walks.tuple (A := A.in1) hh _ a (Nat.ne_of_lt hlt) its.toArray, ⟨?_, ?_⟩, ?_, ?_, ?_⟩
  · exact ⟨_, Heap.get?_push_size _ rfl, rfl, rfl⟩
  · obtain ⟨o, e, c, n, d⟩ := ht
    exact ⟨o, Heap.get?_push_of_some _ e, c, n, d⟩
  · intro b hb
    show b < (s.heap.push _).objs.size
    rw [Heap.size_push]
    rcases List.mem_cons.mp hb with rfl | hb
    · exact Nat.lt_succ_self _
    · rw [List.mem_singleton.mp hb]; exact Nat.lt_succ_of_lt hlt
  · intro i v e
    exact PyProof.Rows.IntsAre.int_at hi i v (by simpa using e)
  · intro h' tk t' hk
    have e1 : its.toArray.size = ns.length := by rw [List.size_toArray]; exact hi.length
    show Q (.int (preSum (fun i => ns.getD i 0) its.toArray.size) t') _
    rw [e1, preSum_list]
    refine h h' tk t' fun b o e => hk b o ?_ (Heap.get?_push_of_some _ e)
    intro z
    have := Heap.lt_size e
    rw [List.mem_singleton.mp z] at this
    exact absurd this (Nat.lt_irrefl _)
theorem call_sumR {X : Cx} (hc : X.calm = true) : CallR X (.builtin "sum") (rC X.K (f1 sumR)) := by
  intro pins s σ H xs us Q I r h
  obtain ⟨av, a, x, rfl, dm, ra, q⟩ := rC1 h
  cases ra with
  | @lst a1 xs ds h1 r1 =>
    obtain ⟨hs, q⟩ := OKV.need q
    have e := all_ints hs
    rw [e] at r1
    rw [reps_of_ints r1] at h1
    exact cr_sum hc pins s σ H _ us Q I r ⟨a1, _, rfl, SqL.of h1, OKV.int q⟩
  | @tup a1 xs ds h1 r1 =>
    obtain ⟨hs, q⟩ := OKV.need q
    have e := all_ints hs
    rw [e] at r1
    rw [reps_of_ints r1] at h1
    obtain ⟨its, rv, ht, _⟩ := I.tuple h1.sq
    rw [Vals.ref1 r]
    exact sum_tup (I.ok.hd hc) ht (Vals.ints rv) fun h' tk t' hk => ⟨.int _, H, I.kept hk, ⟨_, rfl⟩, OKV.int q⟩
  | _ => exact (show False from q).elim
theorem all_bls : ∀ {l : List D}, l.all isBl = true → l = (l.map toB).map D.bl
  | [], _ => rfl
  | d :: l, h => by
    rw [List.all_cons, Bool.and_eq_true] at h
    have e := all_bls h.2
    cases d with
    | bl i => simp only [List.map_cons, toB]; rw [← e]
    | _ => simp [isBl] at h
theorem call_allR {X : Cx} (hc : X.calm = true) : CallR X (.builtin "all") (rC X.K (f1 allR)) := by
  intro pins s σ H xs us Q I r h
  obtain ⟨av, a, x, rfl, dm, ra, q⟩ := rC1 h
  cases ra with
  | @lst a1 xs ds h1 r1 =>
    obtain ⟨hs, q⟩ := OKV.need q
    have e := all_bls hs
    rw [e] at r1
    rw [reps_of_bls r1] at h1
    refine cr_all hc pins s σ H _ us Q I r ⟨a1, _, rfl, SqL.of h1, ?_⟩
    have e2 : (ds.map toB).all id = ds.all toB := by rw [List.all_map]; rfl
    rw [e2]
    exact OKV.bl q
  | _ => exact (show False from q).elim

/-! ### sorted -/
def uI : List Int → D := fun l => .int (l.headD 0)
def uT : List Int → D := fun l => .tup (l.map D.int)
def uP : List Int → D
  | [] => .non
  | i :: l => .tup [.int i, .tup (l.map D.int)]
theorem ltD_uI (a b : List Int) (ha : ∃ i, a = [i]) (hb : ∃ i, b = [i]) : ltD (uI a) (uI b) = HT.lexLt a b := by
  obtain ⟨i, rfl⟩ := ha
  obtain ⟨j, rfl⟩ := hb
  rw [HT.lexLt_cons, HT.lexLt_nil_nil]
  show decide (i < j) = _
  by_cases h : i = j
  · subst h; simp
  · simp [h]
theorem ltD_uT (a b : List Int) (_ : True) (_ : True) : ltD (uT a) (uT b) = HT.lexLt a b := ltDs_ints a b
theorem eqDs_ints : ∀ ns ms : List Int, eqDs (ns.map D.int) (ms.map D.int) = decide (ns = ms)
  | [], [] => rfl
  | [], _ :: _ => rfl
  | _ :: _, [] => rfl
  | n :: ns, m :: ms => by
    show (eqD (.int n) (.int m) && eqDs (ns.map D.int) (ms.map D.int)) = _
    rw [eqDs_ints ns ms]
    have e : eqD (.int n) (.int m) = (n == m) := by simp [eqD]
    rw [e]
    by_cases h : n = m <;> simp [h]
theorem ltD_uP (a b : List Int) (ha : a ≠ []) (hb : b ≠ []) : ltD (uP a) (uP b) = HT.lexLt a b := by
  cases a with
  | nil => exact absurd rfl ha
  | cons i a =>
    cases b with
    | nil => exact absurd rfl hb
    | cons j b =>
      rw [HT.lexLt_cons]
      show (if eqD (.int i) (.int j) = true then (if eqD (.tup (a.map D.int)) (.tup (b.map D.int)) = true then ltDs [] [] else ltD (.tup (a.map D.int)) (.tup (b.map D.int))) else decide (i < j)) = _
      have e : eqD (.int i) (.int j) = (i == j) := by simp [eqD]
      have e2 : eqD (.tup (a.map D.int)) (.tup (b.map D.int)) = decide (a = b) := eqDs_ints a b
      have e3 : ltD (.tup (a.map D.int)) (.tup (b.map D.int)) = HT.lexLt a b := ltDs_ints a b
      rw [e, e2, e3]
      by_cases h : i = j
      · subst h
        simp only [beq_self_eq_true, if_true]
        by_cases h2 : a = b
        · subst h2
          rw [decide_eq_true rfl, if_pos rfl]
          cases z : HT.lexLt a a with
          | false => rfl
          | true => have z2 := NtL.lex_asym _ _ z; rw [z] at z2; cases z2
        · rw [decide_eq_false h2, if_neg (by decide)]
      · simp [h]
theorem vals_map {f : Value → V} : ∀ {out : List Value}, (∀ v ∈ out, L2.RelV (f v) v) → Vals (out.map f) out
  | [], _ => .nil
  | v :: out, h => .cons (h v List.mem_cons_self) (vals_map fun u hu => h u (List.mem_cons_of_mem _ hu))
theorem reps_map {K : PySem.W.Frag} {av : Av} {H : Hp} {f : Value → V} {g : Value → D} : ∀ {out : List Value}, (∀ v ∈ out, Rep K av H (f v) (g v)) → Reps K av H (out.map f) (out.map g)
  | [], _ => .nil
  | v :: out, h => .cons (h v List.mem_cons_self) (reps_map fun u hu => h u (List.mem_cons_of_mem _ hu))
/-- which items a kind takes, and how they stand in the heap -/
structure KindS (X : Cx) (R : Heap → Value → List Int → Prop) (u : List Int → D) (S : List Int → Prop) where
  uniq : ∀ h v l m, R h v l → R h v m → l = m
  keeps : ∀ h h' v l, (∀ b o, o.cls = .type "tuple" → h.get? b = some o → h'.get? b = some o) → R h v l → R h' v l
  isref : ∀ h v l, R h v l → ∃ a, v = Value.ref a
  κ : SortKind
  lt : ∀ (A : Around) (s : Shared) (v w : Value) (l m : List Int) (Q : Bool → Shared → Prop) (E : Value → Shared → Prop), A.units + 30 < cLine → R s.heap v l → R s.heap w m → Q (HT.lexLt l m) s → wpAny (model X.prog X.w) A (keyLt' κ v w) Q E s
  s : ∀ h v l, R h v l → S l
  ord : ∀ a b, S a → S b → ltD (u a) (u b) = HT.lexLt a b
def adr : Value → Addr
  | .ref a => a
  | _ => 0
theorem sorted_kind {X : Cx} {R : Heap → Value → List Int → Prop} {u : List Int → D} {S : List Int → Prop} (hu : X.A.units + 65 < cLine) (kd : KindS X R u S) {pins : List (Addr × Obj)} {s : Shared} {σ : L2.St} {H : Hp} {Q : VK} {av : Av} {a1 : Addr} {xs : List V} {ds : List D} (I : L2.Inv X pins σ H s)
    (dm : Dom av H) {its : List Value} (rv : Vals xs its) (hz : its.length ≤ sizeLine) (go : SortsBy X.prog X.w X.A s a1 its) (r1 : Reps X.K av H xs ds)
    (kk : ∀ (h' : Heap), (∀ b o, o.cls = .type "tuple" → s.heap.get? b = some o → h'.get? b = some o) → (∀ v ∈ its, ∃ l, R h' v l) → 2 ≤ its.length → ∀ (A : Around) (Q : SortKind → Shared → Prop) (E : Value → Shared → Prop), A.units < cLine → Q kd.κ { s with heap := h' } → wpAny (model X.prog X.w) A (keyKind' its.toArray) Q E { s with heap := h' })
    (hR : ∀ x d v, x ∈ xs → d ∈ ds → Rep X.K av H x d → L2.RelV x v → ∃ l, R s.heap v l ∧ d = u l) (q : OKV X.K av H Q (.ok (.lst (sortD ds)))) :
    wpAny (model X.prog X.w) X.A (call (.builtin "sorted") [.ref a1]) (EP X pins σ Q) X.xe s := by
  -- each item has its key
  have all : ∀ {xs : List V} {ds : List D} {its : List Value}, Reps X.K av H xs ds → Vals xs its → (∀ x d v, x ∈ xs → d ∈ ds → Rep X.K av H x d → L2.RelV x v → ∃ l, R s.heap v l ∧ d = u l) →
      (∀ v ∈ its, ∃ l, R s.heap v l ∧ Rep X.K av H (.ref (adr v)) (u l)) ∧ ds = its.map fun v => u (kyV (R s.heap) v) := by
    intro xs
    induction xs with
    | nil =>
      intro ds its r rv _
      cases r
      cases rv
      exact ⟨fun _ h => (nomatch h), rfl⟩
    | cons x xs ih =>
      intro ds its r rv hR
      cases r with
      | @cons _ _ d ds' r rs =>
        cases rv with
        | @cons _ v _ its' hv hvs =>
          obtain ⟨k1, k2⟩ := ih rs hvs fun x d v hx hd => hR x d v (List.mem_cons_of_mem _ hx) (List.mem_cons_of_mem _ hd)
          obtain ⟨l, hl, e⟩ := hR x d v List.mem_cons_self List.mem_cons_self r hv
          obtain ⟨a, ea⟩ := kd.isref _ _ _ hl
          have ex : x = .ref a := by
            subst ea
            cases x with
            | ref b => cases hv; rfl
            | _ => first | (obtain ⟨t, ht⟩ := hv; cases ht) | (cases hv)
          refine ⟨fun v' hv' => ?_, ?_⟩
          · rcases List.mem_cons.mp hv' with rfl | hv'
            · exact ⟨l, hl, by rw [ea, ← e]; show Rep X.K av H (V.ref a) d; rw [← ex]; exact r⟩
            · exact k1 v' hv'
          · rw [List.map_cons, kyV_eq (kd.uniq s.heap) hl, ← e, ← k2]
  obtain ⟨k1, k2⟩ := all r1 rv hR
  have hS : ∀ v ∈ its, R s.heap v (kyV (R s.heap) v) := fun v hv => by
    obtain ⟨l, hl, _⟩ := k1 v hv
    rw [kyV_eq (kd.uniq s.heap) hl]
    exact hl
  refine go (NtL.swo_lexL (kyV (R s.heap))) (fun h2 h₁ a ha kp => ?_) fun out hs hb => ?_
  · intro h' keep
    have hk : ∀ b o, o.cls = .type "tuple" → s.heap.get? b = some o → h'.get? b = some o := fun b o c e => keep b o (kp b o e).1 (kp b o e).2
    have hS' : ∀ v ∈ its, R h' v (kyV (R s.heap) v) := fun v hv => kd.keeps _ _ _ _ hk (hS v hv)
    refine ⟨kd.κ, fun Q E hq => kk h' hk (fun v hv => ⟨_, hS' v hv⟩) h2 _ Q E (by show X.A.units + 1 + 1 < cLine; omega) hq, fun p q hp hq => ?_⟩
    exact kd.lt _ _ _ _ _ _ _ _ (by show X.A.units + 1 + 1 + 30 < cLine; omega) (hS' _ hp) (hS' _ hq) ⟨rfl, rfl⟩
  · obtain ⟨ep, he'⟩ := PyProof.Rows.sortedAll_at s.heap its out.toArray
    have hm : ∀ v, v ∈ out → v ∈ its := fun v hv => hb.perm.mem_iff.mp hv
    have e1 : out.map (kyV (R s.heap)) = sortL (its.map (kyV (R s.heap))) := by
      refine srtL_uniq ?_ (sortL_srt _) ((hb.perm.map _).trans (sortL_perm _).symm)
      rw [SrtL, List.pairwise_map]
      exact hs
    have e2 : sortD ds = out.map fun v => u (kyV (R s.heap) v) := by
      have e3 : ds = (its.map (kyV (R s.heap))).map u := by rw [k2, List.map_map]; rfl
      rw [e3, sortD_map kd.ord, ← e1, List.map_map]
      · rfl
      · intro y hy
        obtain ⟨v, hv, rfl⟩ := List.mem_map.mp hy
        exact kd.s _ _ _ (hS v hv)
    have hv' : Vals (out.map fun v => V.ref (adr v)) out := vals_map fun v hv => by
      obtain ⟨a, ea⟩ := kd.isref _ _ _ (hS v (hm v hv))
      rw [ea]
      rfl
    have hr' : Reps X.K av H (out.map fun v => V.ref (adr v)) (sortD ds) := by
      rw [e2]
      refine reps_map fun v hv => ?_
      obtain ⟨l, hl, r⟩ := k1 v (hm v hv)
      rw [kyV_eq (kd.uniq s.heap) hl]
      exact r
    have hlen : (out.map fun v => V.ref (adr v)).length ≤ sizeLine := by
      rw [List.length_map, hb.perm.length_eq]
      exact hz
    exact ⟨.ref _, upd H (s.heap.objs.size + 1) (.lst (out.map fun v => V.ref (adr v))), I.laid (t' := s.toks) (fun _ _ => PyProof.Rows.sortedAll_old) (Nat.le_succ _) ⟨hlen, out, ep, hv', he'⟩, rfl, OKV.lst q dm hr' _ (I.hok.fresh (Nat.le_succ _))⟩
theorem kind_first {prog : Program} {w : World} {A : Around} {E : Value → Shared → Prop} {s : Shared} {its : List Value} (h : ∀ v ∈ its, ∃ a i t rest, v = Value.ref a ∧ IsTup s.heap a (Value.int i t :: rest).toArray) (h2 : 2 ≤ its.length) {Q : SortKind → Shared → Prop} (hq : Q (tuples' true) s) : wpAny (model prog w) A (keyKind' its.toArray) Q E s := by
  obtain ⟨fs, f1, f2, f3⟩ := firsts (h := s.heap) (vs := its) h
  refine PySem.W.kat_kind (T := .type "int") f1 (by omega) (fun f hm => ?_) (by rfl) ?_
  · obtain ⟨x, t, rfl⟩ := f3 f hm
    exact PySem.W.Looks.now
  · have e : (Value.type "int" != Value.type "tuple") = true := by first | decide +kernel | rfl | decide
    rw [e]
    exact hq
def kindT {X : Cx} : KindS X (fun h v l => TIn h v l ∧ l ≠ []) uT (fun _ => True) where
  uniq := fun h v l m p q => p.1.uniq q.1
  keeps := fun h h' v l k p => ⟨p.1.keeps k, p.2⟩
  isref := fun h v l p => by
    obtain ⟨⟨a, its, e, t1, i1⟩, hn⟩ := p
    exact ⟨a, e⟩
  κ := tuples' true
  lt := fun A s v w l m Q E hu p q h => ti_lt p.1 q.1 h
  s := fun _ _ _ _ => trivial
  ord := ltD_uT
theorem kindT_first {h : Heap} {v : Value} {l : List Int} (p : TIn h v l ∧ l ≠ []) : ∃ a i t rest, v = Value.ref a ∧ IsTup h a (Value.int i t :: rest).toArray := by
  obtain ⟨⟨a, its, e, t1, i1⟩, hn⟩ := p
  cases i1 with
  | nil => exact absurd rfl hn
  | cons n t h => exact ⟨a, n, t, _, e, t1⟩
def kindP {X : Cx} : KindS X ITn uP (fun l => l ≠ []) where
  uniq := fun h v l m p q => p.uniq q
  keeps := fun h h' v l k p => p.keeps k
  isref := fun h v l p => by
    obtain ⟨a, i, t, b, ns, e, t1, _⟩ := p
    exact ⟨a, e⟩
  κ := tuples' true
  lt := fun A s v w l m Q E hu p q h => it_lt (by omega) p q h
  s := fun h v l p => by
    obtain ⟨a, i, t, b, ns, e, t1, _, rfl⟩ := p
    intro z
    cases z
  ord := ltD_uP
def uW (l : List Int) : D := .tup [uT (l.takeWhile fun i => decide (i ≠ 0)), uT ((l.dropWhile fun i => decide (i ≠ 0)).drop 1)]
def SW (l : List Int) : Prop := ∃ ns ms : List Int, (∀ n ∈ ns, 0 < n) ∧ l = ns ++ 0 :: ms
theorem uW_key : ∀ {ns ms : List Int}, (∀ n ∈ ns, 0 < n) → (ns ++ 0 :: ms).takeWhile (fun i => decide (i ≠ 0)) = ns ∧ ((ns ++ 0 :: ms).dropWhile fun i => decide (i ≠ 0)).drop 1 = ms
  | [], ms, _ => ⟨rfl, rfl⟩
  | n :: ns, ms, h => by
    have hn := h n List.mem_cons_self
    obtain ⟨h1, h2⟩ := uW_key (ns := ns) (ms := ms) fun x hx => h x (List.mem_cons_of_mem _ hx)
    have hd : decide (n ≠ 0) = true := decide_eq_true (by omega)
    rw [List.cons_append, List.takeWhile_cons_of_pos (p := fun i : Int => decide (i ≠ 0)) hd, List.dropWhile_cons_of_pos (p := fun i : Int => decide (i ≠ 0)) hd, h1]
    exact ⟨rfl, h2⟩
theorem uW_eq {ns ms : List Int} (h : ∀ n ∈ ns, 0 < n) : uW (ns ++ 0 :: ms) = .tup [uT ns, uT ms] := by
  unfold uW
  rw [(uW_key h).1, (uW_key h).2]
theorem ltD_uW (a b : List Int) (ha : SW a) (hb : SW b) : ltD (uW a) (uW b) = HT.lexLt a b := by
  obtain ⟨ns, ms, z1, rfl⟩ := ha
  obtain ⟨ns', ms', z2, rfl⟩ := hb
  rw [uW_eq z1, uW_eq z2, lex_key z1 z2]
  show (if eqD (.tup (ns.map D.int)) (.tup (ns'.map D.int)) = true then (if eqD (.tup (ms.map D.int)) (.tup (ms'.map D.int)) = true then ltDs [] [] else ltD (.tup (ms.map D.int)) (.tup (ms'.map D.int))) else ltD (.tup (ns.map D.int)) (.tup (ns'.map D.int))) = _
  have e1 : ∀ x y : List Int, eqD (.tup (x.map D.int)) (.tup (y.map D.int)) = decide (x = y) := fun x y => eqDs_ints x y
  have e3 : ∀ x y : List Int, ltD (.tup (x.map D.int)) (.tup (y.map D.int)) = HT.lexLt x y := fun x y => ltDs_ints x y
  rw [e1, e1, e3, e3]
  by_cases h : ns = ns'
  · subst h
    rw [if_pos rfl, if_pos (decide_eq_true rfl)]
    by_cases h2 : ms = ms'
    · subst h2
      rw [if_pos (decide_eq_true rfl), lex_irr]
      rfl
    · rw [if_neg (by simpa using h2)]
  · rw [if_neg h, if_neg (by simpa using h)]
def kindW {X : Cx} : KindS X TTn uW SW where
  uniq := fun h v l m p q => p.uniq q
  keeps := fun h h' v l k p => p.keeps k
  isref := fun h v l p => by
    obtain ⟨a, b, c, ns, ms, e, _⟩ := p
    exact ⟨a, e⟩
  κ := tuples' false
  lt := fun A s v w l m Q E hu p q h => tt_lt (by omega) p q h
  s := fun h v l p => by
    obtain ⟨a, b, c, ns, ms, e, t1, _, _, z, e2⟩ := p
    exact ⟨ns, ms, z, e2⟩
  ord := ltD_uW
def kindZ {X : Cx} : KindS X TIn uT (fun _ => True) where
  uniq := fun h v l m p q => p.uniq q
  keeps := fun h h' v l k p => p.keeps k
  isref := fun h v l p => by
    obtain ⟨a, its, e, t1, i1⟩ := p
    exact ⟨a, e⟩
  κ := oneType'
  lt := fun A s v w l m Q E hu p q h => tiE_lt (by omega) p q h
  s := fun _ _ _ _ => trivial
  ord := ltD_uT
def SB (l : List Int) : Prop := ∃ nss, AllP nss ∧ l = kyB nss
open Classical in
noncomputable def uB (l : List Int) : D := if h : SB l then .tup (h.choose.map uT) else .non
theorem uB_eq {nss : List (List Int)} (h : AllP nss) : uB (kyB nss) = .tup (nss.map uT) := by
  have hs : SB (kyB nss) := ⟨nss, h, rfl⟩
  unfold uB
  rw [dif_pos hs, kyB_inj hs.choose_spec.1 h hs.choose_spec.2.symm]
theorem ltDs_B : ∀ {xs ys : List (List Int)}, AllP xs → AllP ys → ltDs (xs.map uT) (ys.map uT) = HT.lexLt (kyB xs) (kyB ys)
  | [], [], h1, h2 => by
    rw [lexB (x := []) (y := []) h1 h2 trivial]
    rfl
  | [], y :: ys, h1, h2 => by
    rw [lexB (x := []) (y := []) h1 h2 trivial]
    rfl
  | x :: xs, [], h1, h2 => by
    rw [lexB (x := []) (y := []) h1 h2 trivial]
    rfl
  | x :: xs, y :: ys, h1, h2 => by
    rw [lexB (x := []) (y := []) h1 h2 trivial]
    show (if eqD (uT x) (uT y) = true then ltDs (xs.map uT) (ys.map uT) else ltD (uT x) (uT y)) = _
    have e1 : eqD (uT x) (uT y) = decide (x = y) := eqDs_ints x y
    have e2 : ltD (uT x) (uT y) = HT.lexLt x y := ltDs_ints x y
    rw [e1, e2, ltDs_B h1.tail h2.tail]
    show _ = if x = y then HT.lexLt (kyB xs) (kyB ys) else HT.lexLt x y
    by_cases h : x = y
    · rw [if_pos (decide_eq_true h), if_pos h]
    · rw [if_neg (by rw [decide_eq_false h]; exact Bool.false_ne_true), if_neg h]
theorem eqDs_B : ∀ (xs ys : List (List Int)), eqDs (xs.map uT) (ys.map uT) = decide (xs = ys)
  | [], [] => rfl
  | [], _ :: _ => rfl
  | _ :: _, [] => rfl
  | x :: xs, y :: ys => by
    show (eqD (uT x) (uT y) && eqDs (xs.map uT) (ys.map uT)) = _
    have e1 : eqD (uT x) (uT y) = decide (x = y) := eqDs_ints x y
    rw [e1, eqDs_B xs ys]
    by_cases h : x = y <;> by_cases h2 : xs = ys <;> simp [h, h2]
theorem ltD_uB (a b : List Int) (ha : SB a) (hb : SB b) : ltD (uB a) (uB b) = HT.lexLt a b := by
  obtain ⟨xs, z1, rfl⟩ := ha
  obtain ⟨ys, z2, rfl⟩ := hb
  rw [uB_eq z1, uB_eq z2]
  exact ltDs_B z1 z2
noncomputable def uQ : List Int → D
  | [] => .non
  | i :: l => .tup [.int i, uB l]
def SQ (l : List Int) : Prop := ∃ i r, SB r ∧ l = i :: r
theorem ltD_uQ (a b : List Int) (ha : SQ a) (hb : SQ b) : ltD (uQ a) (uQ b) = HT.lexLt a b := by
  obtain ⟨i, _, ⟨xs, z1, rfl⟩, rfl⟩ := ha
  obtain ⟨j, _, ⟨ys, z2, rfl⟩, rfl⟩ := hb
  show ltD (.tup [.int i, uB (kyB xs)]) (.tup [.int j, uB (kyB ys)]) = _
  rw [uB_eq z1, uB_eq z2, HT.lexLt_cons]
  show (if eqD (.int i) (.int j) = true then (if eqD (.tup (xs.map uT)) (.tup (ys.map uT)) = true then ltDs [] [] else ltD (.tup (xs.map uT)) (.tup (ys.map uT))) else decide (i < j)) = _
  have e : eqD (.int i) (.int j) = (i == j) := by simp [eqD]
  have e2 : eqD (.tup (xs.map uT)) (.tup (ys.map uT)) = decide (xs = ys) := eqDs_B xs ys
  have e3 : ltD (.tup (xs.map uT)) (.tup (ys.map uT)) = HT.lexLt (kyB xs) (kyB ys) := ltDs_B z1 z2
  rw [e, e2, e3]
  by_cases h : i = j
  · subst h
    simp only [beq_self_eq_true, if_true]
    by_cases h2 : xs = ys
    · subst h2
      rw [decide_eq_true rfl, if_pos rfl, lex_irr]
      rfl
    · rw [decide_eq_false h2, if_neg (by decide)]
  · simp [h]
noncomputable def kindB {X : Cx} : KindS X TBn uB SB where
  uniq := fun h v l m p q => p.uniq q
  keeps := fun h h' v l k p => p.keeps k
  isref := fun h v l p => by
    obtain ⟨a, its, nss, e, _⟩ := p
    exact ⟨a, e⟩
  κ := oneType'
  lt := fun A s v w l m Q E hu p q h => tb_lt hu p q h
  s := fun h v l p => by
    obtain ⟨a, its, nss, e, t1, _, z, e2⟩ := p
    exact ⟨nss, z, e2⟩
  ord := ltD_uB
noncomputable def kindQ {X : Cx} : KindS X IBn uQ SQ where
  uniq := fun h v l m p q => p.uniq q
  keeps := fun h h' v l k p => p.keeps k
  isref := fun h v l p => by
    obtain ⟨a, i, t, b, ns, e, _⟩ := p
    exact ⟨a, e⟩
  κ := tuples' true
  lt := fun A s v w l m Q E hu p q h => ib_lt hu p q h
  s := fun h v l p => by
    obtain ⟨a, i, t, b, ns, e, t1, ⟨a', its, nss, e', t1', _, z, e2⟩, e3⟩ := p
    exact ⟨i, ns, ⟨nss, z, e2⟩, e3⟩
  ord := ltD_uQ
theorem rep_TI {X : Cx} {pins : List (Addr × Obj)} {s : Shared} {σ : L2.St} {H : Hp} {av : Av} {x : V} {l : List D} {v : Value} (I : L2.Inv X pins σ H s) (hl : l.all isInt = true) (r : Rep X.K av H x (.tup l)) (rv : L2.RelV x v) : TIn s.heap v (l.map toI) := by
  obtain ⟨a, xs, rfl, ha, rs⟩ := rep_tup r
  cases rv
  rw [all_ints hl] at rs
  have e := reps_of_ints rs
  subst e
  obtain ⟨its, rv, ht, _⟩ := I.tuple ha.sq
  exact ⟨a, its, rfl, ht, Vals.ints rv⟩
theorem int_sorted : ∀ {l : List Int}, List.Pairwise (fun x1 x2 => x1 ≤ x2) l → SrtL (l.map fun i => [i]) := fun h => by
  rw [SrtL, List.pairwise_map]
  refine h.imp fun {a b} hab => ?_
  rw [HT.lexLt_cons, HT.lexLt_nil_nil]
  by_cases e : b = a
  · rw [if_pos e]
  · rw [if_neg e]
    exact decide_eq_false (by omega)
theorem ti_of {X : Cx} {pins : List (Addr × Obj)} {s : Shared} {σ : L2.St} {H : Hp} {av : Av} {x : V} {d : D} {v : Value} (I : L2.Inv X pins σ H s) (hd : isTI d = true) (r : Rep X.K av H x d) (rv : L2.RelV x v) : ∃ l, TIn s.heap v l ∧ d = uT l := by
  cases d with
  | tup l =>
    have hl : l.all isInt = true := hd
    refine ⟨l.map toI, rep_TI I hl r rv, ?_⟩
    show D.tup _ = D.tup _
    rw [← all_ints hl]
  | _ => cases hd
theorem ti1_of {X : Cx} {pins : List (Addr × Obj)} {s : Shared} {σ : L2.St} {H : Hp} {av : Av} {x : V} {d : D} {v : Value} (I : L2.Inv X pins σ H s) (hd : isTI1 d = true) (r : Rep X.K av H x d) (rv : L2.RelV x v) : ∃ l, (TIn s.heap v l ∧ l ≠ []) ∧ d = uT l := by
  cases d with
  | tup l =>
    cases l with
    | nil => cases hd
    | cons y l =>
      cases y with
      | int i =>
        have hl : (D.int i :: l).all isInt = true := hd
        refine ⟨(D.int i :: l).map toI, ⟨rep_TI I hl r rv, by simp⟩, ?_⟩
        show D.tup _ = D.tup _
        rw [← all_ints hl]
      | _ => cases hd
  | _ => cases hd
/-- lists and tuples alike, once their items are told -/
theorem sorted_tups {X : Cx} (hu : X.A.units + 65 < cLine) {pins : List (Addr × Obj)} {s : Shared} {σ : L2.St} {H : Hp} {Q : VK} {av : Av} {a1 : Addr} {xs : List V} {ds : List D} (I : L2.Inv X pins σ H s)
    (dm : Dom av H) {its : List Value} (rv : Vals xs its) (hz : its.length ≤ sizeLine) (go : SortsBy X.prog X.w X.A s a1 its) (r1 : Reps X.K av H xs ds) (hs : ds.all isTI1 = true ∨ sortE ds = true) (q : OKV X.K av H Q (.ok (.lst (sortD ds)))) :
    wpAny (model X.prog X.w) X.A (call (.builtin "sorted") [.ref a1]) (EP X pins σ Q) X.xe s := by
  rcases hs with hs | hs
  · exact sorted_kind hu kindT I dm rv hz go r1 (fun h' _ hv h2 A Q E _ hq => kind_first (fun v hm => by obtain ⟨l, hl⟩ := hv v hm; exact kindT_first hl) h2 hq) (fun x d v _ hd r rv => ti1_of I (List.all_eq_true.mp hs d hd) r rv) q
  · obtain ⟨r, rfl, hr⟩ : ∃ r, ds = .tup [] :: r ∧ r.all isTI = true := by
      unfold sortE at hs
      split at hs
      · exact ⟨_, rfl, hs⟩
      · cases hs
    have al : ∀ d ∈ D.tup [] :: r, isTI d = true := fun d hd => by
      rcases List.mem_cons.mp hd with rfl | hd
      · rfl
      · exact List.all_eq_true.mp hr d hd
    refine sorted_kind hu kindZ I dm rv hz go r1 (fun h' kp hv h2 A Q E _ hq => ?_) (fun x d v _ hd r rv => ti_of I (al d hd) r rv) q
    cases r1 with
    | cons r0 rs =>
      cases rv with
      | @cons _ v _ vs v0 vr =>
        obtain ⟨l, t0, e0⟩ := ti_of I (d := .tup []) rfl r0 v0
        have e0 : D.tup [] = D.tup (l.map D.int) := e0
        have : l = [] := by
          cases l with
          | nil => rfl
          | cons a b => injection e0 with e0; cases e0
        subst this
        exact kindE (t0.keeps kp) hv hq
theorem pos_int {l : List D} (h : l.all isPos = true) : l.all isInt = true ∧ ∀ n ∈ l.map toI, 0 < n := by
  refine ⟨List.all_eq_true.mpr fun z hz => ?_, fun n hn => ?_⟩
  · have := List.all_eq_true.mp h z hz
    cases z with
    | int i => rfl
    | _ => cases this
  · obtain ⟨z, hz, rfl⟩ := List.mem_map.mp hn
    have := List.all_eq_true.mp h z hz
    cases z with
    | int i => exact of_decide_eq_true this
    | _ => cases this
theorem rep_ETI {X : Cx} {pins : List (Addr × Obj)} {s : Shared} {σ : L2.St} {H : Hp} {av : Av} (I : L2.Inv X pins σ H s) : ∀ {xs : List V} {l : List D} {its : List Value}, Reps X.K av H xs l → Vals xs its → l.all isPosT = true → ∃ nss, ETI s.heap its nss ∧ AllP nss ∧ l = nss.map uT
  | _, _, _, .nil, .nil, _ => ⟨[], trivial, fun _ h => absurd h List.not_mem_nil, rfl⟩
  | _, _, _, .cons (d := d) r rs, .cons rv rvs, h => by
    rw [List.all_cons, Bool.and_eq_true] at h
    obtain ⟨nss, h1, h2, h3⟩ := rep_ETI I rs rvs h.2
    cases d with
    | tup ds =>
      obtain ⟨k1, k2⟩ := pos_int (show ds.all isPos = true from h.1)
      refine ⟨ds.map toI :: nss, ⟨rep_TI I k1 r rv, h1⟩, fun ns hn => ?_, ?_⟩
      · rcases List.mem_cons.mp hn with rfl | hn
        · exact k2
        · exact h2 ns hn
      · rw [List.map_cons, ← h3]
        show D.tup ds :: _ = D.tup _ :: _
        rw [← all_ints k1]
    | _ => cases h.1
theorem tb_of {X : Cx} {pins : List (Addr × Obj)} {s : Shared} {σ : L2.St} {H : Hp} {av : Av} {x : V} {l : List D} {v : Value} (I : L2.Inv X pins σ H s) (hl : l.all isPosT = true) (r : Rep X.K av H x (.tup l)) (rv : L2.RelV x v) : ∃ m, TBn s.heap v m ∧ D.tup l = uB m := by
  obtain ⟨a, xs, rfl, ha, rs⟩ := rep_tup r
  cases rv
  obtain ⟨its, rv, ht, _⟩ := I.tuple ha.sq
  obtain ⟨nss, h1, h2, h3⟩ := rep_ETI I rs rv hl
  exact ⟨kyB nss, ⟨a, its, nss, rfl, ht, h1, h2, rfl⟩, by rw [uB_eq h2, h3]⟩
theorem call_sortedR {X : Cx} (hu : X.A.units + 65 < cLine) : CallR X (.builtin "sorted") (rC X.K (f1 sortR)) := by
  intro pins s σ H xs us Q I r h
  obtain ⟨av, a, x, rfl, dm, ra, q⟩ := rC1 h
  cases ra with
  | @tup a1 xs ds h1 r1 =>
    obtain ⟨hs, q⟩ := OKV.need q
    rw [Bool.or_eq_true] at hs
    rw [Vals.ref1 r]
    obtain ⟨its, rv, ht, hz⟩ := I.tuple h1.sq
    have hz : its.length ≤ sizeLine := by rw [← rv.length]; exact hz
    exact sorted_tups hu I dm rv hz (sortsBy_tuple ht hz) r1 hs q
  | @lst a1 xs ds h1 r1 =>
    obtain ⟨hs, q⟩ := OKV.need q
    obtain ⟨its, rv, hl, hz⟩ := I.list (SqL.of h1)
    have hz : its.length ≤ sizeLine := by rw [← rv.length]; exact hz
    have go : SortsBy X.prog X.w X.A s a1 its := sortsBy_list hl.isList hz
    unfold sortable at hs
    rw [Bool.or_eq_true, Bool.or_eq_true, Bool.or_eq_true, Bool.or_eq_true, Bool.or_eq_true, Bool.or_eq_true] at hs
    rcases hs with ((((hs | hs) | hs) | hs) | hs) | (hs | hs)
    rotate_left 5
    · rw [Vals.ref1 r]
      obtain ⟨r', rfl, hr⟩ : ∃ r, ds = .tup [] :: r ∧ r.all isTB = true := by
        unfold sortB at hs
        split at hs
        · exact ⟨_, rfl, hs⟩
        · cases hs
      have al : ∀ d ∈ D.tup [] :: r', isTB d = true := fun d hd => by
        rcases List.mem_cons.mp hd with rfl | hd
        · rfl
        · exact List.all_eq_true.mp hr d hd
      have of : ∀ x d v, isTB d = true → Rep X.K av H x d → L2.RelV x v → ∃ l, TBn s.heap v l ∧ d = uB l := fun x d v hd r rv => by
        cases d with
        | tup l => exact tb_of I (show l.all isPosT = true from hd) r rv
        | _ => cases hd
      refine sorted_kind hu kindB I dm rv hz go r1 (fun h' kp hv h2 A Q E _ hq => ?_) (fun x d v _ hd r rv => of x d v (al d hd) r rv) q
      cases r1 with
      | cons r0 rs =>
        cases rv with
        | @cons _ v _ vs v0 vr =>
          obtain ⟨l, t0, e0⟩ := of _ (.tup []) _ rfl r0 v0
          have : l = [] := by
            obtain ⟨a, its, nss, _, _, _, z, rfl⟩ := t0
            rw [uB_eq z] at e0
            cases nss with
            | nil => rfl
            | cons a b => injection e0 with e0; cases e0
          subst this
          exact kindEB (t0.keeps kp) hv hq
    · rw [Vals.ref1 r]
      refine sorted_kind hu kindQ I dm rv hz go r1 (fun h' _ hv h2 A Q E _ hq => kind_first (fun v hm => ?_) h2 hq) (fun x d v _ hd r rv => ?_) q
      · obtain ⟨l, a, i, t, b, ns, e, t1, _⟩ := hv v hm
        exact ⟨a, i, t, [b], e, t1⟩
      have hd := List.all_eq_true.mp hs d hd
      unfold isIB at hd
      split at hd
      · rename_i i l _
        obtain ⟨a, xs, rfl, ha, rs⟩ := rep_tup r
        cases rv
        cases rs with
        | cons r1 rs =>
          cases rs with
          | cons r2 rs =>
            cases rs
            cases r1
            obtain ⟨its, rv, ht, _⟩ := I.tuple ha.sq
            cases rv with
            | cons v1 rv =>
              cases rv with
              | cons v2 rv =>
                cases rv
                obtain ⟨t, rfl⟩ := v1
                obtain ⟨m, k1, k2⟩ := tb_of I hd r2 v2
                refine ⟨i :: m, ⟨a, i, t, _, m, rfl, ht, k1, rfl⟩, ?_⟩
                show D.tup _ = D.tup _
                rw [k2]
      · cases hd
    · have e := all_ints hs
      rw [e] at r1
      have e2 := reps_of_ints r1
      subst e2
      refine cr_sortedI pins s σ H _ us Q I r ⟨a1, ds.map toI, rfl, SqL.of h1, fun ms p hp hle hn => ?_⟩
      have e3 : sortD ds = ms.map D.int := by
        have e4 : ds = ((ds.map toI).map fun i => [i]).map uI := by rw [List.map_map]; exact e
        have e5 : sortL ((ds.map toI).map fun i => [i]) = ms.map fun i => [i] := srtL_uniq (sortL_srt _) (int_sorted hle) ((sortL_perm _).trans (hp.map _).symm)
        rw [e4, sortD_map ltD_uI, e5, List.map_map]
        · rfl
        · intro y hy
          obtain ⟨i, _, rfl⟩ := List.mem_map.mp hy
          exact ⟨i, rfl⟩
      rw [e3] at q
      exact OKV.lst q dm (reps_ints ms) p hn
    · rw [Vals.ref1 r]
      exact sorted_tups hu I dm rv hz go r1 (.inl hs) q
    · rw [Vals.ref1 r]
      refine sorted_kind hu kindP I dm rv hz go r1 (fun h' _ hv h2 A Q E _ hq => kind_first (fun v hm => ?_) h2 hq) (fun x d v _ hd r rv => ?_) q
      · obtain ⟨l, a, i, t, b, ns, e, t1, _⟩ := hv v hm
        exact ⟨a, i, t, [b], e, t1⟩
      have hd := List.all_eq_true.mp hs d hd
      unfold isIT at hd
      split at hd
      · rename_i i l _
        obtain ⟨a, xs, rfl, ha, rs⟩ := rep_tup r
        cases rv
        cases rs with
        | cons r1 rs =>
          cases rs with
          | cons r2 rs =>
            cases rs
            cases r1
            obtain ⟨its, rv, ht, _⟩ := I.tuple ha.sq
            cases rv with
            | cons v1 rv =>
              cases rv with
              | cons v2 rv =>
                cases rv
                obtain ⟨t, rfl⟩ := v1
                refine ⟨i :: l.map toI, ⟨a, i, t, _, l.map toI, rfl, ht, rep_TI I hd r2 v2, rfl⟩, ?_⟩
                show D.tup _ = D.tup _
                rw [← all_ints hd]
      · cases hd
    · rw [Vals.ref1 r]
      exact sorted_tups hu I dm rv hz go r1 (.inr hs) q
    · rw [Vals.ref1 r]
      refine sorted_kind hu kindW I dm rv hz go r1 (fun h' _ hv h2 A Q E _ hq => kind_pairs hv h2 hq) (fun x d v _ hd r rv => ?_) q
      have hd := List.all_eq_true.mp hs d hd
      unfold isTT at hd
      split at hd
      · rename_i la lb _
        obtain ⟨ha1, hb1⟩ := (by simpa using hd : (la.all isPos = true) ∧ (lb.all isInt = true))
        have hai : la.all isInt = true := List.all_eq_true.mpr fun z hz => by
          have := List.all_eq_true.mp ha1 z hz
          cases z <;> first | rfl | cases this
        have hpos : ∀ n ∈ la.map toI, 0 < n := fun n hn => by
          obtain ⟨z, hz, rfl⟩ := List.mem_map.mp hn
          have := List.all_eq_true.mp ha1 z hz
          cases z with
          | int i => exact of_decide_eq_true this
          | _ => cases this
        obtain ⟨a, xs, rfl, ha, rs⟩ := rep_tup r
        cases rv
        cases rs with
        | cons r1 rs =>
          cases rs with
          | cons r2 rs =>
            cases rs
            obtain ⟨its, rv, ht, _⟩ := I.tuple ha.sq
            cases rv with
            | cons v1 rv =>
              cases rv with
              | cons v2 rv =>
                cases rv
                refine ⟨la.map toI ++ 0 :: lb.map toI, ⟨a, _, _, la.map toI, lb.map toI, rfl, ht, rep_TI I hai r1 v1, rep_TI I hb1 r2 v2, hpos, rfl⟩, ?_⟩
                rw [uW_eq hpos]
                show D.tup _ = D.tup [D.tup _, D.tup _]
                rw [← all_ints hai, ← all_ints hb1]
      · cases hd
  | _ => exact (show False from q).elim
def f12 (f : List Int → Int) (g : Int → Int → Int) : List D → Res D
  | [.int i, .int j] => .ok (.int (g i j))
  | [.lst l] => need (l.all isInt && !l.isEmpty) (.ok (.int (f (l.map toI))))
  | _ => .no
def f12m : List D → Res D
  | [.int i, .int j] => .ok (.int (min2 i j))
  | [.lst l] => minLR l
  | _ => .no
theorem fold_max (l : List Int) : ∀ x : Int, l.foldl max2 x ∈ x :: l ∧ ∀ y ∈ x :: l, y ≤ l.foldl max2 x := by
  induction l with
  | nil => intro x; simp
  | cons a l ih =>
    intro x
    obtain ⟨h1, h2⟩ := ih (max2 x a)
    refine ⟨?_, fun y hy => ?_⟩
    · show l.foldl max2 (max2 x a) ∈ _
      rcases List.mem_cons.mp h1 with e | e
      · rw [e]
        unfold max2
        split
        · exact List.mem_cons_of_mem _ List.mem_cons_self
        · exact List.mem_cons_self
      · exact List.mem_cons_of_mem _ (List.mem_cons_of_mem _ e)
    · have hm : max2 x a ≤ l.foldl max2 (max2 x a) := h2 _ List.mem_cons_self
      have h3 : x ≤ max2 x a ∧ a ≤ max2 x a := by unfold max2; split <;> omega
      show y ≤ l.foldl max2 (max2 x a)
      rcases List.mem_cons.mp hy with e | hy
      · subst e; omega
      · rcases List.mem_cons.mp hy with e | hy
        · subst e; omega
        · exact h2 y (List.mem_cons_of_mem _ hy)
theorem fold_min (l : List Int) : ∀ x : Int, l.foldl min2 x ∈ x :: l ∧ ∀ y ∈ x :: l, l.foldl min2 x ≤ y := by
  induction l with
  | nil => intro x; simp
  | cons a l ih =>
    intro x
    obtain ⟨h1, h2⟩ := ih (min2 x a)
    refine ⟨?_, fun y hy => ?_⟩
    · show l.foldl min2 (min2 x a) ∈ _
      rcases List.mem_cons.mp h1 with e | e
      · rw [e]
        unfold min2
        split
        · exact List.mem_cons_of_mem _ List.mem_cons_self
        · exact List.mem_cons_self
      · exact List.mem_cons_of_mem _ (List.mem_cons_of_mem _ e)
    · have hm : l.foldl min2 (min2 x a) ≤ min2 x a := h2 _ List.mem_cons_self
      have h3 : min2 x a ≤ x ∧ min2 x a ≤ a := by unfold min2; split <;> omega
      show l.foldl min2 (min2 x a) ≤ y
      rcases List.mem_cons.mp hy with e | hy
      · subst e; omega
      · rcases List.mem_cons.mp hy with e | hy
        · subst e; omega
        · exact h2 y (List.mem_cons_of_mem _ hy)
theorem max_in {ns : List Int} (h : ns ≠ []) : maxI ns ∈ ns ∧ ∀ y ∈ ns, y ≤ maxI ns := by
  cases ns with
  | nil => exact absurd rfl h
  | cons a l => exact fold_max l a
theorem min_in {ns : List Int} (h : ns ≠ []) : minI ns ∈ ns ∧ ∀ y ∈ ns, minI ns ≤ y := by
  cases ns with
  | nil => exact absurd rfl h
  | cons a l => exact fold_min l a
theorem call_maxR {X : Cx} (hc : X.calm = true) : CallR X (.builtin "max") (rC X.K (f12 maxI max2)) := by
  intro pins s σ H xs us Q I r h
  obtain ⟨av, ds, dm, rs, q⟩ := h
  match ds, q with
  | [], q => exact (show False from q).elim
  | [.int i, .int j], q =>
    cases rs with
    | cons r1 rs =>
      cases r1
      cases rs with
      | cons r2 rs =>
        cases r2
        cases rs
        exact call_max2 hc pins s σ H _ us Q I r ⟨i, j, rfl, OKV.int q⟩
  | [.lst l], q =>
    cases rs with
    | cons r1 rs =>
      cases rs
      obtain ⟨a1, ys, rfl, h1, r1⟩ := repW_lst r1
      obtain ⟨hs, q⟩ := OKV.need q
      obtain ⟨k1, k2⟩ := shand hs
      have e := all_ints k1
      rw [e] at r1
      rw [reps_of_ints r1] at h1
      have hn : l.map toI ≠ [] := by intro z; rw [List.map_eq_nil_iff] at z; subst z; simp at k2
      obtain ⟨m1, m2⟩ := max_in hn
      refine cr_max hc pins s σ H _ us Q I r ⟨a1, _, rfl, SqL.of h1, List.length_pos_iff.mpr hn, fun m hm hu => ?_⟩
      have : m = maxI (l.map toI) := by have := hu _ m1; have := m2 m hm; omega
      rw [this]
      exact OKV.int q
  | [.non], q | [.bl _], q | [.int _], q | [.str _], q | [.tup _], q | [.exc _], q | [.scr _], q | [.dic _], q => exact (show False from q).elim
  | .int _ :: .non :: _, q | .int _ :: .bl _ :: _, q | .int _ :: .str _ :: _, q | .int _ :: .tup _ :: _, q | .int _ :: .lst _ :: _, q | .int _ :: .exc _ :: _, q | .int _ :: .scr _ :: _, q | .int _ :: .dic _ :: _, q => exact (show False from q).elim
  | .int _ :: .int _ :: _ :: _, q => exact (show False from q).elim
  | .non :: _ :: _, q | .bl _ :: _ :: _, q | .str _ :: _ :: _, q | .tup _ :: _ :: _, q | .lst _ :: _ :: _, q | .exc _ :: _ :: _, q | .scr _ :: _ :: _, q | .dic _ :: _ :: _, q => exact (show False from q).elim
/-! the least of pairs -/
theorem pds_ints : ∀ ns : List Int, pds (ns.map D.int) = ns.map PyData.int
  | [] => rfl
  | n :: ns => by
    show pd (.int n) :: pds (ns.map D.int) = _
    rw [pds_ints ns]
    rfl
theorem pd_uP (i : Int) (ns : List Int) : pd (uP (i :: ns)) = .tuple [.int i, .tuple (ns.map PyData.int)] := by
  show PyData.tuple [pd (.int i), .tuple (pds (ns.map D.int))] = _
  rw [pds_ints]
  rfl
theorem lt_lex : ∀ ns ms : List Int, decide (ns < ms) = HT.lexLt ns ms
  | [], [] => by simp [HT.lexLt]
  | [], _ :: _ => by simp [HT.lexLt]
  | _ :: _, [] => by simp [HT.lexLt]
  | n :: ns, m :: ms => by
    rw [HT.lexLt_cons, ← lt_lex ns ms]
    by_cases h : n = m
    · subst h
      rw [if_pos rfl]
      exact decide_eq_decide.mpr (by rw [List.cons_lt_cons_iff]; constructor
                                     · rintro (h | ⟨_, h⟩)
                                       · omega
                                       · exact h
                                     · exact fun h => .inr ⟨rfl, h⟩)
    · rw [if_neg h]
      exact decide_eq_decide.mpr (by rw [List.cons_lt_cons_iff]; constructor
                                     · rintro (h2 | ⟨h2, _⟩)
                                       · exact h2
                                       · exact absurd h2 h
                                     · exact fun h => .inl h)
theorem dlt_uP {a b : List Int} (ha : a ≠ []) (hb : b ≠ []) : PySem.W.dataLt (pd (uP a)) (pd (uP b)) = HT.lexLt a b := by
  cases a with
  | nil => exact absurd rfl ha
  | cons i ns =>
    cases b with
    | nil => exact absurd rfl hb
    | cons j ms =>
      have e1 : PyData.eqv (.int i) (.int j) = eqD (.int i) (.int j) := eqD_pd 1 1 (.int i) (.int j) (by simp [sh]) (by simp [sh])
      have shi : ∀ l : List Int, sh 1 (.tup (l.map D.int)) = true := fun l => by
        simp only [sh]
        induction l with
        | nil => rfl
        | cons x l ih =>
          show (sh 0 (.int x) && shs 0 (l.map D.int)) = true
          rw [ih]
          simp [sh]
      have e2 : PyData.eqv (.tuple (ns.map PyData.int)) (.tuple (ms.map PyData.int)) = decide (ns = ms) := by
        have := eqD_pd 1 1 (.tup (ns.map D.int)) (.tup (ms.map D.int)) (shi ns) (shi ms)
        rw [show pd (.tup (ns.map D.int)) = .tuple (ns.map PyData.int) from congrArg PyData.tuple (pds_ints ns), show pd (.tup (ms.map D.int)) = .tuple (ms.map PyData.int) from congrArg PyData.tuple (pds_ints ms)] at this
        rw [this]
        exact eqDs_ints ns ms
      have e3 : PySem.W.dataLt (.tuple (ns.map PyData.int)) (.tuple (ms.map PyData.int)) = HT.lexLt ns ms := by
        rw [PySem.W.dataLt_tuple, ← lt_lex]
        exact PySem.W.dataLt_ints ns ms
      rw [pd_uP, pd_uP, PySem.W.dataLt_pair (by simp [PySem.W.alike]) (by simp only [PySem.W.alike]; exact PySem.W.alike_ints ns ms), e1, e2, e3, PySem.W.dataLt_int, HT.lexLt_cons]
      by_cases h : i = j
      · subst h
        rw [if_pos rfl, if_pos (by simp [eqD])]
        by_cases h2 : ns = ms
        · subst h2
          rw [if_pos (by simp), lex_irr]
        · rw [if_neg (by simpa using h2)]
      · rw [if_neg h, if_neg (by simpa [eqD] using h)]
theorem nds_ints : ∀ ns : List Int, nds (ns.map D.int) = true
  | [] => by simp [nds]
  | n :: ns => by
    have := nds_ints ns
    simp only [List.map_cons, nds, nd, this, Bool.and_self]
theorem nd_uP {a : List Int} (ha : a ≠ []) : nd (uP a) = true := by
  cases a with
  | nil => exact absurd rfl ha
  | cons i ns =>
    show nd (.tup [.int i, .tup (ns.map D.int)]) = true
    simp only [nd, nds, nds_ints, Bool.and_self]
theorem nds_uP : ∀ ks : List (List Int), (∀ x ∈ ks, x ≠ []) → nds (ks.map uP) = true
  | [], _ => by simp [nds]
  | k :: ks, h => by
    have := nds_uP ks fun x hx => h x (List.mem_cons_of_mem _ hx)
    simp only [List.map_cons, nds, nd_uP (h k List.mem_cons_self), this, Bool.and_self]
def minK (k : List Int) (ks : List (List Int)) : List Int := ks.foldl (fun b y => if HT.lexLt y b = true then y else b) k
theorem minK_mem : ∀ (ks : List (List Int)) (k : List Int), minK k ks ∈ k :: ks
  | [], k => List.mem_cons_self
  | y :: ks, k => by
    show minK (if HT.lexLt y k = true then y else k) ks ∈ _
    have := minK_mem ks (if HT.lexLt y k = true then y else k)
    rcases List.mem_cons.mp this with h | h
    · rw [h]
      split
      · exact List.mem_cons_of_mem _ List.mem_cons_self
      · exact List.mem_cons_self
    · exact List.mem_cons_of_mem _ (List.mem_cons_of_mem _ h)
theorem minT_K : ∀ (ks : List (List Int)) (k : List Int), (∀ x ∈ k :: ks, x ≠ []) → (ks.map uP).foldl (fun b y => if ltD y b = true then y else b) (uP k) = uP (minK k ks)
  | [], k, _ => rfl
  | y :: ks, k, h => by
    have hk := h k List.mem_cons_self
    have hy := h y (List.mem_cons_of_mem _ List.mem_cons_self)
    rw [List.map_cons, List.foldl_cons, ltD_uP y k hy hk]
    have e : (if HT.lexLt y k = true then uP y else uP k) = uP (if HT.lexLt y k = true then y else k) := by split <;> rfl
    rw [e]
    exact minT_K ks _ fun x hx => by
      rcases List.mem_cons.mp hx with rfl | hx
      · split
        · exact hy
        · exact hk
      · exact h x (List.mem_cons_of_mem _ (List.mem_cons_of_mem _ hx))
theorem minD_K : ∀ (ks : List (List Int)) (k : List Int), (∀ x ∈ k :: ks, x ≠ []) → PySem.W.minD (pd (uP k)) (ks.map fun x => pd (uP x)) = pd (uP (minK k ks))
  | [], k, _ => rfl
  | y :: ks, k, h => by
    have hk := h k List.mem_cons_self
    have hy := h y (List.mem_cons_of_mem _ List.mem_cons_self)
    have ih := minD_K ks (if HT.lexLt y k = true then y else k) fun x hx => by
      rcases List.mem_cons.mp hx with rfl | hx
      · split
        · exact hy
        · exact hk
      · exact h x (List.mem_cons_of_mem _ (List.mem_cons_of_mem _ hx))
    unfold PySem.W.minD at ih ⊢
    rw [List.map_cons, List.foldl_cons, dlt_uP hy hk]
    have e : (if HT.lexLt y k = true then pd (uP y) else pd (uP k)) = pd (uP (if HT.lexLt y k = true then y else k)) := by split <;> rfl
    rw [e, ih]
    rfl
theorem it_keys : ∀ {l : List D}, l.all isIT = true → ∃ ks : List (List Int), l = ks.map uP ∧ ∀ x ∈ ks, x ≠ []
  | [], _ => ⟨[], rfl, fun _ h => nomatch h⟩
  | d :: l, h => by
    rw [List.all_cons, Bool.and_eq_true] at h
    obtain ⟨ks, e, hk⟩ := it_keys h.2
    have hd := h.1
    unfold isIT at hd
    split at hd
    · rename_i i r
      refine ⟨(i :: r.map toI) :: ks, ?_, fun x hx => ?_⟩
      · rw [List.map_cons, e]
        congr 1
        show _ = D.tup [.int i, .tup ((r.map toI).map D.int)]
        rw [← all_ints hd]
      · rcases List.mem_cons.mp hx with rfl | hx
        · intro z; cases z
        · exact hk x hx
    · cases hd
theorem pd_inj {a b : List Int} (ha : a ≠ []) (hb : b ≠ []) (h : pd (uP a) = pd (uP b)) : a = b := by
  cases a with
  | nil => exact absurd rfl ha
  | cons i ns =>
    cases b with
    | nil => exact absurd rfl hb
    | cons j ms =>
      rw [pd_uP, pd_uP] at h
      injection h with h
      injection h with h1 h2
      injection h1 with h1
      injection h2 with h2 _
      injection h2 with h2
      have inj : ∀ {x y : List Int}, x.map PyData.int = y.map PyData.int → x = y := by
        intro x
        induction x with
        | nil => intro y h; cases y with | nil => rfl | cons _ _ => cases h
        | cons a x ih =>
          intro y h
          cases y with
          | nil => cases h
          | cons b y =>
            rw [List.map_cons, List.map_cons] at h
            injection h with e1 e2
            injection e1 with e1
            rw [e1, ih e2]
      rw [h1, inj h2]
theorem lay_uP {a : List Int} (ha : a ≠ []) : PyData.canLay0 (pd (uP a)) = true := by
  cases a with
  | nil => exact absurd rfl ha
  | cons i ns =>
    rw [pd_uP]
    have : ∀ l : List Int, PyData.canLayAll0 (l.map PyData.int) = true := by
      intro l
      induction l with
      | nil => simp [PyData.canLayAll0]
      | cons x l ih => simp [PyData.canLayAll0, PyData.canLay0, ih]
    simp [PyData.canLayAll0, PyData.canLay0, this]
theorem dep_uP : ∀ ks : List (List Int), (∀ x ∈ ks, x ≠ []) → PyData.depthAll (ks.map fun x => pd (uP x)) ≤ 3
  | [], _ => by simp [PyData.depthAll]
  | k :: ks, h => by
    have ih := dep_uP ks fun x hx => h x (List.mem_cons_of_mem _ hx)
    have hk := h k List.mem_cons_self
    cases k with
    | nil => exact absurd rfl hk
    | cons i ns =>
      have e := PySem.W.depth_ints ns
      rw [List.map_cons, pd_uP]
      simp only [PyData.depthAll, PyData.depth, e]
      omega
theorem call_minR {X : Cx} (hc : X.calm = true) (hu : X.A.units + 65 < cLine) : CallR X (.builtin "min") (rC X.K f12m) := by
  intro pins s σ H xs us Q I r h
  obtain ⟨av, ds, dm, rs, q⟩ := h
  match ds, q with
  | [], q => exact (show False from q).elim
  | [.int i, .int j], q =>
    cases rs with
    | cons r1 rs =>
      cases r1
      cases rs with
      | cons r2 rs =>
        cases r2
        cases rs
        exact call_min2 hc pins s σ H _ us Q I r ⟨i, j, rfl, OKV.int q⟩
  | [.lst l], q =>
    cases rs with
    | cons r1 rs =>
      cases rs
      obtain ⟨a1, ys, rfl, h1, r1⟩ := repW_lst r1
      have q : OKV X.K av H Q (minLR l) := q
      unfold minLR at q
      by_cases hit : (l.all isIT && !l.isEmpty) = true
      · rw [if_pos hit] at q
        obtain ⟨k1, k2⟩ := shand hit
        obtain ⟨ks, rfl, hk⟩ := it_keys k1
        cases ks with
        | nil => cases k2
        | cons k ks =>
          rw [Vals.ref1 r]
          obtain ⟨its, rv, hl, hz⟩ := I.list (SqL.of h1)
          have dp := Reps.dp r1 (nds_uP (k :: ks) hk)
          have ep : ∀ M : List (List Int), pds (M.map uP) = M.map fun x => pd (uP x) := by
            intro M
            induction M with
            | nil => rfl
            | cons x M ih => show pd (uP x) :: pds (M.map uP) = _; rw [ih]; rfl
          rw [ep, List.map_cons] at dp
          obtain ⟨as, hr⟩ := Dp.readsAll I _ _ _ dp rv
          have hd3 := dep_uP (k :: ks) hk
          rw [List.map_cons] at hd3
          have al : PySem.W.AlikeAll (pd (uP k) :: ks.map fun x => pd (uP x)) := by
            have all : ∀ y ∈ pd (uP k) :: ks.map (fun x => pd (uP x)), ∃ x ∈ k :: ks, y = pd (uP x) := fun y hy => by
              rcases List.mem_cons.mp hy with rfl | hy
              · exact ⟨k, List.mem_cons_self, rfl⟩
              · obtain ⟨x, hx, rfl⟩ := List.mem_map.mp hy
                exact ⟨x, List.mem_cons_of_mem _ hx, rfl⟩
            refine ⟨fun y hy z hz => ?_, fun y hy => ?_⟩
            · obtain ⟨a, ha, rfl⟩ := all y hy
              obtain ⟨b, hb, rfl⟩ := all z hz
              have ha := hk a ha
              have hb := hk b hb
              cases a with
              | nil => exact absurd rfl ha
              | cons i ns =>
                cases b with
                | nil => exact absurd rfl hb
                | cons j ms =>
                  rw [pd_uP, pd_uP]
                  simp [PySem.W.alike, PySem.W.alikeAll, PySem.W.alike_ints]
            · obtain ⟨a, ha, rfl⟩ := all y hy
              have ha := hk a ha
              cases a with
              | nil => exact absurd rfl ha
              | cons i ns => rw [pd_uP]; intro z; cases z
          refine PySem.W.min_list_data (I.ok.hd hc) (vs := its.toArray) hl.isList (by simpa using hr) al (by omega) fun i v h' tk bs hv hrd kp => ?_
          have hv : its[i]? = some v := by simpa using hv
          obtain ⟨x, hx⟩ : ∃ x, ys[i]? = some x := by
            have hlt := (List.getElem?_eq_some_iff.mp hv).1
            rw [← rv.length] at hlt
            exact ⟨_, List.getElem?_eq_getElem hlt⟩
          obtain ⟨v', hv', rx⟩ := rv.get hx
          rw [hv] at hv'
          cases hv'
          obtain ⟨d, hd, rd⟩ := r1.get hx
          obtain ⟨a, ha, rfl⟩ : ∃ a ∈ k :: ks, d = uP a := by
            obtain ⟨a, ha, e⟩ := List.mem_map.mp (List.mem_of_getElem? hd)
            exact ⟨a, ha, e.symm⟩
          obtain ⟨bs', hrd'⟩ := Dp.reads I _ _ _ (rd.dp (nd_uP (hk a ha))) rx
          have e1 := (Reads.unique (PySem.W.reads_keeps kp hrd') _ _ hrd).1
          rw [minD_K ks k hk] at e1
          have e2 := pd_inj (hk a ha) (hk _ (minK_mem ks k)) e1
          have e3 : minT ((k :: ks).map uP) = uP a := by
            rw [e2]
            exact minT_K ks k hk
          rw [e3] at q
          exact ⟨x, H, I.kept (t' := tk) kp, rx, q x H (Same.refl H) rd (Fr.no fun ds z => by
            have ha := hk a ha
            cases a with
            | nil => exact absurd rfl ha
            | cons i ns => cases z)⟩
      rw [if_neg hit] at q
      obtain ⟨hs, q⟩ := OKV.need q
      obtain ⟨k1, k2⟩ := shand hs
      have e := all_ints k1
      rw [e] at r1
      rw [reps_of_ints r1] at h1
      have hn : l.map toI ≠ [] := by intro z; rw [List.map_eq_nil_iff] at z; subst z; simp at k2
      obtain ⟨m1, m2⟩ := min_in hn
      refine cr_min hc pins s σ H _ us Q I r ⟨a1, _, rfl, SqL.of h1, List.length_pos_iff.mpr hn, fun m hm hu => ?_⟩
      have : m = minI (l.map toI) := by have := hu _ m1; have := m2 m hm; omega
      rw [this]
      exact OKV.int q
  | [.non], q | [.bl _], q | [.int _], q | [.str _], q | [.tup _], q | [.exc _], q | [.scr _], q | [.dic _], q => exact (show False from q).elim
  | .int _ :: .non :: _, q | .int _ :: .bl _ :: _, q | .int _ :: .str _ :: _, q | .int _ :: .tup _ :: _, q | .int _ :: .lst _ :: _, q | .int _ :: .exc _ :: _, q | .int _ :: .scr _ :: _, q | .int _ :: .dic _ :: _, q => exact (show False from q).elim
  | .int _ :: .int _ :: _ :: _, q => exact (show False from q).elim
  | .non :: _ :: _, q | .bl _ :: _ :: _, q | .str _ :: _ :: _, q | .tup _ :: _ :: _, q | .lst _ :: _ :: _, q | .exc _ :: _ :: _, q | .scr _ :: _ :: _, q | .dic _ :: _ :: _, q => exact (show False from q).elim
theorem impC {X : Cx} {f : Value} {r r' : List V → Hp → VK → Prop} (h : CallR X f r) (k : ∀ xs H Q, r' xs H Q → r xs H Q) : CallR X f r' :=
  fun pins s σ H xs us Q I rx q => h pins s σ H xs us Q I rx (k xs H Q q)
theorem rC_eq {K : PySem.W.Frag} {f g : List D → Res D} (h : ∀ ds, f ds = g ds) (xs : List V) (H : Hp) (Q : VK) (r : rC K f xs H Q) : rC K g xs H Q := by
  obtain ⟨av, ds, dm, rs, q⟩ := r
  exact ⟨av, ds, dm, rs, by rw [← h]; exact q⟩
/-- what a builtin's name stands for -/
def Bl.val : Bl → Value
  | .len => .builtin "len"
  | .list => .type "list"
  | .tuple => .type "tuple"
  | .sorted => .builtin "sorted"
  | .int => .type "int"
  | .sum => .builtin "sum"
  | .all => .builtin "all"
  | .max => .builtin "max"
  | .min => .builtin "min"
  | .str => .type "str"
theorem call_bltR {X : Cx} (hc : X.calm = true) (hu : X.A.units + 65 < cLine) (f : Bl) : CallR X f.val (rC X.K (bltR f)) := by
  have e1 : ∀ (g : D → Res D) (b : Bl), (∀ a, bltR b [a] = g a) → (bltR b [] = .no) → (∀ a c l, bltR b (a :: c :: l) = .no) → ∀ ds, bltR b ds = f1 g ds := by
    intro g b h1 h2 h3 ds
    match ds with
    | [] => exact h2
    | [a] => exact h1 a
    | a :: c :: l => exact h3 a c l
  cases f with
  | len => exact impC call_lenR (rC_eq (e1 lenR .len (fun _ => rfl) rfl fun _ _ _ => rfl))
  | list => exact impC call_listR (rC_eq (e1 listR .list (fun _ => rfl) rfl fun _ _ _ => rfl))
  | tuple => exact impC call_tupleR (rC_eq (e1 tupleR .tuple (fun _ => rfl) rfl fun _ _ _ => rfl))
  | sorted => exact impC (call_sortedR hu) (rC_eq (e1 sortR .sorted (fun _ => rfl) rfl fun _ _ _ => rfl))
  | int => exact impC call_intR (rC_eq (e1 intR .int (fun _ => rfl) rfl fun _ _ _ => rfl))
  | sum => exact impC (call_sumR hc) (rC_eq (e1 sumR .sum (fun _ => rfl) rfl fun _ _ _ => rfl))
  | str => exact impC call_strR (rC_eq (e1 strR .str (fun _ => rfl) rfl fun _ _ _ => rfl))
  | all => exact impC (call_allR hc) (rC_eq (e1 allR .all (fun _ => rfl) rfl fun _ _ _ => rfl))
  | max =>
    refine impC (call_maxR hc) (rC_eq fun ds => ?_)
    unfold bltR f12
    split <;> simp_all
  | min =>
    refine impC (call_minR hc hu) (rC_eq fun ds => ?_)
    unfold bltR f12m
    split <;> simp_all
end Li

/-! sets of tuples with up to 300 members: the table's way for mask 511 -/
namespace Li
open PySem PySem.Spec PyProof.Rows L2
def Mk (m : Nat) : Prop := m = 511 ∨ MaskOk m
def wlk : Nat → Nat → List Nat
  | 0, _ => []
  | n + 1, i => i :: wlk n ((i * 5 + 1) % 512)
theorem lcgI_step (m : Nat) : ∀ (k i : Nat), lcgI m ((i * 5 + 1) % (m + 1)) k = lcgI m i (k + 1)
  | 0, _ => rfl
  | k + 1, i => by
    show (lcgI m ((i * 5 + 1) % (m + 1)) k * 5 + 1) % (m + 1) = (lcgI m i (k + 1) * 5 + 1) % (m + 1)
    rw [lcgI_step m k i]
theorem wlk_at : ∀ (n i : Nat), ∀ j ∈ wlk n i, ∃ k, k < n ∧ lcgI 511 i k = j
  | 0, _, j, h => by cases h
  | n + 1, i, j, h => by
    rcases List.mem_cons.mp h with rfl | h
    · exact ⟨0, by omega, rfl⟩
    · obtain ⟨k, hk, e⟩ := wlk_at n ((i * 5 + 1) % 512) j h
      exact ⟨k + 1, by omega, by rw [← lcgI_step]; exact e⟩
def ones : List Nat → Nat
  | [] => 0
  | j :: l => ones l ||| 2 ^ j
theorem ones_mem : ∀ (l : List Nat) (j : Nat), (ones l).testBit j = true → j ∈ l
  | [], j, h => by simp [ones] at h
  | x :: l, j, h => by
    have h' : (ones l ||| 2 ^ x).testBit j = true := h
    rw [Nat.testBit_or, Nat.testBit_two_pow, Bool.or_eq_true] at h'
    rcases h' with h' | h'
    · exact List.mem_cons_of_mem _ (ones_mem l j h')
    · rw [of_decide_eq_true h'] <;> exact List.mem_cons_self
theorem ones_all : ones (wlk 512 0) = 2 ^ 512 - 1 := by decide +kernel
theorem wlk_all {j : Nat} (h : j < 512) : j ∈ wlk 512 0 := ones_mem _ j (by rw [ones_all, Nat.testBit_two_pow_sub_one]; exact decide_eq_true h)
theorem lcg511 {j : Nat} (h : j ≤ 511) : ∃ k, k ≤ 511 ∧ lcgN 511 k = j := by
  obtain ⟨k, hk, e⟩ := wlk_at 512 0 j (wlk_all (Nat.lt_succ_of_le h))
  refine ⟨k, by omega, ?_⟩
  have z := lcgN_add 511 0 k
  rw [Nat.zero_add] at z
  rw [← z]
  exact e
theorem round511 : lcgN 511 512 = 0 := by decide +kernel
theorem mod511 : ∀ k, lcgN 511 (512 + k) = lcgN 511 k
  | 0 => round511
  | k + 1 => by
    show (lcgN 511 (512 + k) * 5 + 1) % 512 = (lcgN 511 k * 5 + 1) % 512
    rw [mod511 k]
theorem from511 {i j : Nat} (hi : i ≤ 511) (hj : j ≤ 511) : ∃ k, k ≤ 511 ∧ lcgI 511 i k = j := by
  obtain ⟨a, ha, ea⟩ := lcg511 hi
  obtain ⟨b, hb, eb⟩ := lcg511 hj
  rw [← ea]
  by_cases c : b < a
  · refine ⟨b + 512 - a, by omega, ?_⟩
    rw [lcgN_add, show a + (b + 512 - a) = 512 + b by omega, mod511, eb]
  · refine ⟨b - a, by omega, ?_⟩
    rw [lcgN_add, show a + (b - a) = b by omega, eb]
/-- each place is met within the search's bound -/
theorem meets {m : Nat} (hm : Mk m) (h : Int) {j : Nat} (hj : j ≤ m) : ∃ k, k < 10 * SetTable.turns m ∧ (nth m (runAt m (SetTable.bits h % (m + 1)) (SetTable.bits h)) k).j = j := by
  rcases hm with rfl | hm
  · obtain ⟨k, hk, e⟩ := from511 (runI_le 511 (SetTable.bits h) 12) hj
    obtain ⟨q, hq, e2⟩ := run_nth 511 (SetTable.bits h) (12 + k)
    refine ⟨q, by unfold SetTable.turns; omega, ?_⟩
    rw [e2]
    show runI 511 (SetTable.bits h) (12 + k) = j
    rw [runI_tail (bits_lt h)]
    exact e
  · exact nth_meets hm h hj
/-- the run that starts at a wanted place comes within the turns -/
theorem runs {m : Nat} (hm : Mk m) (h : Int) {j : Nat} (hj : j ≤ m) : ∃ n, n < SetTable.turns m ∧ runI m (SetTable.bits h) n = j := by
  rcases hm with rfl | hm
  · obtain ⟨k, hk, e⟩ := from511 (runI_le 511 (SetTable.bits h) 12) hj
    refine ⟨12 + k, by unfold SetTable.turns; omega, ?_⟩
    rw [runI_tail (bits_lt h)]
    exact e
  · obtain ⟨n, hn, e⟩ := run_meets hm h hj
    exact ⟨n, by unfold SetTable.turns; omega, e⟩
theorem wayLe (m : Nat) (h : Int) (k : Nat) : way m h k ≤ m := by
  have hi : SetTable.bits h % (m + 1) ≤ m := Nat.le_of_lt_succ (Nat.mod_lt _ (Nat.succ_pos _))
  have q := nth_in (m := m) k (runAt m (SetTable.bits h % (m + 1)) (SetTable.bits h)) (by
    have r := runEnd_bd hi
    show SetTable.bits h % (m + 1) + (SetTable.runEnd m (SetTable.bits h % (m + 1)) - SetTable.bits h % (m + 1)) ≤ m
    omega)
  exact Nat.le_trans (Nat.le_add_right _ _) q
/-- the laying finds the first free place of the way -/
theorem frees {m : Nat} (hm : Mk m) (ow : Array (Option Nat)) (h : Int) {j : Nat} (hj : j ≤ m) (hf : oAt ow j = none) :
    ∃ K, SetTable.layClean.free m ow (SetTable.turns m) (SetTable.bits h % (m + 1)) (SetTable.bits h) = some (way m h K) ∧ oAt ow (way m h K) = none ∧ ∀ k, k < K → oAt ow (way m h k) ≠ none := by
  obtain ⟨n, hn, e⟩ := runs hm h hj
  have z : oAt ow (way m h (off m (SetTable.bits h % (m + 1)) (SetTable.bits h) n)) = none := by
    have z1 : way m h (off m (SetTable.bits h % (m + 1)) (SetTable.bits h) n) = (nth m (runAt m (SetTable.bits h % (m + 1)) (SetTable.bits h)) (off m (SetTable.bits h % (m + 1)) (SetTable.bits h) n)).j := rfl
    rw [z1, nth_off, itL_run]
    exact (congrArg (oAt ow) e).trans hf
  obtain ⟨K, k1, k2, k3⟩ := st_least (p := fun k => oAt ow (way m h k) = none) _ z
  exact ⟨K, free_spec m ow _ n _ _ K hn k1 (fun k hk => Option.isNone_eq_false_iff.mpr (Option.isSome_iff_ne_none.mpr (k3 k hk))) (Option.isNone_iff_eq_none.mpr k2), k2, k3⟩
/-- the first empty place on the way, for a table that is not full -/
theorem empties {m : Nat} (hm : Mk m) (l : List Nat) (hl : l.length ≤ m) (h : Int) : ∃ K, K < 10 * SetTable.turns m ∧ way m h K ∉ l ∧ ∀ k, k < K → way m h k ∈ l := by
  obtain ⟨j, hj, hn⟩ := st_missing l (m + 1) (by omega)
  obtain ⟨k, hk, e⟩ := meets hm h (Nat.le_of_lt_succ hj)
  have z : way m h k ∉ l := fun c => hn (e ▸ c)
  obtain ⟨K, h1, h2, h3⟩ := st_least (p := fun k => way m h k ∉ l) k z
  exact ⟨K, Nat.lt_of_le_of_lt h1 hk, h2, fun k' hk' => Classical.not_not.mp (h3 k' hk')⟩
theorem set_at {ow : Array (Option Nat)} {j : Nat} (hj : j < ow.size) (v : Option Nat) (i : Nat) : oAt (ow.setIfInBounds j v) i = if i = j then v else oAt ow i := by
  by_cases c : i = j
  · rw [if_pos c, c]
    exact oAt_set_self v hj
  · rw [if_neg c]
    exact oAt_set_ne v c
/-- one more hash laid -/
theorem ownNext {m : Nat} (hm : Mk m) {ds : List Int} {ow : Array (Option Nat)} (W : Own m ds ow) (hl : ds.length ≤ m) (h : Int) :
    ∃ j, SetTable.layClean.free m ow (SetTable.turns m) (SetTable.bits h % (m + 1)) (SetTable.bits h) = some j ∧ Own m (ds ++ [h]) (ow.setIfInBounds j (some ds.length)) := by
  obtain ⟨ps, hps, hin⟩ := W.ps
  obtain ⟨j0, a0, n0⟩ := st_missing ps (m + 1) (by omega)
  have f0 : oAt ow j0 = none := Classical.not_not.mp fun c => n0 (hin j0 (by omega) c)
  obtain ⟨K, e1, e2, e3⟩ := frees hm ow h (show j0 ≤ m by omega) f0
  have hjm := wayLe m h K
  have at1 := set_at (ow := ow) (j := way m h K) (by rw [W.sz]; omega) (some ds.length)
  have up : ∀ i, oAt ow i ≠ none → oAt (ow.setIfInBounds (way m h K) (some ds.length)) i ≠ none := fun i hi => by
    rw [at1]
    split
    · simp
    · exact hi
  refine ⟨_, e1, ⟨by simp [W.sz], ?_, ?_, ?_⟩⟩
  · intro i k hi e
    rw [at1] at e
    split at e
    · next c =>
      cases e
      exact ⟨h, K, by simp, c.symm, fun k' hk' => up _ (e3 k' hk')⟩
    · obtain ⟨h', K', b1, b2, b3⟩ := W.at_ i k hi e
      exact ⟨h', K', by rw [List.getElem?_append_left (List.getElem?_eq_some_iff.mp b1).1]; exact b1, b2, fun k' hk' => up _ (b3 k' hk')⟩
  · intro k hk
    rw [List.length_append, List.length_singleton] at hk
    rcases Nat.lt_or_eq_of_le (Nat.le_of_lt_succ hk) with c | c
    · obtain ⟨i, hi, e⟩ := W.all k c
      refine ⟨i, hi, ?_⟩
      rw [at1, if_neg (fun z => by rw [z, e2] at e; cases e)]
      exact e
    · exact ⟨_, hjm, by rw [at1, if_pos rfl, c]⟩
  · refine ⟨way m h K :: ps, by simp [hps], fun i hi e => ?_⟩
    rw [at1] at e
    split at e
    · next c => rw [c]; exact List.mem_cons_self
    · exact List.mem_cons_of_mem _ (hin i hi e)
theorem ownAll {m : Nat} (hm : Mk m) : ∀ (rs ds : List Int) (ow : Array (Option Nat)), Own m ds ow → ds.length + rs.length ≤ m →
    ∃ ow' n, rs.foldl (stepF m) (some (ow, ds.length)) = some (ow', n) ∧ Own m (ds ++ rs) ow'
  | [], ds, ow, W, _ => ⟨ow, _, rfl, by rw [List.append_nil]; exact W⟩
  | h :: rs, ds, ow, W, hl => by
    rw [List.length_cons] at hl
    obtain ⟨j, e, W'⟩ := ownNext hm W (by omega) h
    have hl' : (ds ++ [h]).length = ds.length + 1 := by simp
    obtain ⟨ow', n, f, W2⟩ := ownAll hm rs (ds ++ [h]) _ W' (by omega)
    refine ⟨ow', n, ?_, by rw [List.append_assoc] at W2; exact W2⟩
    rw [List.foldl_cons, stepF_some e, ← hl']
    exact f
theorem layM {m : Nat} (hm : Mk m) {hs : Array Int} (hn : hs.size ≤ m) : ∃ ow, SetTable.layClean m hs = some ow ∧ Own m hs.toList ow := by
  obtain ⟨ow, n, f, W⟩ := ownAll hm hs.toList [] _ (Own.init m) (by rw [Array.length_toList]; show 0 + hs.size ≤ m; omega)
  exact ⟨ow, by rw [layClean_eq]; exact congrArg (Option.map (·.1)) f, W⟩
/-- the hash's way leads to j over places that are taken -/
def Rch (m : Nat) (pl : List Nat) (j : Nat) (h : Int) : Prop := ∃ k, way m h k = j ∧ ∀ k', k' < k → way m h k' ∈ pl
theorem Rch.up {m : Nat} {pl pl' : List Nat} {j : Nat} {h : Int} (r : Rch m pl j h) (u : ∀ x ∈ pl, x ∈ pl') : Rch m pl' j h := by
  obtain ⟨k, e, z⟩ := r
  exact ⟨k, e, fun k' hk => u _ (z k' hk)⟩
theorem zip_ins {α β : Type} (a : List α) (b : List β) (p : Nat) (x : α) (y : β) (hl : a.length = b.length) :
    (a.take p ++ x :: a.drop p).zip (b.take p ++ y :: b.drop p) = (a.zip b).take p ++ (x, y) :: (a.zip b).drop p := by
  rw [List.zip_append (by simp [hl]), List.zip_cons_cons]
  simp [List.zip, List.take_zipWith, List.drop_zipWith]
/-- a table of the masks Mk that holds the hashes hs -/
structure TabM (t : SetTable) (hs : List Int) : Prop where
  ris : Ris t.place.toList
  dm : t.dummies = #[]
  sz : t.place.size = hs.length
  mok : Mk t.mask
  bd : ∀ x ∈ t.place.toList, x ≤ t.mask
  rch : ∀ q ∈ t.place.toList.zip hs, Rch t.mask t.place.toList q.1 q.2
theorem TabM.at {t : SetTable} {hs : List Int} (T : TabM t hs) {i : Nat} {h : Int} {j : Nat} (h1 : hs[i]? = some h) (h2 : t.place.toList[i]? = some j) : Rch t.mask t.place.toList j h :=
  T.rch (j, h) (List.mem_of_getElem? (i := i) (by rw [List.getElem?_zip_eq_some]; exact ⟨h2, h1⟩))
/-- the first empty place -/
theorem TabM.first {t : SetTable} {hs : List Int} (T : TabM t hs) (hl : hs.length ≤ t.mask) (h : Int) : ∃ K, K < 10 * SetTable.turns t.mask ∧ way t.mask h K ∉ t.place.toList ∧ ∀ k, k < K → way t.mask h k ∈ t.place.toList :=
  empties T.mok _ (by rw [Array.length_toList, T.sz]; exact hl) h
/-- a member's place comes on its way before the first empty one -/
theorem TabM.before {t : SetTable} {hs : List Int} (T : TabM t hs) {h : Int} {K i j : Nat} (hK : way t.mask h K ∉ t.place.toList) (hi : hs[i]? = some h) (hj : t.place.toList[i]? = some j) : ∃ k, k < K ∧ way t.mask h k = j := by
  obtain ⟨k, e, z⟩ := T.at hi hj
  have hm : way t.mask h k ∈ t.place.toList := e ▸ List.mem_of_getElem? hj
  refine ⟨k, Classical.not_not.mp fun c => ?_, e⟩
  rcases Nat.lt_or_eq_of_le (Nat.le_of_not_lt c) with d | d
  · exact hK (z K d)
  · exact hK (d ▸ hm)
theorem TabM.put {t : SetTable} {hs : List Int} (T : TabM t hs) {h : Int} {K : Nat} (hK : way t.mask h K ∉ t.place.toList) (hb : ∀ k, k < K → way t.mask h k ∈ t.place.toList) :
    SetTable.below t.place (way t.mask h K) ≤ hs.length ∧ TabM (t.put (way t.mask h K)).1 (hs.take (SetTable.below t.place (way t.mask h K)) ++ h :: hs.drop (SetTable.below t.place (way t.mask h K))) ∧
    (t.put (way t.mask h K)).1.fill = hs.length + 1 := by
  have hc := (below_cut T.ris (way t.mask h K)).1
  have hlen : t.place.toList.length = hs.length := by rw [Array.length_toList]; exact T.sz
  have hpl : SetTable.below t.place (way t.mask h K) ≤ t.place.toList.length := by rw [Array.length_toList]; exact hc
  have hph : SetTable.below t.place (way t.mask h K) ≤ hs.length := hlen ▸ hpl
  have hpp := put_place t (way t.mask h K)
  have up : ∀ x ∈ t.place.toList, x ∈ (t.put (way t.mask h K)).1.place.toList := fun x hx => by
    rw [hpp]
    exact mem_ins.2 (.inr hx)
  have hsize : (t.put (way t.mask h K)).1.place.size = hs.length + 1 := by
    rw [← Array.length_toList, hpp, len_ins _ hpl, hlen]
  refine ⟨hph, ⟨ris_insert T.ris fun e => hK (List.mem_of_getElem? (by rw [Array.getElem?_toList]; exact e)), put_dm T.dm _, by rw [len_ins _ hph]; exact hsize, T.mok, fun x hx => ?_, fun q hq => ?_⟩, ?_⟩
  · rw [hpp] at hx
    rcases mem_ins.1 hx with z | z
    · rw [z]
      exact wayLe _ _ _
    · exact T.bd x z
  · rw [hpp, zip_ins _ _ _ _ _ hlen] at hq
    refine Rch.up (pl := t.place.toList) ?_ up
    rcases mem_ins.1 hq with z | z
    · rw [z]
      exact ⟨K, rfl, hb⟩
    · exact T.rch q z
  · show (t.put (way t.mask h K)).1.place.size + (t.put (way t.mask h K)).1.dummies.size = hs.length + 1
    rw [hsize, put_dm T.dm]
    rfl
/-- as many places as hashes -/
theorem live_len {m : Nat} {hs : Array Int} {ow : Array (Option Nat)} (W : Own m hs.toList ow) (nd : ((liveOf m ow).map (·.1)).Nodup) : (liveOf m ow).length = hs.size := by
  obtain ⟨ps, p1, p2⟩ := W.ps
  have a := nat_nodup_len ((liveOf m ow).map (·.1)) ps nd fun x hx => by
    obtain ⟨q, hq, rfl⟩ := List.mem_map.mp hx
    have b := (mem_live (j := q.1) (k := q.2) W.sz).1 hq
    exact p2 q.1 b.1 (by simp [b.2])
  have b := nat_nodup_len (List.range hs.size) ((liveOf m ow).map (·.2)) List.nodup_range fun k hk => by
    obtain ⟨j, b⟩ := W.all k (by simpa using hk)
    exact List.mem_map.mpr ⟨(j, k), (mem_live W.sz).2 b, rfl⟩
  simp only [List.length_map, List.length_range] at a b
  have : ps.length = hs.size := by simpa using p1
  omega
/-- all laid anew -/
theorem relM (t : SetTable) {hs : Array Int} {wanted M : Nat} (hw : SetTable.sizeAbove wanted - 1 = M) (hM : Mk M) (hn : hs.size ≤ M) :
    ∃ t' order, t.relaid hs wanted = some (t', order) ∧ order.toList.Perm (List.range hs.size) ∧ TabM t' (order.toList.map fun i => hs.getD i 0) ∧ t'.mask = M ∧ t'.led = t.led ∧ t'.plain = t.plain ∧ t'.dummies = #[] := by
  obtain ⟨ow, e, W⟩ := layM hM hn
  have ris := ris_live (fun j => ow.getD j none) (List.range (M + 1)) List.pairwise_lt_range
  have r1 : Ris ((liveOf M ow).map (·.1)) := ris.1
  have hlen := live_len W (List.Pairwise.imp (fun h => Nat.ne_of_lt h) r1)
  have mem : ∀ q ∈ liveOf M ow, q.1 ≤ M ∧ oAt ow q.1 = some q.2 := fun q hq => (mem_live W.sz).1 hq
  refine ⟨tabOf t M ow, _, by rw [relaid_eq, hw, e]; rfl, perm_range hs.size _ (by simpa using hlen) fun k hk => ?_, ⟨r1, rfl, ?_, hM, fun x hx => ?_, fun q hq => ?_⟩, rfl, rfl, rfl, rfl⟩
  · obtain ⟨j, b⟩ := W.all k (by simpa using hk)
    exact List.mem_map.mpr ⟨(j, k), (mem_live W.sz).2 b, rfl⟩
  · show ((liveOf M ow).map (·.1)).toArray.size = (((liveOf M ow).map (·.2)).map fun i => hs.getD i 0).length
    simp
  · obtain ⟨q, hq, rfl⟩ := List.mem_map.mp hx
    exact (mem q hq).1
  · have hq' : q ∈ ((liveOf M ow).map (·.1)).zip (((liveOf M ow).map (·.2)).map fun i => hs.getD i 0) := hq
    rw [List.map_map, List.zip_map'] at hq'
    obtain ⟨y, hy, rfl⟩ := List.mem_map.mp hq'
    obtain ⟨b1, b2⟩ := mem y hy
    obtain ⟨h0, K, a1, a2, a3⟩ := W.at_ y.1 y.2 b1 b2
    have e0 : hs.getD y.2 0 = h0 := by
      rw [Array.getD_eq_getD_getElem?, ← Array.getElem?_toList, a1]
      rfl
    show Rch M ((liveOf M ow).map (·.1)) y.1 (hs.getD y.2 0)
    rw [e0]
    refine ⟨K, a2, fun k' hk' => ?_⟩
    obtain ⟨k2, z⟩ := Option.ne_none_iff_exists'.mp (a3 k' hk')
    exact List.mem_map.mpr ⟨(_, k2), (mem_live W.sz).2 ⟨wayLe _ _ _, z⟩, rfl⟩
theorem size_308 : SetTable.sizeAbove (SetTable.grown 77) = 512 := by decide +kernel
theorem Mk.odd {m : Nat} (h : Mk m) : m % 2 = 1 := by
  rcases h with rfl | h
  · rfl
  · exact mask_odd h
theorem Mk.few {m : Nat} (h : Mk m) : m ≤ 511 := by
  rcases h with e | e | e | e <;> omega
/-- a set of tuples of ints with up to 300 members -/
structure SetM (P : Program) (w : World) (h : Heap) (a : Addr) (L : List (Addr × List Int)) (es : Array (Int × Value)) (ep : Nat) (t : SetTable) : Prop where
  ob : ∃ o, h.get? a = some o ∧ o.ExactSet ∧ o.data = .set es ep t
  rows : es.toList = rowsOf P w L
  tab : TabM t (L.map fun p => thash P w p.2)
  nd : (L.map (·.2)).Nodup
  tup : ∀ p ∈ L, IsT P w h p.2 p.1
  plain : t.plain = true
  led : w.params.followText "set-order" = true ∨ t.led = true
  room : L.length * 5 < t.mask * 3
  few : L.length < 300
theorem rows_len {P : Program} {w : World} {es : Array (Int × Value)} {L : List (Addr × List Int)} (h : es.toList = rowsOf P w L) : es.size = L.length := by
  rw [← Array.length_toList, h]
  exact List.length_map _
section
variable {P : Program} {w : World} {A : Around} {E : Value → Shared → Prop} {s : Shared} {a : Addr} {L : List (Addr × List Int)} {es : Array (Int × Value)} {ep : Nat} {t : SetTable}
theorem SetM.psize (R : SetM P w s.heap a L es ep t) : t.place.size = L.length := R.tab.sz.trans (List.length_map _)
theorem fitsM {n : Nat} (hd : t.dummies = #[]) (h1 : t.place.size = n) (h2 : n ≤ t.mask) : t.fits n = true := by
  unfold SetTable.fits SetTable.fill
  rw [hd, h1]
  simpa using h2
theorem SetM.fits (R : SetM P w s.heap a L es ep t) : t.fits es.size = true := by
  have h := R.room
  exact fitsM R.tab.dm (R.psize.trans (rows_len R.rows).symm) (by rw [rows_len R.rows]; omega)
theorem SetM.entry (R : SetM P w s.heap a L es ep t) {i : Nat} {p : Addr × List Int} (h : L[i]? = some p) : es[i]? = some (thash P w p.2, Value.ref p.1) := by
  rw [← Array.getElem?_toList, R.rows]
  exact (List.getElem?_map ..).trans (congrArg _ h)
theorem SetM.gw (R : SetM P w s.heap a L es ep t) : ¬ t.gaveWay = true := by
  unfold SetTable.gaveWay
  rw [R.tab.mok.odd]
  decide
/-- the way's c-th stand -/
def prb (m : Nat) (h : Int) (c : Nat) : SetTable.Probe := nth m (runAt m (SetTable.bits h % (m + 1)) (SetTable.bits h)) c
theorem prb_add (m : Nat) (h : Int) (c q : Nat) : nth m (prb m h c) q = prb m h (c + q) := (nth_add m c _ q).symm
theorem prb_j (m : Nat) (h : Int) (c : Nat) : (prb m h c).j = way m h c := rfl
theorem nth_dummy (m : Nat) : ∀ (n : Nat) (p : SetTable.Probe), p.dummy = none → (nth m p n).dummy = none
  | 0, _, h => h
  | n + 1, p, h => nth_dummy m n (adv m p) (by unfold adv; split <;> exact h)
/-- behind a candidate: either it is the key, or the search goes on -/
theorem candM (R : SetM P w s.heap a L es ep t) {x : Addr} {k : List Int} (hx : IsT P w s.heap k x) (hu : A.units < cLine) {f j i : Nat} {nx : SetTable.Probe} {p : Addr × List Int} (hp : L[i]? = some p) (hj : t.place.toList[i]? = some j) {Q : SetFound → Shared → Prop}
    (h1 : p.2 = k → Q (.there none) s) (h2 : p.2 ≠ k → wpAny (model P w) A (setSearchFrom a (.ref x) (thash P w k) true f (some nx)) Q E s) :
    wpAny (model P w) A (searchRest a (.ref x) (thash P w k) true f es t j i nx) Q E s := by
  obtain ⟨o, ho, hex, hd⟩ := R.ob
  unfold searchRest
  rw [R.entry hp]
  dsimp only
  refine wpAny_bind (wpAny_holding (wpAny_eqBool_tuple hu (R.tup p (List.mem_of_getElem? hp)) hx ?_))
  refine wpAny_bind (wpAny_setState_of ho hd R.fits ?_)
  dsimp only
  by_cases c : p.2 = k
  · exact wp_if_pos (by simp [c]) (wpAny_pure (h1 c))
  · refine wp_if_neg (by simp [c]) ?_
    try refine wpAny_bind (wpAny_pure ?_)
    rw [sameMem]
    dsimp only
    simp only [if_true, slot_live R.tab.ris hj, R.entry hp]
    refine wpAny_bind (wpAny_isSame_ref_self (wpAny_bind (wpAny_pure ?_)))
    simp only [if_true]
    exact wp_if_neg (by simp [c]) (h2 c)
/-- the search from the way's c-th stand on -/
theorem fromM (R : SetM P w s.heap a L es ep t) {x : Addr} {k : List Int} (hx : IsT P w s.heap k x) (hu : A.units < cLine) {K : Nat} (hKf : K < 10 * SetTable.turns t.mask)
    (hK : way t.mask (thash P w k) K ∉ t.place.toList) (hKb : ∀ c, c < K → way t.mask (thash P w k) c ∈ t.place.toList) {Q : SetFound → Shared → Prop}
    (hin : k ∈ L.map (·.2) → Q (.there none) s) (hout : k ∉ L.map (·.2) → Q (.free (way t.mask (thash P w k) K) false) s) :
    ∀ (f c : Nat) (st : Option SetTable.Probe), st.getD (t.probeStart (thash P w k)) = prb t.mask (thash P w k) c → c ≤ K → K - c < f →
      (∀ (i : Nat) p, L[i]? = some p → p.2 = k → ∃ c', c ≤ c' ∧ c' < K ∧ t.place.toList[i]? = some (way t.mask (thash P w k) c')) →
      wpAny (model P w) A (setSearchFrom a (.ref x) (thash P w k) true f st) Q E s
  | 0, _, _, _, _, hf, _ => absurd hf (Nat.not_lt_zero _)
  | f + 1, c, st, hst, hc, hf, hre => by
    obtain ⟨o, ho, hex, hd⟩ := R.ob
    rw [setSearchFrom_succ]
    refine wpAny_bind (wpAny_setState_of ho hd R.fits ?_)
    dsimp only
    refine wp_if_neg R.gw ?_
    try refine wpAny_bind (wpAny_pure ?_)
    have hashOf : ∀ (i : Nat) p, L[i]? = some p → (fun i => (es[i]?.map (·.1)).getD 0) i = thash P w p.2 := fun i p hp => by
      show (es[i]?.map (·.1)).getD 0 = _
      rw [R.entry hp]
      rfl
    have eq : ∀ q, (nth t.mask (prb t.mask (thash P w k) c) q).j = way t.mask (thash P w k) (c + q) := fun q => by rw [prb_add]; rfl
    have spec := go_spec t R.tab.ris R.tab.dm (fun i => (es[i]?.map (·.1)).getD 0) (thash P w k) (10 * SetTable.turns t.mask) (K - c) (prb t.mask (thash P w k) c) (nth_dummy _ _ _ rfl) (by omega)
      (fun q hq => by rw [eq]; exact hKb _ (by omega)) (by rw [eq, show c + (K - c) = K by omega]; exact hK)
    have pr : t.probe (fun i => (es[i]?.map (·.1)).getD 0) (thash P w k) (st.getD (t.probeStart (thash P w k))) = SetTable.probe.go t (fun i => (es[i]?.map (·.1)).getD 0) (thash P w k) (10 * SetTable.turns t.mask) (prb t.mask (thash P w k) c) := by
      rw [hst]
      rfl
    rw [pr]
    rcases spec with ⟨q, i, hq, hi, hh, hno, e⟩ | ⟨hno, e⟩
    · rw [e]
      dsimp only
      rw [eq] at hi ⊢
      rw [prb_add]
      obtain ⟨p, hp⟩ : ∃ p, L[i]? = some p := ⟨_, List.getElem?_eq_getElem (by
        have h1 := (List.getElem?_eq_some_iff.mp hi).1
        rw [Array.length_toList, R.psize] at h1
        exact h1)⟩
      have rest : wpAny (model P w) A (searchRest a (.ref x) (thash P w k) true f es t (way t.mask (thash P w k) (c + q)) i (prb t.mask (thash P w k) (c + (q + 1)))) Q E s :=
        candM R hx hu hp hi (fun c1 => hin (List.mem_map.mpr ⟨p, List.mem_of_getElem? hp, c1⟩)) fun c1 => fromM R hx hu hKf hK hKb hin hout f (c + (q + 1)) _ rfl (by omega) (by omega) fun i0 p0 h0 hk0 => by
          obtain ⟨c', a1, a2, a3⟩ := hre i0 p0 h0 hk0
          refine ⟨c', Nat.le_of_not_lt fun z => ?_, a2, a3⟩
          rcases Nat.lt_or_ge c' (c + q) with y | y
          · exact hno (c' - c) i0 (by omega) (by rw [eq, show c + (c' - c) = c' by omega]; exact a3) ((hashOf i0 p0 h0).trans (congrArg _ hk0))
          · have ec : c' = c + q := by omega
            subst ec
            have s0 := slot_live R.tab.ris a3
            rw [slot_live R.tab.ris hi] at s0
            injection s0 with s0
            subst s0
            rw [hp] at h0
            cases h0
            exact c1 hk0
      by_cases hl : t.led = true
      · refine wp_if_neg (by simp [hl]) ?_
        try refine wpAny_bind (wpAny_pure ?_)
        exact rest
      · refine wp_if_pos (by simp [hl]) ?_
        refine wpAny_bind (seen_tup hx (fun y hy => ?_) ?_)
        · obtain ⟨e1, he, ee⟩ := List.mem_map.mp hy
          have he1 : e1 ∈ es ∧ e1.1 = thash P w k := by simpa using he
          have he2 : e1 ∈ rowsOf P w L := by rw [← R.rows]; simpa using he1.1
          obtain ⟨p2, hp2, e2⟩ := List.mem_map.mp he2
          exact ⟨p2.2, p2.1, by rw [← ee, ← e2], R.tup p2 hp2⟩
        · refine wp_if_neg (by decide) ?_
          try refine wpAny_bind (wpAny_pure ?_)
          exact rest
    · rw [e]
      dsimp only
      rw [eq, show c + (K - c) = K by omega]
      refine wpAny_pure (hout fun hm => ?_)
      obtain ⟨p0, h0, hk0⟩ := List.mem_map.mp hm
      obtain ⟨i0, h00⟩ := List.mem_iff_getElem?.mp h0
      obtain ⟨c', a1, a2, a3⟩ := hre i0 p0 h00 hk0
      exact hno (c' - c) i0 (by omega) (by rw [eq, show c + (c' - c) = c' by omega]; exact a3) ((hashOf i0 p0 h00).trans (congrArg _ hk0))
/-- the search that adding asks for -/
theorem searchM (R : SetM P w s.heap a L es ep t) {x : Addr} {k : List Int} (hx : IsT P w s.heap k x) (hu : A.units < cLine) {Q : SetFound → Shared → Prop} (hin : k ∈ L.map (·.2) → Q (.there none) s)
    (hout : ∀ K, k ∉ L.map (·.2) → way t.mask (thash P w k) K ∉ t.place.toList → (∀ c, c < K → way t.mask (thash P w k) c ∈ t.place.toList) → Q (.free (way t.mask (thash P w k) K) false) s) :
    wpAny (model P w) A (setSearch a (.ref x) (thash P w k) true) Q E s := by
  have hroom := R.room
  obtain ⟨K, hKf, hK, hKb⟩ := R.tab.first (by rw [List.length_map]; omega) (thash P w k)
  have hbig : K < 100000 := by
    have h5 := R.tab.mok.few
    unfold SetTable.turns at hKf
    omega
  unfold setSearch
  refine fromM R hx hu hKf hK hKb hin (fun hn => hout K hn hK hKb) 100000 0 none rfl (Nat.zero_le _) (by omega) fun i p hp hk => ?_
  have hi : (L.map fun p => thash P w p.2)[i]? = some (thash P w k) := by
    rw [List.getElem?_map, hp, ← hk]
    rfl
  have hj := List.getElem?_eq_getElem (l := t.place.toList) (i := i) (by
    rw [Array.length_toList, R.psize]
    exact (List.getElem?_eq_some_iff.mp hp).1)
  obtain ⟨c, hc, e⟩ := R.tab.before hK hi hj
  exact ⟨c, Nat.zero_le _, hc, by rw [hj, e]⟩
/-- the table laid anew -/
theorem relayM {o : Obj} (ho : s.heap.get? a = some o) (hex : o.ExactSet) (hd : o.data = .set es ep t) (hrows : es.toList = rowsOf P w L) (hsz : t.place.size = L.length) (hdm : t.dummies = #[]) (hfl : L.length ≤ t.mask)
    (nd : (L.map (·.2)).Nodup) (tup : ∀ p ∈ L, IsT P w s.heap p.2 p.1) (pl : t.plain = true) (ld : w.params.followText "set-order" = true ∨ t.led = true) (few : L.length < 300) {wanted M : Nat}
    (hw : SetTable.sizeAbove wanted = M + 1) (hM : Mk M) (hn : L.length * 5 < M * 3) {Q : Unit → Shared → Prop}
    (hQ : ∀ h' L' es' ep' t', Heap.SameBut a s.heap h' → SetM P w h' a L' es' ep' t' → L'.Perm L → Q () { s with heap := h' }) : wpAny (model P w) A (setRelay a wanted) Q E s := by
  have hsl := rows_len hrows
  have h5 := hM.few
  obtain ⟨t', order, e, hp, T, em, el, ep', ed⟩ := relM t (hs := es.map (·.1)) (wanted := wanted) (by rw [hw]; rfl) hM (by rw [Array.size_map, hsl]; omega)
  rw [Array.size_map, hsl] at hp
  obtain ⟨L2, r1, r2, r3⟩ := order_rows L es order hrows hp
  rw [← r3] at T
  have hs2 : (order.filterMap (es[·]?)).size = es.size := by rw [rows_len r1, r2.length_eq, hsl]
  rw [setRelay_eq]
  refine wpAny_bind (wpAny_setState_of ho hd (by rw [hsl]; exact fitsM hdm hsz hfl) ?_)
  dsimp only
  refine wp_if_neg (by rw [sizeLine_eq, hw]; omega) ?_
  try refine wpAny_bind (wpAny_pure ?_)
  rw [e]
  dsimp only
  refine wpAny_bind (wp_if_neg (by rw [hs2]; simp) ?_)
  try refine wpAny_bind (wpAny_pure ?_)
  refine wpAny_pure ?_
  dsimp only
  refine wpAny_storeSet_of ho hd ?_ (by rw [hs2, hsl, sizeLine_eq]; omega)
  have sb : Heap.SameBut a s.heap (s.heap.update a (Obj.putSet (order.filterMap (es[·]?)) t')) := Heap.SameBut.update ..
  exact hQ _ L2 _ (ep + 1) t' sb ⟨⟨_, store_at ho hd, ⟨hex.1, hex.2.1, hex.2.2⟩, rfl⟩, r1, T, (r2.map (·.2)).nodup_iff.mpr nd, fun p hpm => isT_same (tup p (r2.mem_iff.mp hpm)) ho hd sb, ep'.trans pl, by rw [el]; exact ld, by rw [r2.length_eq, em]; exact hn, by rw [r2.length_eq]; exact few⟩ r2
/-- where a table grows: its mask, its members and the next mask -/
theorem growsM {m n : Nat} (hm : Mk m) (r : n * 5 < m * 3) (f : (n + 1) * 5 ≥ m * 3) (few : n + 1 < 300) : ∃ M, Mk M ∧ SetTable.sizeAbove (SetTable.grown (n + 1)) = M + 1 ∧ (n + 1) * 5 < M * 3 := by
  rcases hm with rfl | rfl | rfl | rfl
  · omega
  · obtain rfl : n = 4 := by omega
    exact ⟨31, .inr (.inr (.inl rfl)), size_20, by omega⟩
  · obtain rfl : n = 18 := by omega
    exact ⟨127, .inr (.inr (.inr rfl)), size_76, by omega⟩
  · obtain rfl : n = 76 := by omega
    exact ⟨511, .inl rfl, size_308, by omega⟩
/-- adding -/
theorem addM (R : SetM P w s.heap a L es ep t) {x : Addr} {k : List Int} (hx : IsT P w s.heap k x) (hu : A.units < cLine) (hfew : L.length + 1 < 300) {Q : Bool → Shared → Prop}
    (hQ : ∀ b h' L' es' ep' t', Heap.SameBut a s.heap h' → SetM P w h' a L' es' ep' t' → (k ∈ L.map (·.2) → L' = L) → (k ∉ L.map (·.2) → L'.Perm ((x, k) :: L)) → Q b { s with heap := h' }) :
    wpAny (model P w) A (setAddHashed a (.ref x) (thash P w k)) Q E s := by
  obtain ⟨o, ho, hex, hd⟩ := R.ob
  have hroom := R.room
  unfold setAddHashed
  refine wpAny_holding ?_
  rw [show (100000 : Nat) = 99999 + 1 from rfl, setAddHashedIn_succ]
  refine wpAny_bind (wpAny_setState_of ho hd R.fits ?_)
  dsimp only
  refine wp_if_neg (by simp [byScan, Value.scannable]) ?_
  try refine wpAny_bind (wpAny_pure ?_)
  refine wpAny_bind (searchM R hx hu (fun hm => ?_) fun K hm hK hb => ?_)
  · exact wpAny_pure (hQ false s.heap L es ep t (Heap.SameBut.refl a s.heap) R (fun _ => rfl) fun z => absurd hm z)
  · dsimp only
    refine wpAny_bind (wpAny_setState_of ho hd R.fits ?_)
    dsimp only
    obtain ⟨q2, q3, q9⟩ := R.tab.put hK hb
    have q1 : (t.put (way t.mask (thash P w k) K)).2 = SetTable.below t.place (way t.mask (thash P w k) K) := rfl
    have q4 : (t.put (way t.mask (thash P w k) K)).1.mask = t.mask := rfl
    have q5 : (t.put (way t.mask (thash P w k) K)).1.led = t.led := rfl
    have hp1 : (t.put (way t.mask (thash P w k) K)).1.plain = true := R.plain
    generalize t.put (way t.mask (thash P w k) K) = pt at q1 q3 q4 q5 q9 hp1 ⊢
    obtain ⟨t1, p⟩ := pt
    dsimp only at q1 q3 q4 q5 q9 hp1 ⊢
    rw [← q1] at q3
    clear q1 q2
    first
      | (refine wpAny_bind ?_; refine wp_if_pos hp1 ?_; refine hashBy_tup hx ?_)
      | refine wp_if_pos hp1 (wpAny_bind (hashBy_tup hx ?_))
    simp only [if_true]
    have hin : (SetTable.insertAt es p (thash P w k, Value.ref x)).toList = rowsOf P w (L.take p ++ (x, k) :: L.drop p) := by
      rw [SetTable.toList_insertAt, rows_put, R.rows]
    have pm := put_perm L p (x, k)
    have hlen : (L.take p ++ (x, k) :: L.drop p).length = L.length + 1 := pm.length_eq
    have hhs : (L.take p ++ (x, k) :: L.drop p).map (fun p => thash P w p.2) = (L.map fun p => thash P w p.2).take p ++ thash P w k :: (L.map fun p => thash P w p.2).drop p := by simp
    rw [← hhs] at q3
    have nd1 : ((L.take p ++ (x, k) :: L.drop p).map (·.2)).Nodup := (pm.map (·.2)).nodup_iff.mpr (List.nodup_cons.mpr ⟨hm, R.nd⟩)
    have hes := (rows_len hin).trans hlen
    generalize SetTable.insertAt es p (thash P w k, Value.ref x) = es1 at hin hes ⊢
    generalize L.take p ++ (x, k) :: L.drop p = L1 at pm hlen q3 nd1 hin
    refine wpAny_bind (wpAny_storeSet_of ho hd ?_ (by rw [hes, sizeLine_eq]; omega))
    have sb : Heap.SameBut a s.heap (s.heap.update a (Obj.putSet es1 t1)) := Heap.SameBut.update ..
    have ho1 := store_at (es' := es1) (t' := t1) ho hd
    generalize s.heap.update a (Obj.putSet es1 t1) = h1 at sb ho1 ⊢
    have tup1 : ∀ p ∈ L1, IsT P w h1 p.2 p.1 := fun p hp => by
      rcases List.mem_cons.mp (pm.mem_iff.mp hp) with rfl | hp
      · exact isT_same hx ho hd sb
      · exact isT_same (R.tup p hp) ho hd sb
    have ld1 : w.params.followText "set-order" = true ∨ t1.led = true := by rw [q5]; exact R.led
    have hs1 : t1.place.size = L1.length := q3.sz.trans (List.length_map _)
    rw [List.length_map] at q9
    by_cases hf : t1.tooFull = true
    · have hfull : (L.length + 1) * 5 ≥ t.mask * 3 := by
        have h := hf
        unfold SetTable.tooFull at h
        rw [decide_eq_true_eq, q9, q4] at h
        exact h
      obtain ⟨M, m1, m2, m3⟩ := growsM R.tab.mok hroom hfull hfew
      have hm5 := R.tab.mok.few
      first
        | (refine wpAny_bind ?_; refine wp_if_pos (by simp [hf]) ?_)
        | (refine wp_if_pos (by simp [hf]) ?_; refine wpAny_bind ?_)
      rw [rows_len R.rows]
      refine relayM (s := { s with heap := h1 }) ho1 ⟨hex.1, hex.2.1, hex.2.2⟩ rfl hin hs1 q3.dm (by rw [hlen, q4]; omega) nd1 tup1 hp1 ld1 (by rw [hlen]; exact hfew) m2 m1 (by rw [hlen]; exact m3) fun h2 L2 es2 ep2 t2 sb2 R2 pm2 => ?_
      exact wpAny_pure (hQ true h2 L2 es2 ep2 t2 (sb.trans sb2) R2 (fun z => absurd z hm) fun _ => pm2.trans pm)
    · first
        | refine wp_if_neg (by simp [hf]) ?_
        | (refine wpAny_bind ?_; refine wp_if_neg (by simp [hf]) ?_; refine wpAny_pure ?_)
      refine wpAny_pure (hQ true h1 L1 es1 (ep + 1) t1 sb ⟨⟨_, ho1, ⟨hex.1, hex.2.1, hex.2.2⟩, rfl⟩, hin, q3, nd1, tup1, hp1, ld1, ?_, by rw [hlen]; exact hfew⟩ (fun z => absurd z hm) fun _ => pm)
      have h := hf
      unfold SetTable.tooFull at h
      rw [decide_eq_true_eq, q9] at h
      rw [hlen]
      omega
theorem SetM.keep {h h' : Heap} (R : SetM P w h a L es ep t) (ha : ∀ o, h.get? a = some o → h'.get? a = some o) (ht : ∀ p ∈ L, IsT P w h' p.2 p.1) : SetM P w h' a L es ep t := by
  obtain ⟨o, ho, r⟩ := R.ob
  exact { R with ob := ⟨o, ha o ho, r⟩, tup := ht }
/-- a new set holds nothing -/
theorem newM {h : Heap} (ho : h.get? a = some { cls := .type "set", dict := none, data := .set #[] 0 (.fresh 0 0 (!w.params.followText "set-order")) }) : SetM P w h a [] #[] 0 (.fresh 0 0 (!w.params.followText "set-order")) where
  ob := ⟨_, ho, ⟨rfl, rfl, rfl⟩, rfl⟩
  rows := rfl
  tab := ⟨List.Pairwise.nil, rfl, rfl, .inr (.inl rfl), (fun _ hx => nomatch hx), (fun _ hq => nomatch hq)⟩
  nd := List.nodup_nil
  tup := fun _ hp => nomatch hp
  plain := rfl
  led := by
    show _ ∨ (!w.params.followText "set-order") = true
    cases w.params.followText "set-order" <;> simp
  room := show 0 * 5 < 7 * 3 by decide
  few := show 0 < 300 by decide
/-- the set at S holds what the first i members gave -/
def HasM (P : Program) (w : World) (S : Addr) (ks : List (Addr × List Int)) (i : Nat) (h : Heap) : Prop := ∃ L es ep t, SetM P w h S L es ep t ∧ Got ks i L
theorem HasM.keep {h h' : Heap} {S : Addr} {ks : List (Addr × List Int)} {i : Nat} (r : HasM P w S ks i h) (ha : ∀ o, h.get? S = some o → h'.get? S = some o) (ht : ∀ p ∈ ks, IsT P w h' p.2 p.1) : HasM P w S ks i h' := by
  obtain ⟨L, es, ep, t, R, g⟩ := r
  exact ⟨L, es, ep, t, R.keep ha fun p hp => ht p (List.mem_of_mem_take (g.sub p hp)), g⟩
/-- the loop of set.update -/
theorem loopM {I : Addr} {fp wr : List Addr} {G : Array GenState → Array GenState → Prop} {n : Nat} {Pv : Nat → Value → Prop} {St : Nat → Shared → Prop} {R : Result → Shared → Prop}
    (W : WalksS P w A.in1 I fp wr G n Pv St) (S : Addr) (hSf : S ∉ fp) (ks : List (Addr × List Int)) (hn : n = ks.length) (hfew : ks.length < 300) (hval : ∀ i v, Pv i v → ∃ p, ks[i]? = some p ∧ v = .ref p.1)
    (h0 : Heap) (hk : ∀ p ∈ ks, IsT P w h0 p.2 p.1) (hS0 : h0.get? S = none) (hw0 : ∀ b ∈ wr, h0.get? b = none) (hu : A.in1.units < cLine) :
    ∀ (k i : Nat) (s : Shared), n - i = k → i ≤ n → St i s → (∀ b o, h0.get? b = some o → s.heap.get? b = some o) → HasM P w S ks i s.heap →
      (∀ s', Moved (S :: wr) G s s' → HasM P w S ks n s'.heap → (∀ b o, h0.get? b = some o → s'.heap.get? b = some o) → R (.ok (.ret .none)) s') →
      codeAny (model P w) A (.builtin "set.update.loop" ⟨[.ref S, .ref I], []⟩) R s := by
  have hSw : S ∉ wr := fun h => hSf (W.sub _ h)
  have hsub : ∀ b ∈ wr, b ∈ S :: wr := fun b hb => List.mem_cons_of_mem _ hb
  have stay : ∀ {s s' : Shared}, Moved wr G s s' → (∀ b o, h0.get? b = some o → s.heap.get? b = some o) → ∀ b o, h0.get? b = some o → s'.heap.get? b = some o := fun hm hkp b o e =>
    hm.heap b o (fun hb => by rw [hw0 b hb] at e; cases e) (hkp b o e)
  have isT : ∀ {h : Heap}, (∀ b o, h0.get? b = some o → h.get? b = some o) → ∀ p ∈ ks, IsT P w h p.2 p.1 := fun kp p hp => isT_keep (hk p hp) kp
  intro k
  induction k with
  | zero =>
    intro i s hk' hi hst hkp hS hR
    obtain rfl : i = n := by omega
    refine codeAny_builtin F.entry_set_update_loop ?_
    rw [Around.under_plainId F.plain_set_update_loop _]
    show wpAny _ A.in1 (pyNext (.ref I) >>= _) _ _ s
    refine wpAny_bind (W.done s _ _ hst fun s' hm => ?_)
    show wpAny _ A.in1 (ret Value.none) _ _ s'
    have kp := stay hm hkp
    exact wpAny_pure (hR s' (hm.mono hsub) (hS.keep (fun o e => hm.heap S o hSw e) (isT kp)) kp)
  | succ k ih =>
    intro i s hk' hi hst hkp hS hR
    have hlt : i < n := by omega
    refine codeAny_builtin F.entry_set_update_loop ?_
    rw [Around.under_plainId F.plain_set_update_loop _]
    show wpAny _ A.in1 (pyNext (.ref I) >>= _) _ _ s
    refine wpAny_bind (W.item i s _ _ hlt hst fun v s' hP hst' hm => ?_)
    obtain ⟨p, hp, rfl⟩ := hval i v hP
    have kp := stay hm hkp
    obtain ⟨L, es, ep, t, hS', g⟩ := hS.keep (fun o e => hm.heap S o hSw e) (isT kp)
    have hx := isT kp p (List.mem_of_getElem? hp)
    show wpAny _ A.in1 (holding [Value.ref p.1] (setAdd S (.ref p.1)) >>= _) _ _ s'
    refine wpAny_bind (wpAny_holding ?_)
    unfold setAdd
    refine wpAny_holding ?_
    refine wpAny_bind (wpAny_pyHash_tuple hu hx ?_)
    refine addM (s := { s' with toks := s'.toks + (p.2.length + 1) }) hS' hx hu (by have := g.len; omega) fun b h' L' es' ep' t' hsb hS2 c1 c2 => ?_
    have g' : Got ks (i + 1) L' := by
      by_cases c : p.2 ∈ L.map (·.2)
      · rw [c1 c]
        exact g.same hp c
      · exact g.more hp (c2 c)
    have kp2 : ∀ b o, h0.get? b = some o → h'.get? b = some o := fun b o e => (hsb.2 b (fun z => by rw [z, hS0] at e; cases e)).trans (kp b o e)
    refine wpAny_pure ⟨plainId_quiet F.plain_set_update_loop _, ih (i + 1) _ (by omega) hlt (W.frame _ s' _ _ hst' (Nat.le_add_right _ _) fun b hb o e => ?_) kp2 ⟨L', es', ep', t', hS2, g'⟩ fun s'' hm'' hS'' kp'' => ?_⟩
    · exact (hsb.2 b (fun z : b = S => hSf (z ▸ hb))).trans e
    · refine hR s'' (Moved.trans W.gtrans ((hm.mono hsub).then_heap (Nat.le_add_right _ _) fun b o hb e => ?_) hm'') hS'' kp''
      exact (hsb.2 b (fun z : b = S => hb (z ▸ List.mem_cons_self))).trans e
/-- the object that set() makes -/
abbrev nSet (w : World) : Obj := { cls := .type "set", dict := none, data := .set #[] 0 (.fresh 0 0 (!w.params.followText "set-order")) }
/-- set(a list of tuples of ints) -/
theorem setM {l : Addr} {items : Array Value} (ks : List (Addr × List Int)) {Q : Value → Shared → Prop} (hh : A.handled = none) (hl : s.heap.IsList l items) (hit : items.toList = ks.map fun p => Value.ref p.1)
    (hk : ∀ p ∈ ks, IsT P w s.heap p.2 p.1) (hfew : ks.length < 300) (hu : A.units + 3 < cLine)
    (h : ∀ (h' : Heap) (tk : Nat), HasM P w s.heap.objs.size ks ks.length h' → (∀ b o, s.heap.get? b = some o → h'.get? b = some o) → Q (.ref s.heap.objs.size) { s with heap := h', toks := tk }) :
    wpAny (model P w) A (call (.type "set") [.ref l]) Q E s := by
  have hisz : items.size = ks.length := by
    rw [← Array.length_toList, hit, List.length_map]
  obtain ⟨c, tl, hmro⟩ := F.called_set.mro
  have hmade := F.called_set.made
  have hsub := F.called_set.sub
  refine wpAny_call (codeAny_of_tree ?_)
  show wpAny _ _ (callAny (.type "set") _) _ _ _
  refine wpAny_pure ⟨Code.quiet_builtin _ (by decide +kernel), codeAny_builtin F.entry_type_call ?_⟩
  rw [Around.under_plain (weight_type_call_type "set" [.ref l] []) rfl]
  have h1 := F.called_set.notType
  have h2 := F.called_set.canCreate
  have hct := F.typeCall_set_1 (.ref l)
  repeat (any_goals (first | assumption | wp_step))
  refine codeAny_mono (code_set_led1 (.ref l) (E := E) (Q₁ := fun obj s₁ => obj = .ref s.heap.objs.size ∧ s₁ = { s with heap := s.heap.push (nSet w) }) ⟨rfl, rfl⟩) fun r s₁ hr => ?_
  cases r with
  | error e => exact hr
  | ok fl =>
    cases fl with
    | ret obj =>
      obtain ⟨rfl, rfl⟩ := hr
      have hS : (s.heap.push (nSet w)).get? s.heap.objs.size = some (nSet w) := Heap.get?_push_size _ rfl
      have hT : Shared.TypeIs { s with heap := s.heap.push (nSet w) } (.ref s.heap.objs.size) "set" := ⟨_, hS, rfl⟩
      have hli := F.called_set.init.lookup
      have hbi := F.called_set.init.bind (.ref s.heap.objs.size)
      repeat (any_goals (first | assumption | wp_step))
      refine codeAny_mono (codeAny_call_builtin (R := wants (fun r s₂ => r = .none ∧ ∃ h' tk, s₂ = { s with heap := h', toks := tk } ∧ HasM P w s.heap.objs.size ks ks.length h' ∧
          (∀ b o, s.heap.get? b = some o → h'.get? b = some o)) E) F.called_set.init.plain F.entry_set_init (check_set_init_1 hT ?_)) fun r₂ s₂ hr₂ => ?_
      · obtain ⟨ol, hol, hcl, nl, hdl⟩ := hl
        obtain ⟨ocls, odict, odata, oslots⟩ := ol
        simp only at hcl hdl
        subst hcl; subst hdl
        have hol' : (s.heap.push (nSet w)).get? l = some { cls := .type "list", dict := odict, data := .seq items nl, slots := oslots } := Heap.get?_push_of_some _ hol
        have hsls := F.sub_list_set
        have hslf := F.sub_list_frozenset
        have hne : (Value.type "list" == Value.type "dict") = false := by decide
        have hl1 : (s.heap.push (nSet w)).IsList l items := ⟨_, hol', rfl, nl, rfl⟩
        unfold Builtin.«set.__init__» noKeywords Builtin.Frozenset.updateFrom
        generalize hPI : pyIter = PI
        wp_walk
        subst hPI
        refine wpAny_pyIter_list hl1 ?_
        refine wpAny_bind (wpAny_runValue ?_)
        have hlS : l < s.heap.objs.size := Heap.lt_size hol
        have hh3 : A.in1.in1.in1.handled = none := by simp [hh]
        have hz1 : (s.heap.push (nSet w)).objs.size = s.heap.objs.size + 1 := Heap.size_push ..
        have hval : ∀ (i : Nat) (v : Value), items[i]? = some v → ∃ p, ks[i]? = some p ∧ v = .ref p.1 := fun i v hv => by
          have q : (ks.map fun p => Value.ref p.1)[i]? = some v := by rw [← hit, Array.getElem?_toList]; exact hv
          rw [List.getElem?_map] at q
          obtain ⟨p, hp, e⟩ := Option.map_eq_some_iff.mp q
          exact ⟨p, hp, e.symm⟩
        have none_of : ∀ b, s.heap.objs.size ≤ b → s.heap.get? b = none := fun b hb => by
          cases q : s.heap.get? b with
          | none => rfl
          | some o => exact absurd (Heap.lt_size q) (Nat.not_lt.mpr hb)
        refine loopM ((Walks.list hh3 _ l (by rw [hz1]; exact Nat.ne_of_lt (Nat.lt_succ_of_lt hlS)) items).toS) s.heap.objs.size (by
            rw [hz1]
            simp only [List.mem_cons, List.mem_singleton, List.not_mem_nil, or_false, not_or]
            exact ⟨Nat.ne_of_lt (Nat.lt_succ_self _), Nat.ne_of_gt hlS⟩) ks hisz hfew hval s.heap hk (none_of _ (Nat.le_refl _)) (fun b hb => none_of b (by
            rw [List.mem_singleton.mp hb, hz1]
            omega)) hu (items.size - 0) 0 _ (by omega) (Nat.zero_le _)
          ⟨⟨_, Heap.get?_push_size _ rfl, rfl, rfl⟩, (hl1.push _)⟩ (fun b o e => Heap.get?_push_of_some _ (Heap.get?_push_of_some _ e)) ?hS0 ?hR
        case hS0 => exact ⟨[], #[], 0, _, newM (Heap.get?_push_of_some _ hS), Got.zero ks⟩
        case hR =>
          intro s' hm hS' hkp
          obtain ⟨h', g2, d', tk', os'⟩ := s'
          have eg : g2 = s.gens := hm.gens
          have ed : d' = s.drawn := hm.drawn
          have eo : os' = s.os := hm.os
          subst eg; subst ed; subst eo
          show wpAny _ _ _ _ _ _
          refine wpAny_pure ?_
          show wpAny _ _ (ret Value.none) _ _ _
          rw [hisz] at hS'
          exact wpAny_pure ⟨rfl, h', tk', rfl, hS', hkp⟩
      · cases r₂ with
        | error e => exact hr₂
        | ok fl₂ =>
          cases fl₂ with
          | ret r =>
            obtain ⟨rfl, h', tk, rfl, hS', hk'⟩ := hr₂
            repeat (any_goals (first | assumption | wp_step))
            exact h _ _ hS' hk'
          | _ => exact hr₂.elim
    | _ => exact hr.elim
end
end Li

/-! set(a list of tuples) as a call, up to 299 items -/
namespace Li
open PySem PySem.Spec PyProof.Rows L2
/-- the set at a, whatever its table; its tuples are told elsewhere -/
def SetM0 (P : Program) (w : World) (h : Heap) (a : Addr) (L : List (Addr × List Int)) : Prop :=
  ∃ es ep t, (∃ o, h.get? a = some o ∧ o.ExactSet ∧ o.data = .set es ep t) ∧ es.toList = rowsOf P w L ∧ TabM t (L.map fun p => thash P w p.2) ∧ (L.map (·.2)).Nodup ∧ t.plain = true ∧
    (w.params.followText "set-order" = true ∨ t.led = true) ∧ L.length * 5 < t.mask * 3 ∧ L.length < 300
def SetMO (P : Program) (w : World) (a : Addr) (L : List (Addr × List Int)) : HO := .ext fun h => SetM0 P w h a L
variable {P : Program} {w : World} {h : Heap} {a : Addr} {L : List (Addr × List Int)}
theorem SetM.forget {es : Array (Int × Value)} {ep : Nat} {t : SetTable} (R : SetM P w h a L es ep t) : SetM0 P w h a L :=
  ⟨es, ep, t, R.ob, R.rows, R.tab, R.nd, R.plain, R.led, R.room, R.few⟩
theorem SetM0.whole (R : SetM0 P w h a L) (ht : ∀ p ∈ L, IsT P w h p.2 p.1) : ∃ es ep t, SetM P w h a L es ep t := by
  obtain ⟨es, ep, t, h1, h2, h3, h4, h5, h6, h7, h8⟩ := R
  exact ⟨es, ep, t, h1, h2, h3, h4, ht, h5, h6, h7, h8⟩
theorem setMO_new {H : Hp} (R : SetM0 P w h a L) : ObjOk P w H h a (SetMO P w a L) := by
  have ⟨_, _, _, ⟨o, ho, _⟩, _⟩ := R
  refine ⟨R, ⟨o, ho⟩, fun h1 h2 p k => ?_⟩
  have ⟨es', ep', t', ⟨o', ho', r'⟩, q'⟩ := (show SetM0 P w h1 a L from p)
  exact ⟨es', ep', t', ⟨o', k o' ho', r'⟩, q'⟩
section
variable {X : Cx}
def rSetM (K : PySem.W.Frag) (P : Program) (w : World) : List V → Hp → VK → Prop := fun xs H Q => ∃ (l : Addr) (ks : List (Addr × List Int)), xs = [V.ref l] ∧ SqL K H l (ks.map fun p => V.ref p.1) ∧ (∀ p ∈ ks, SqT K H p.1 (p.2.map V.int)) ∧ ks.length < 300 ∧
  ∀ a L, H a = none → (∀ p ∈ L, p ∈ ks) → (∀ p ∈ ks, p.2 ∈ L.map (·.2)) → Q (.ref a) (upd H a (SetMO P w a L))
theorem cr_setM (hc : X.calm = true) (hu : X.A.units + 64 < cLine) : CallR X (.type "set") (rSetM X.K X.prog X.w) := by
  intro pins s σ H xs us Q I r h
  obtain ⟨l, ks, rfl, hl, hk, hf, q⟩ := h
  rw [Vals.ref1 r]
  obtain ⟨its, rv, pl, hz⟩ := I.list hl
  refine setM (P := X.prog) (w := X.w) ks (I.ok.hd hc) pl.isList (by simpa using refs_of_vals rv) (fun p hp => I.isT (hk p hp)) hf (by omega) fun h' tk r k => ?_
  obtain ⟨L, es, ep, t, R, g⟩ := r
  exact ⟨.ref s.heap.objs.size, _, I.laid (t' := tk) k (Nat.le_refl _) (setMO_new R.forget), rfl, q _ L (I.hok.fresh (Nat.le_refl _)) (fun p hp => List.mem_of_mem_take (g.sub p hp)) fun p hp => g.all p (by rw [List.take_length]; exact hp)⟩
end
end Li

/-! sorted(set(..)) of tuples of ints -/
namespace Li
open PySem PySem.Spec PyProof.Rows L2 HT
theorem perm_map_ex {α β : Type} {f : α → β} {l1 l2 : List β} (p : l1.Perm l2) : ∀ L : List α, l2 = L.map f → ∃ L' : List α, L'.Perm L ∧ l1 = L'.map f := by
  induction p with
  | nil => exact fun L e => ⟨L, List.Perm.refl _, e⟩
  | cons x _ ih =>
    intro L e
    cases L with
    | nil => cases e
    | cons q L =>
      rw [List.map_cons] at e
      injection e with e1 e2
      obtain ⟨L', h1, h2⟩ := ih L e2
      exact ⟨q :: L', h1.cons q, by rw [List.map_cons, e1, h2]⟩
  | swap x y l =>
    intro L e
    match L, e with
    | q :: r :: L, e =>
      rw [List.map_cons, List.map_cons] at e
      injection e with e1 e2
      injection e2 with e2 e3
      exact ⟨r :: q :: L, List.Perm.swap _ _ _, by rw [List.map_cons, List.map_cons, e1, e2, e3]⟩
  | trans _ _ ih1 ih2 =>
    intro L e
    obtain ⟨L1, h1, h2⟩ := ih2 L e
    obtain ⟨L2, h3, h4⟩ := ih1 L1 h2
    exact ⟨L2, h3.trans h1, h4⟩
section
variable {X : Cx}
def rSortedL (K : PySem.W.Frag) (P : Program) (w : World) : List V → Hp → VK → Prop := fun vs H Q => ∃ (a : Addr) (L : List (Addr × List Int)), vs = [V.ref a] ∧ H a = some (SetTO P w a L) ∧ (∀ p ∈ L, SqT K H p.1 (p.2.map V.int)) ∧ (∀ p ∈ L, p.2 ≠ []) ∧
  ∀ (L' : List (Addr × List Int)) (p : Addr), L'.Perm L → (L'.map (·.2)).Nodup → SrtL (L'.map (·.2)) → H p = none → Q (.ref p) (upd H p (.lst (L'.map fun q => V.ref q.1)))
theorem cr_sortedL (hc : X.calm = true) (hu : X.A.units + 65 < cLine) : CallR X (.builtin "sorted") (rSortedL X.K X.prog X.w) := by
  intro pins s σ H vs us Q I r h
  obtain ⟨a, L, rfl, ha, hk, hne, q⟩ := h
  have R0 : SetT0 X.prog X.w s.heap a L := (I.hok a _ ha).1
  obtain ⟨es, ep, t, R⟩ := R0.full fun p hp => I.isT (hk p hp)
  rw [Vals.ref1 r]
  obtain ⟨o, ho, hex, hd⟩ := R.ob
  have hfew := R.few
  have hsz := R.size
  refine Calls.call_function_entry kind_sorted plain_sorted entry_sorted (args_sorted1 _) ?_
  unfold Builtin.«sorted»
  refine wpAny_bind (m := checkCount "sorted" 1 1 _) (wpAny_pure ?_)
  refine wpAny_bind (collect_set (A := X.A.in1) (I.ok.hd hc) ⟨o, ho, hex.1, hd⟩ R.fits (by unfold scanBound; omega) R.tab.ris R.led fun s1 vs k1 hz g1 o1 pm => ?_)
  have hes : es.toList.map (·.2) = L.map fun q => Value.ref q.1 := by
    rw [R.rows]
    unfold rowsOf
    rw [List.map_map]
    rfl
  rw [hes] at pm
  have hvl : vs.length < 64 := by rw [pm.length_eq, List.length_map]; exact hfew
  refine wpAny_bind (wpAny_newList ?_ (by rw [sizeLine_eq]; omega))
  have hoL : (s1.heap.push (seqObj "list" vs.toArray 0)).get? s1.heap.objs.size = some (seqObj "list" vs.toArray 0) := Heap.get?_push_size _ rfl
  let Rk : Value → List Int → Prop := fun v l => TIn (s1.heap.push (seqObj "list" vs.toArray 0)) v l ∧ l ≠ []
  have kd := kindT (X := X)
  have tk : ∀ q ∈ L, Rk (.ref q.1) q.2 := fun q hq => by
    obtain ⟨b, items, e, ht, hi⟩ := tupInts_of (P := X.prog) (w := X.w) (isT_keep (R.tup q hq) fun b u e => Heap.get?_push_of_some (seqObj "list" vs.toArray 0) (k1 b u e))
    exact ⟨⟨b, items.toList, e, by simpa using ht, hi⟩, hne q hq⟩
  have ku : ∀ q ∈ L, kyV Rk (.ref q.1) = q.2 := fun q hq => kyV_eq (fun v l m p p' => kd.uniq _ v l m p p') (tk q hq)
  have hS : ∀ v ∈ vs, Rk v (kyV Rk v) := fun v hv => by
    obtain ⟨q, hq, e⟩ := List.mem_map.mp (pm.mem_iff.mp hv)
    rw [← e, ku q hq]
    exact tk q hq
  refine wpAny_bind (wpAny_holding (wpAny_call_entry (s := { s1 with heap := s1.heap.push (seqObj "list" vs.toArray 0) }) slot_list_sort ⟨_, hoL, rfl⟩ entry_list_sort (SrtO.list_sort_ord (NtL.swo_lexL (kyV Rk)) hoL (by rw [sizeLine_eq]; omega) (fun h2 => ?_) fun out hs hb => ⟨_, rfl, ?_⟩) (args_list_sort _)))
  · intro h' keep
    have hkp : ∀ b o, o.cls = .type "tuple" → (s1.heap.push (seqObj "list" vs.toArray 0)).get? b = some o → h'.get? b = some o := fun b o c e => keep b o (fun z => by
      subst z
      have e' : some o = some (seqObj "list" vs.toArray 0) := e.symm.trans hoL
      cases e'
      exact absurd (Value.type.inj c) (by decide)) e
    have hS' : ∀ v ∈ vs, TIn h' v (kyV Rk v) ∧ kyV Rk v ≠ [] := fun v hv => kd.keeps _ _ _ _ hkp (hS v hv)
    obtain ⟨fs, f1, f2, f3⟩ := firsts (h := h') (vs := vs) fun v hv => kindT_first (hS' v hv)
    refine ⟨tuples' true, fun Q E hq => ?_, fun p q hp hq => ?_⟩
    · refine PySem.W.kat_kind (T := .type "int") f1 (by omega) (fun f hm => ?_) (by rfl) ?_
      · obtain ⟨x, t, rfl⟩ := f3 f hm
        exact PySem.W.Looks.now
      · have e : (Value.type "int" != Value.type "tuple") = true := by first | decide +kernel | rfl | decide
        rw [e]
        exact hq
    · exact ti_lt (hS' _ hp).1 (hS' _ hq).1 ⟨rfl, rfl⟩
  · obtain ⟨c, hc'⟩ := sortedHeap_at (vs := vs) (out := out.toArray) hoL
    obtain ⟨L', pL, eo⟩ := perm_map_ex (hb.perm.trans pm) L rfl
    have srt : SrtL (L'.map (·.2)) := by
      rw [eo] at hs
      rw [SrtL, List.pairwise_map]
      refine List.Pairwise.imp_of_mem (fun {x y} hx hy hxy => ?_) (List.pairwise_map.mp hs)
      have hxy : HT.lexLt (kyV Rk (.ref y.1)) (kyV Rk (.ref x.1)) = false := hxy
      rw [ku x (pL.mem_iff.mp hx), ku y (pL.mem_iff.mp hy)] at hxy
      exact hxy
    have keepAll : ∀ b u, s.heap.get? b = some u → (sortedHeap (s1.heap.push (seqObj "list" vs.toArray 0)) s1.heap.objs.size vs out.toArray).get? b = some u := fun b u e => by
      have q := k1 b u e
      have hlt := Heap.lt_size q
      rw [sortedHeap_old (Nat.ne_of_lt hlt) (by rw [Heap.size_push]; exact Nat.lt_succ_of_lt hlt)]
      exact Heap.get?_push_of_some _ q
    have hn : H s1.heap.objs.size = none := I.hok.fresh hz
    have hlen : (L'.map fun q => V.ref q.1).length ≤ sizeLine := by rw [List.length_map, pL.length_eq, sizeLine_eq]; omega
    have hv : Vals (L'.map fun q => V.ref q.1) out := by rw [eo]; exact vals_of_refs L'
    have J : L2.Inv X pins σ (upd H s1.heap.objs.size (.lst (L'.map fun q => V.ref q.1))) { s with heap := sortedHeap (s1.heap.push (seqObj "list" vs.toArray 0)) s1.heap.objs.size vs out.toArray, gens := s1.gens, drawn := s1.drawn, toks := s1.toks } :=
      I.call (ch := []) (Un.laid keepAll hz hn) (I.hok.laid keepAll hz ⟨hlen, out, c, hv, hc'⟩) (by rw [g1]; exact I.bare) (fun _ z => nomatch z)
    refine wpAny_pure ⟨_, rfl, ?_⟩
    have e : ({ s1 with heap := sortedHeap (s1.heap.push (seqObj "list" vs.toArray 0)) s1.heap.objs.size vs out.toArray } : Shared) = { s with heap := sortedHeap (s1.heap.push (seqObj "list" vs.toArray 0)) s1.heap.objs.size vs out.toArray, gens := s1.gens, drawn := s1.drawn, toks := s1.toks } := by
      cases s1
      cases s
      cases o1
      rfl
    show EP X pins σ Q _ { s1 with heap := sortedHeap (s1.heap.push (seqObj "list" vs.toArray 0)) s1.heap.objs.size vs out.toArray }
    rw [e]
    exact ⟨.ref s1.heap.objs.size, _, J, rfl, q L' _ pL ((pL.map (·.2)).nodup_iff.mpr R.nd) srt hn⟩
end
end Li

/-! sorted(a set of up to 299 tuples of ints) -/
namespace Li
open PySem PySem.Spec PyProof.Rows L2 HT
section
variable {X : Cx}
def rSortedM (K : PySem.W.Frag) (P : Program) (w : World) : List V → Hp → VK → Prop := fun vs H Q => ∃ (a : Addr) (L : List (Addr × List Int)), vs = [V.ref a] ∧ H a = some (SetMO P w a L) ∧ (∀ p ∈ L, SqT K H p.1 (p.2.map V.int)) ∧ (∀ p ∈ L, p.2 ≠ []) ∧
  ∀ (L' : List (Addr × List Int)) (p : Addr), L'.Perm L → (L'.map (·.2)).Nodup → SrtL (L'.map (·.2)) → H p = none → Q (.ref p) (upd H p (.lst (L'.map fun q => V.ref q.1)))
theorem cr_sortedM (hc : X.calm = true) (hu : X.A.units + 65 < cLine) : CallR X (.builtin "sorted") (rSortedM X.K X.prog X.w) := by
  intro pins s σ H vs us Q I r h
  obtain ⟨a, L, rfl, ha, hk, hne, q⟩ := h
  have R0 : SetM0 X.prog X.w s.heap a L := (I.hok a _ ha).1
  obtain ⟨es, ep, t, R⟩ := SetM0.whole R0 fun p hp => I.isT (hk p hp)
  rw [Vals.ref1 r]
  obtain ⟨o, ho, hex, hd⟩ := R.ob
  have hfew := R.few
  have hsz := rows_len R.rows
  refine Calls.call_function_entry kind_sorted plain_sorted entry_sorted (args_sorted1 _) ?_
  unfold Builtin.«sorted»
  refine wpAny_bind (m := checkCount "sorted" 1 1 _) (wpAny_pure ?_)
  refine wpAny_bind (collect_set (A := X.A.in1) (I.ok.hd hc) ⟨o, ho, hex.1, hd⟩ R.fits (by unfold scanBound; omega) R.tab.ris R.led fun s1 vs k1 hz g1 o1 pm => ?_)
  have hes : es.toList.map (·.2) = L.map fun q => Value.ref q.1 := by
    rw [R.rows]
    unfold rowsOf
    rw [List.map_map]
    rfl
  rw [hes] at pm
  have hvl : vs.length < 300 := by rw [pm.length_eq, List.length_map]; exact hfew
  refine wpAny_bind (wpAny_newList ?_ (by rw [sizeLine_eq]; omega))
  have hoL : (s1.heap.push (seqObj "list" vs.toArray 0)).get? s1.heap.objs.size = some (seqObj "list" vs.toArray 0) := Heap.get?_push_size _ rfl
  let Rk : Value → List Int → Prop := fun v l => TIn (s1.heap.push (seqObj "list" vs.toArray 0)) v l ∧ l ≠ []
  have kd := kindT (X := X)
  have tk : ∀ q ∈ L, Rk (.ref q.1) q.2 := fun q hq => by
    obtain ⟨b, items, e, ht, hi⟩ := tupInts_of (P := X.prog) (w := X.w) (isT_keep (R.tup q hq) fun b u e => Heap.get?_push_of_some (seqObj "list" vs.toArray 0) (k1 b u e))
    exact ⟨⟨b, items.toList, e, by simpa using ht, hi⟩, hne q hq⟩
  have ku : ∀ q ∈ L, kyV Rk (.ref q.1) = q.2 := fun q hq => kyV_eq (fun v l m p p' => kd.uniq _ v l m p p') (tk q hq)
  have hS : ∀ v ∈ vs, Rk v (kyV Rk v) := fun v hv => by
    obtain ⟨q, hq, e⟩ := List.mem_map.mp (pm.mem_iff.mp hv)
    rw [← e, ku q hq]
    exact tk q hq
  refine wpAny_bind (wpAny_holding (wpAny_call_entry (s := { s1 with heap := s1.heap.push (seqObj "list" vs.toArray 0) }) slot_list_sort ⟨_, hoL, rfl⟩ entry_list_sort (SrtO.list_sort_ord (NtL.swo_lexL (kyV Rk)) hoL (by rw [sizeLine_eq]; omega) (fun h2 => ?_) fun out hs hb => ⟨_, rfl, ?_⟩) (args_list_sort _)))
  · intro h' keep
    have hkp : ∀ b o, o.cls = .type "tuple" → (s1.heap.push (seqObj "list" vs.toArray 0)).get? b = some o → h'.get? b = some o := fun b o c e => keep b o (fun z => by
      subst z
      have e' : some o = some (seqObj "list" vs.toArray 0) := e.symm.trans hoL
      cases e'
      exact absurd (Value.type.inj c) (by decide)) e
    have hS' : ∀ v ∈ vs, TIn h' v (kyV Rk v) ∧ kyV Rk v ≠ [] := fun v hv => kd.keeps _ _ _ _ hkp (hS v hv)
    obtain ⟨fs, f1, f2, f3⟩ := firsts (h := h') (vs := vs) fun v hv => kindT_first (hS' v hv)
    refine ⟨tuples' true, fun Q E hq => ?_, fun p q hp hq => ?_⟩
    · refine PySem.W.kat_kind (T := .type "int") f1 (by omega) (fun f hm => ?_) (by rfl) ?_
      · obtain ⟨x, t, rfl⟩ := f3 f hm
        exact PySem.W.Looks.now
      · have e : (Value.type "int" != Value.type "tuple") = true := by first | decide +kernel | rfl | decide
        rw [e]
        exact hq
    · exact ti_lt (hS' _ hp).1 (hS' _ hq).1 ⟨rfl, rfl⟩
  · obtain ⟨c, hc'⟩ := sortedHeap_at (vs := vs) (out := out.toArray) hoL
    obtain ⟨L', pL, eo⟩ := perm_map_ex (hb.perm.trans pm) L rfl
    have srt : SrtL (L'.map (·.2)) := by
      rw [eo] at hs
      rw [SrtL, List.pairwise_map]
      refine List.Pairwise.imp_of_mem (fun {x y} hx hy hxy => ?_) (List.pairwise_map.mp hs)
      have hxy : HT.lexLt (kyV Rk (.ref y.1)) (kyV Rk (.ref x.1)) = false := hxy
      rw [ku x (pL.mem_iff.mp hx), ku y (pL.mem_iff.mp hy)] at hxy
      exact hxy
    have keepAll : ∀ b u, s.heap.get? b = some u → (sortedHeap (s1.heap.push (seqObj "list" vs.toArray 0)) s1.heap.objs.size vs out.toArray).get? b = some u := fun b u e => by
      have q := k1 b u e
      have hlt := Heap.lt_size q
      rw [sortedHeap_old (Nat.ne_of_lt hlt) (by rw [Heap.size_push]; exact Nat.lt_succ_of_lt hlt)]
      exact Heap.get?_push_of_some _ q
    have hn : H s1.heap.objs.size = none := I.hok.fresh hz
    have hlen : (L'.map fun q => V.ref q.1).length ≤ sizeLine := by rw [List.length_map, pL.length_eq, sizeLine_eq]; omega
    have hv : Vals (L'.map fun q => V.ref q.1) out := by rw [eo]; exact vals_of_refs L'
    have J : L2.Inv X pins σ (upd H s1.heap.objs.size (.lst (L'.map fun q => V.ref q.1))) { s with heap := sortedHeap (s1.heap.push (seqObj "list" vs.toArray 0)) s1.heap.objs.size vs out.toArray, gens := s1.gens, drawn := s1.drawn, toks := s1.toks } :=
      I.call (ch := []) (Un.laid keepAll hz hn) (I.hok.laid keepAll hz ⟨hlen, out, c, hv, hc'⟩) (by rw [g1]; exact I.bare) (fun _ z => nomatch z)
    refine wpAny_pure ⟨_, rfl, ?_⟩
    have e : ({ s1 with heap := sortedHeap (s1.heap.push (seqObj "list" vs.toArray 0)) s1.heap.objs.size vs out.toArray } : Shared) = { s with heap := sortedHeap (s1.heap.push (seqObj "list" vs.toArray 0)) s1.heap.objs.size vs out.toArray, gens := s1.gens, drawn := s1.drawn, toks := s1.toks } := by
      cases s1
      cases s
      cases o1
      rfl
    show EP X pins σ Q _ { s1 with heap := sortedHeap (s1.heap.push (seqObj "list" vs.toArray 0)) s1.heap.objs.size vs out.toArray }
    rw [e]
    exact ⟨.ref s1.heap.objs.size, _, J, rfl, q L' _ pL ((pL.map (·.2)).nodup_iff.mpr R.nd) srt hn⟩
end
end Li

/-! exceptions that leave a comprehension -/
namespace Li
open PySem PySem.Spec L2
open PyProof.Rows hiding St

/-- an exception that a call within X, or a comprehension within X, has let out -/
def XF (X : Cx) (W : WX) (u : Value) (s' : Shared) : Prop :=
  ∃ (L a : Addr) (B : Heap) (sI : Shared) (pins : List (Addr × Obj)) (σ : L2.St) (H : Hp) (cls : Value) (d : Option Addr), X.env.frame = some L ∧ u = .ref a ∧ Inv X pins σ H sI ∧
    (∀ b o, sI.heap.get? b = some o → b ∉ frs X.stack → B.get? b = some o) ∧ sI.heap.UpToSlots s'.heap ∧
    (HandSPX.FlyingZ B X.stack a (L2N.Zn cls d) s'.heap ∨ HandSPX.HeldZ B X.stack a (L2N.Zn cls d) L s'.heap) ∧ H a = none ∧ s'.os = sI.os ∧ AllBare s'.gens ∧ W cls d σ H
structure TkF (X : Cx) (W : WX) : Prop where
  stk : ∃ e0 out L, X.stack = e0 :: out ∧ e0.frame = some L ∧ X.env.frame = some L
  tk : ∀ u s', XF X W u s' → X.xe u s'
theorem tkf_of {X : Cx} {W : WX} (hs : X.stack = X.env :: X.outer) (hf : X.env.frame = some X.env.locals) (t : L2N.Takes X W) : TkF X W :=
  ⟨⟨_, _, _, hs, hf, hf⟩, fun u s' ⟨L, a, B, sI, pins, σ, H, cls, d, hL, e, I, nb, up, sky, na, os, ag, w⟩ => by
    rw [hf] at hL
    cases hL
    exact t u s' ⟨a, B, sI, pins, σ, H, cls, d, e, I, nb, up, .inr sky, na, os, ag, w⟩⟩
section
variable {X : Cx} {pins : List (Addr × Obj)} {σ : L2.St} {H : Hp} {s s' : Shared} {W : WX} {E : XK}
/-- what a call lets out -/
theorem XF.of_call {L : Addr} (hL : X.env.frame = some L) (I : Inv X pins σ H s) (hW : ∀ cls d H', E cls d H' → W cls d σ H') {u : Value} (c : L2N.CX X.prog X.w X.stack H s E u s') : XF X W u s' := by
  obtain ⟨a, B, H', cls, d, rfl, fl, hok, ub, na, os, ag, hE⟩ := c
  obtain ⟨G, g1, g2⟩ := restrict s'.heap fun b => (B.get? b).isSome || decide (b ∈ frs X.stack)
  have st : B.StaysIn s'.heap := fl.1
  have inB : ∀ b o, B.get? b = some o → G.get? b = some o := fun b o e => (g1 b (by simp [e])).trans (st b o e)
  have inF : ∀ b, b ∈ frs X.stack → G.get? b = s'.heap.get? b := fun b hb => g1 b (by simp [hb])
  have out : ∀ b o, G.get? b = some o → s'.heap.get? b = some o ∧ ((B.get? b).isSome = true ∨ b ∈ frs X.stack) := fun b o e => by
    by_cases q : ((B.get? b).isSome || decide (b ∈ frs X.stack)) = true
    · rw [g1 b q] at e
      exact ⟨e, by simpa [Bool.or_eq_true] using q⟩
    · rw [g2 b (by simpa using q)] at e; cases e
  refine ⟨L, a, B, { s with heap := G, gens := s'.gens, drawn := s'.drawn, toks := s'.toks }, pins, σ, H', cls, d, hL, rfl, ?_, fun b o e hb => ?_, Heap.UpToSlots.of_keeps fun b o e => (out b o e).1, .inl fl, na, os, ag, hW _ _ _ hE⟩
  · refine I.call (ch := []) ⟨fun b o e n hb _ => inB b o (ub.keep b o e n hb), fun b o e n hb _ => ?_, fun b o e n _ => ub.free b o e n, fun b o e _ => ?_, ub.tups, ub.frzs, ub.tbls⟩ (hok.kept inB) ag (fun _ z => nomatch z)
    · obtain ⟨sl, q⟩ := ub.slot b o e hb
      exact ⟨sl, by rw [inF b hb]; exact q⟩
    · by_cases hb : b ∈ frs X.stack
      · obtain ⟨sl, q⟩ := ub.slot b o e hb
        exact ⟨_, by rw [inF b hb]; exact q⟩
      · obtain ⟨o', q⟩ := ub.there b o e hb
        exact ⟨o', inB b o' q⟩
  · obtain ⟨e', h⟩ := out b o e
    rcases h with h | h
    · obtain ⟨o', q⟩ := Option.isSome_iff_exists.mp h
      rw [st b o' q] at e'; cases e'
      exact q
    · exact absurd h hb
theorem passF (tk : TkF X W) (σ : L2.St) : PassesAt (L2N.CX X.prog X.w) X σ (WE W σ) := fun _ _ _ e s' I c => by
  obtain ⟨_, _, L, _, _, hL⟩ := tk.stk
  exact tk.tk e s' (XF.of_call hL I (fun _ _ _ h => h) c)
end
theorem note_frame {e : Value} {a b : Env} (h : a.frame = b.frame) : noteFrame e a = noteFrame e b := by
  unfold noteFrame PySem.frameOf
  rw [h]
theorem funFrames_turn {h h' B B' : Heap} {C : Addr} : ∀ {l : List Env}, C ∉ frs l → (∀ b o, b ≠ C → h.get? b = some o → h'.get? b = some o) → (∀ b, B.get? b = none → B'.get? b = none) → h.FunFrames B l → h'.FunFrames B' l
  | [], _, _, _, _ => trivial
  | env :: l, hc, k, n, ⟨h1, ⟨L, o, hf, hn, ho, hd⟩, hr⟩ => by
    have e : frs (env :: l) = L :: frs l := by
      unfold frs
      rw [List.filterMap_cons, hf]
    rw [e] at hc
    exact ⟨h1, ⟨L, o, hf, n _ hn, k L o (fun z => hc (by rw [z]; exact List.mem_cons_self)) ho, hd⟩, funFrames_turn (fun z => hc (List.mem_cons_of_mem _ z)) k n hr⟩

/-! ### the block -/
/-- what stands behind the block's code -/
def endOf (M : Model) (A : Around) (E : Value → Shared → Prop) (use : Option (Value → Sem Unit)) (Q : Value → Shared → Prop) (acc : Value) (ce : Env) (r : Result) (s' : Shared) : Prop :=
  match r with
  | .ok f => compPost M A E use Q acc ce.locals (.ok f) s'
  | .error x => ∃ m, s'.heap.Ns ce.locals m ∧ ∀ h', Heap.SameBut ce.locals s'.heap h' → wpAny M A (passOn "comprehension.variables-let-go" x ce : Sem Value) (fun _ _ => False) E { s' with heap := h' }
theorem comp_any {M : Model} {A : Around} {E : Value → Shared → Prop} {s : Shared} {env : Env} {e : Expr} {scope : Scope} {pos : Pos} {newAcc first : Sem Value} {g : Comprehension} {gs : List Comprehension} {cl : List (Str × Addr)} {use : Option (Value → Sem Unit)}
    {Q : Value → Shared → Prop} (hcl : clausesOf e = g :: gs) (hs : ∀ x, foldedSetIterable g.iter env x = pure x) (hclos : closureFor scope env = pure cl)
    (hkind : scope.kind = .function) (hnames : ∀ x ∈ scope.names, x.2 = .local → scope.names.lookup x.1 = some .local)
    (h : wpAny M A first (fun x s₁ => wpAny M A (pyIter x) (fun it s₂ => wpAny M A newAcc (fun acc s₃ => wpAny M A (newFunctionEnv scope env.globals cl [] env.qual none .none (some env)) (fun cenv s₄ =>
      codeAny M A (.compStart e 0 it acc { cenv with scope := relabel scope env }) (endOf M A E use Q acc { cenv with scope := relabel scope env }) s₄) E s₃) E s₂) E s₁) E s) :
    wpAny M A (comprehension e scope env pos newAcc false first use) Q E s := by
  unfold comprehension
  rw [hclos, hcl]
  refine wpAny_bind (wpAny_mono h (fun x s₁ h₁ => ?_) fun _ _ z => z)
  refine wpAny_bind (wpAny_standAt (wpAny_bind (wpAny_of_eq (hs x) (wpAny_bind (wpAny_holding (wpAny_mono h₁ (fun it s₂ h₂ => ?_) fun _ _ z => z))))))
  refine wpAny_standIf (wpAny_bind (wpAny_mono h₂ (fun acc s₃ h₃ => wpAny_bind (wpAny_pure (wpAny_bind (wpAny_mono h₃ (fun cenv s₄ h₄ => ?_) fun _ _ z => z)))) fun _ _ z => z))
  dsimp only
  have loc : ∀ x ∈ (scope.names.filter fun x => (x.2 == .local || x.2 == .cell) && x.1 != (".0" : Str)).reverse, x.2 = .local → Env.kindOf { cenv with scope := relabel scope env } x.1 = some .local :=
    fun x hx hl => lookup_relabel_local (hnames x (List.mem_filter.mp (List.mem_reverse.mp hx)).1 hl)
  have loc' : ∀ x ∈ (scope.names.filter fun x => (x.2 == .local || x.2 == .cell) && x.1 != (".0" : Str)).reverse.drop 1 ++ (scope.names.filter fun x => (x.2 == .local || x.2 == .cell) && x.1 != (".0" : Str)).reverse.take 1,
      x.2 = .local → Env.kindOf { cenv with scope := relabel scope env } x.1 = some .local := fun x hx hl =>
    (List.mem_append.mp hx).elim (fun z => loc x (List.mem_of_mem_drop z) hl) (fun z => loc x (List.mem_of_mem_take z) hl)
  refine wpAny_holding (wpAny_bind (wpAny_attempt (wpAny_holding (wpAny_run (codeAny_mono h₄ fun r s' hr => ?_)))))
  cases r with
  | error x =>
    obtain ⟨m, hn, hr⟩ := hr
    exact wpAny_bind (wpAny_holding (wpAny_comp_letGo (cenv := { cenv with scope := relabel scope env }) hkind _ s' m loc hn fun h' m' _ hs' => wpAny_mono (hr h' hs') (fun _ _ f => f.elim) fun _ _ y => y))
  | ok f =>
    cases use with
    | none =>
      obtain ⟨m, hn, hr⟩ := hr
      exact wpAny_bind (wpAny_holding (wpAny_comp_letGo (cenv := { cenv with scope := relabel scope env }) hkind _ s' m loc hn fun h' m' _ hs' => wpAny_pure (hr h' hs')))
    | some u =>
      refine wpAny_bind (wpAny_rule (wpAny_bind (wpAny_holding (wpAny_mono hr (fun _ s'' hr' => ?_) fun _ _ z => z))))
      obtain ⟨m, hn, hr'⟩ := hr'
      exact wpAny_bind (wpAny_comp_letGo (cenv := { cenv with scope := relabel scope env }) hkind _ s'' m loc' hn fun h' m' _ hs' => wpAny_pure (hr' h' hs'))
/-- the block's context, with a wish for what leaves it -/
abbrev bx (X : Cx) (s : Shared) (H : Hp) (scope : Scope) (ce : Env) (fp : List Addr) (xe : Value → Shared → Prop) : Cx := Cx.tr (X.blk s H scope ce fp) [] xe
abbrev WB (W : WX) (σ : L2.St) : WX := fun c d _ H => W c d σ H
section
variable {X : Cx} {pins : List (Addr × Obj)} {σ : L2.St} {H3 : Hp} {s3 : Shared} {W : WX} {scope : Scope} {ce : Env} {fp : List Addr} {Qf : Value → Shared → Prop} {use : Option (Value → Sem Unit)} {acc : Value} {xe : Value → Shared → Prop}
theorem tkf_block (tk : TkF X W) (I3 : Inv X pins σ H3 s3) (f3 : ∀ b ∈ fp, FpOk X pins H3 b) (hfr : ce.frame = X.env.frame) (hL : ce.locals = s3.heap.objs.size)
    (hxe : xe = notedBy (model X.prog X.w) X.A ce fun e s' => endOf (model X.prog X.w) X.A X.xe use Qf acc ce (.error e) s') : TkF (bx X s3 H3 scope ce fp xe) (WB W σ) := by
  obtain ⟨⟨e0, out, L, hst, he0, heL⟩, tk⟩ := tk
  refine ⟨⟨e0, out, L, hst, he0, hfr.trans heL⟩, ?_⟩
  rintro u s' ⟨L', a, B, sI, pins', σb, H', cls, d, hL', rfl, Ib, nb, up, sky, na, os, ag, w⟩
  have eL : L' = L := by
    have z : ce.frame = some L' := hL'
    rw [hfr, heL] at z
    cases z; rfl
  subst eL
  show xe (.ref a) s'
  rw [hxe]
  show wpAny _ X.A (noteFrame (.ref a) ce) _ _ s'
  rw [note_frame (hfr.trans (heL.trans he0.symm))]
  have hA : X.A.frames = some (e0 :: out) := by rw [I3.ok.frames, hst]
  have I7 : Inv X pins σ H' sI := I3.call' (ch := fp) Ib.os Ib.base Ib.hok Ib.bare fun b hb => ⟨(f3 b hb).2.2.2.1, (f3 b hb).2.1, (f3 b hb).2.2.2.2.1, (f3 b hb).2.2.2.2.2⟩
  have nC : H' ce.locals = none := Ib.free
  have fC : FpOk X pins H' ce.locals := by
    rw [hL] at nC ⊢
    exact I3.fpOk (Nat.le_refl _) nC
  have cst : ce.locals ∉ frs X.stack := fun z => by
    rcases List.mem_cons.mp (I3.stkSub _ z) with z | z
    · exact fC.2.1 z
    · exact fC.2.2.1 z
  obtain ⟨m, hn, _⟩ := Ib.loc
  have hn : sI.heap.Ns ce.locals m := hn
  obtain ⟨oC, hoC⟩ : ∃ o, B.get? ce.locals = some o := by
    obtain ⟨o, _, _, ho, _⟩ := hn
    exact ⟨o, nb _ o ho cst⟩
  have core : ∀ h1, HandSPX.HeldZ B (e0 :: out) a (L2N.Zn cls d) L' h1 → s'.heap.UpToSlots h1 → endOf (model X.prog X.w) X.A X.xe use Qf acc ce (.error (.ref a)) { s' with heap := h1 } := by
    rintro h1 ⟨b1, b2, b3, oe, vs, T, oT, ts, t1, t2, t3, t4, t5, t6, t7, t8, t9⟩ up1
    have upT := up.trans up1
    refine ⟨m, upT.ns hn, fun h2 sb => ?_⟩
    have hid : ∀ (h : Heap) b o, b ≠ ce.locals → h.get? b = some o → (PySem.W.hideAll h [ce.locals]).get? b = some o := fun h b o hb e => PySem.W.hideAll_get _ e (by simpa using hb)
    have hidn : ∀ (h : Heap) b o, (PySem.W.hideAll h [ce.locals]).get? b = some o → b ≠ ce.locals ∧ h.get? b = some o := fun h b o e =>
      ⟨fun z => (by rw [PySem.W.hideAll_none _ (by rw [z]; exact List.mem_cons_self)] at e; cases e), PySem.W.of_hideAll _ e⟩
    have hin : ∀ b, B.get? b = none → (PySem.W.hideAll B [ce.locals]).get? b = none := fun b e => by
      cases q : (PySem.W.hideAll B [ce.locals]).get? b with
      | none => rfl
      | some o => rw [(hidn _ _ _ q).2] at e; cases e
    have na' : a ≠ ce.locals := fun z => by rw [z, hoC] at b2; cases b2
    have nT : T ≠ ce.locals := fun z => by rw [z, hoC] at t5; cases t5
    have t1' : h2.get? a = some oe := (sb.2 a na').trans t1
    have t7' : h2.get? T = some oT := (sb.2 T nT).trans t7
    have held : HandSPX.HeldZ (PySem.W.hideAll B [ce.locals]) (e0 :: out) a (L2N.Zn cls d) L' h2 := by
      refine ⟨fun b o e => ?_, hin a b2, funFrames_turn (by rw [← hst]; exact cst) (fun b o hb e => (sb.2 b hb).trans e) hin b3, oe, vs, T, oT, ts, t1', t2, t3, t4, hin T t5, t6, t7', t8, t9⟩
      obtain ⟨q1, q2⟩ := hidn _ _ _ e
      exact (sb.2 b q1).trans (b1 b o q2)
    unfold PySem.passOn
    refine wpAny_bind (wpAny_field t1' t3 t4 ?_)
    rw [if_neg (show ¬ ((Value.ref T == Value.none) = true) from by simp)]
    have fin : wpAny (model X.prog X.w) X.A (setFlight (.ref a) ce.frame) (fun _ s4 => wpAny (model X.prog X.w) X.A (throw (.ref a) : Sem Value) (fun _ _ => False) X.xe s4) X.xe { s' with heap := h2 } := by
      rw [hfr, heL]
      refine HandSPX.setFlight_onZ held fun h4 hh4 up4 => wpAny_throw (tk _ _ ?_)
      refine ⟨L', a, PySem.W.hideAll B [ce.locals], { sI with heap := PySem.W.hideAll sI.heap [ce.locals] }, pins, σ, H', cls, d, heL, rfl,
        I7.turned (t' := sI.toks) (fun b o hb e => hid _ b o hb e) fC.1 fC.2.1 fC.2.2.2.1 fC.2.2.2.2.1 fC.2.2.2.2.2, fun b o e hb => ?_, ?_, .inr (by rw [hst]; exact hh4), na, os, ag, w⟩
      · obtain ⟨q1, q2⟩ := hidn _ _ _ e
        exact hid _ b o q1 (nb b o q2 hb)
      · refine Heap.UpToSlots.trans (fun b o e nf => ?_) up4
        obtain ⟨q1, q2⟩ := hidn _ _ _ e
        obtain ⟨sl, q⟩ := upT b o q2 nf
        exact ⟨sl, (sb.2 b q1).trans q⟩
    first
      | exact wpAny_bind (wpAny_pure (wpAny_bind fin))
      | exact wpAny_bind fin
  rcases sky with fl | hd
  · exact PXN.looks_onZ L2N.Zn.steady hA he0 (by rw [← hst]; exact fl) fun h1 hh up1 => core h1 hh up1
  · have hd' : HandSPX.HeldZ B (e0 :: out) a (L2N.Zn cls d) L' s'.heap := by rw [← hst]; exact hd
    exact HandSPX.againZ he0 hd'.2.2.2 (core s'.heap hd' (Heap.UpToSlots.refl _))
end
end Li

/-! comprehensions that let exceptions out -/
namespace Li
open PySem PySem.Spec L2
open PyProof.Rows hiding St

section
variable {X : Cx} {pins : List (Addr × Obj)} {σ : L2.St} {H : Hp} {s s' : Shared} {scope : Scope} {ce : Env} {fp : List Addr} {xe : Value → Shared → Prop} {s3 : Shared} {H3 : Hp}
theorem toBx (I : Inv (X.blk s3 H3 scope ce fp) pins σ H s) (xe : Value → Shared → Prop) : Inv (bx X s3 H3 scope ce fp xe) pins σ H s :=
  ⟨I.ok.toTry _ _, I.os, I.bare, I.base, I.loc, I.cell, I.free, I.freeC, I.pin, I.hok, I.len⟩
theorem ofBx (I : Inv (bx X s3 H3 scope ce fp xe) pins σ H s) : Inv (X.blk s3 H3 scope ce fp) pins σ H s :=
  ⟨I.ok.ofTry, I.os, I.bare, I.base, I.loc, I.cell, I.free, I.freeC, I.pin, I.hok, I.len⟩
end
/-- the comprehension's reading: what the tests and the items ask may look at the slots where it stands -/
def tLcx (wi : TI) (g : TG) (tt : L2.St → TT) (te : L2.St → TE) (vs : List Nat) : TE := fun σ H Q => wi σ H fun J H1 => ∀ D, H1 D = none → ∃ W : Nat → Nat → Hp → Prop, (∃ m, W 0 m (upd H1 D (.lst []))) ∧ ∀ i m H, W i m H →
  (J.stop i H ∧ Q (.ref D) H) ∨ (J.go i H ∧ ∃ Nx : Hp → Prop, (∀ H', Nx H' → ∃ m', m' < m ∧ W (i + 1) m' H') ∧ ∀ x H', J.yld i H x H' → g x (wipe σ vs) H' fun σ2 H2 => wipe σ2 vs = wipe σ vs ∧ tt σ σ2 H2 fun b H3 =>
    if b = true then te σ σ2 H3 fun y H4 => ∃ acc, H4 D = some (.lst acc) ∧ acc.length < sizeLine ∧ Nx (upd H4 D (.lst (acc ++ [y]))) else Nx H3)
section
variable {X : Cx} {W : WX}
/-- what a block's part must do, wherever the comprehension stands -/
def InB (X : Cx) (W : WX) (scope : Scope) (P : Cx → L2.St → Prop) : Prop :=
  ∀ (σ : L2.St) (s : Shared) (H : Hp) (C : Addr) (cl : List (Str × Addr)) (fp : List Addr) (xe : Value → Shared → Prop), TkF (bx X s H scope (compEnvC scope cl C X.env) fp xe) (WB W σ) → P (bx X s H scope (compEnvC scope cl C X.env) fp xe) σ
theorem lcx_core {pins : List (Addr × Obj)} {s : Shared} {σ : L2.St} {H : Hp} {Q : VK} {elt tg iter : Expr} {ifs : List Expr} {scope : Scope} {own : List (Str × Nat)} {pos pos' : Pos} {wi : TI} {g : TG} {tt : L2.St → TT} {te : L2.St → TE} {use : Option (Value → Sem Unit)} {Qf : Value → Shared → Prop}
    (tk : TkF X W) (hc : X.calm = true) (hN : X.N.Nodup) (I : Inv X pins σ H s) (hi : PI X tg iter wi) (ok : BlkOk X.N X.env.scope scope own)
    (hg : ∀ (s : Shared) (H : Hp) (C : Addr) (cl : List (Str × Addr)) (fp : List Addr), PG (X.blk s H scope (compEnvC scope cl C X.env) fp) tg g)
    (ht : InB X W scope fun Y σ => PTs Y ifs (tt σ)) (he : InB X W scope fun Y σ => PE Y elt (te σ)) (hs : ∀ x, foldedSetIterable iter X.env x = pure x)
    (h : tLcx wi g tt te (own.map (·.2)) σ H Q)
    (hRR : ∀ D C s' m H', Inv X pins σ H' s' → Q (.ref D) H' → s'.heap.Ns C m → FpOk X pins H' C → compPost (model X.prog X.w) X.A X.xe use Qf (.ref D) C (.ok .next) s') :
    wpAny (model X.prog X.w) X.A (comprehension (.ListComp elt [⟨tg, iter, ifs, 0⟩] scope pos) scope X.env pos' (newList []) false (eval iter X.env) use) Qf X.xe s := by
  have hfree : ∀ y ∈ scope.names, y.2 = .free → ∃ c, X.env.cells.lookup y.1 = some c := fun y hy e => by
    rcases ok.free y hy e with k | k
    · exact I.ok.has _ (.inl k)
    · exact I.ok.has _ (.inr k)
  refine comp_any (use := use) rfl hs (closure_ok hfree) ok.kind (fun y hy e => by rw [ok.uniq y hy, e])
    (thn (hi.run pins s σ H _ I h) fun xv s1 hx => thn hx fun itv s2 h2 => ?_)
  obtain ⟨it, fp, tn, J, H2, e, I2, T, st2, f2, q⟩ := h2
  subst e
  refine wpAny_newObj_type (newEnv_comp ?_) (by show 0 ≤ sizeLine; decide)
  generalize hD : s2.heap.objs.size = D
  have hDn : H2 D = none := I2.hok.fresh (Nat.le_of_eq hD)
  obtain ⟨Wl, ⟨m0, w0⟩, turn⟩ := q D hDn
  generalize hs3 : ({ s2 with heap := s2.heap.push { cls := .type "list", data := .seq ([] : List Value).toArray } } : Shared) = s3
  have h3 : s3.heap = s2.heap.push { cls := .type "list", data := .seq ([] : List Value).toArray } := by rw [← hs3]
  have I3 : Inv X pins σ (upd H2 D (.lst [])) s3 := by
    rw [← hs3]
    refine I2.laid (t' := s2.toks) (fun b o e => Heap.get?_push_of_some _ e) (Nat.le_of_eq hD) ⟨Nat.zero_le _, [], 0, .nil, ?_⟩
    rw [← hD]
    exact Heap.get?_push_size _ rfl
  have f3 : ∀ b ∈ fp, FpOk X pins (upd H2 D (.lst [])) b ∧ b < s3.heap.objs.size := fun b hb => by
    obtain ⟨o, e, _⟩ := T.obj _ _ st2 b hb
    have hlt := Heap.lt_size e
    refine ⟨⟨?_, (f2 b hb).2⟩, by rw [h3, Heap.size_push]; exact Nat.lt_succ_of_lt hlt⟩
    rw [upd_ne (by rw [← hD]; exact Nat.ne_of_lt hlt)]
    exact (f2 b hb).1
  have st3 : tn 0 s3.heap := T.keep _ _ _ st2 fun b _ o e => by rw [h3]; exact Heap.get?_push_of_some _ e
  have I4 := block_start I3 ok hN f3
  have pg := hg s3 (upd H2 D (.lst [])) s3.heap.objs.size (cellsFrom (s3.heap.objs.size + 1) scope.names (cloFrom X.env.cells scope.names [])) fp
  have pt := ht σ s3 (upd H2 D (.lst [])) s3.heap.objs.size (cellsFrom (s3.heap.objs.size + 1) scope.names (cloFrom X.env.cells scope.names [])) fp
  have pe := he σ s3 (upd H2 D (.lst [])) s3.heap.objs.size (cellsFrom (s3.heap.objs.size + 1) scope.names (cloFrom X.env.cells scope.names [])) fp
  show codeAny _ _ (.compStart (.ListComp elt [⟨tg, iter, ifs, 0⟩] scope pos) 0 (.ref it) (.ref D) (compEnvC scope (cellsFrom (s3.heap.objs.size + 1) scope.names (cloFrom X.env.cells scope.names [])) s3.heap.objs.size X.env))
    (endOf (model X.prog X.w) X.A X.xe use Qf (.ref D) (compEnvC scope (cellsFrom (s3.heap.objs.size + 1) scope.names (cloFrom X.env.cells scope.names [])) s3.heap.objs.size X.env)) { s3 with heap := pushCells (s3.heap.push { cls := .type "dict", data := .dict #[] }) scope.names }
  have nfp : ∀ b ∈ fp, (upd H2 D (.lst [])) b = none := fun b hb => (f3 b hb).1.1
  generalize hce : compEnvC scope (cellsFrom (s3.heap.objs.size + 1) scope.names (cloFrom X.env.cells scope.names [])) s3.heap.objs.size X.env = ce at I4 pg pt pe ⊢
  have cL : ce.locals = s3.heap.objs.size := by subst hce; rfl
  have cF : ce.frame = X.env.frame := by subst hce; rfl
  generalize hH3 : upd H2 D (.lst []) = H3 at I3 I4 pg pt pe w0 nfp f3
  generalize hs4 : ({ s3 with heap := pushCells (s3.heap.push { cls := .type "dict", data := .dict #[] }) scope.names } : Shared) = s4 at I4 ⊢
  have st4 : tn 0 s4.heap := T.keep _ _ _ st3 fun b _ o e => by rw [← hs4]; exact pushCells_keeps _ _ _ _ (Heap.get?_push_of_some _ e)
  have stat : ∀ {σ' : L2.St} {H' : Hp} {s' : Shared}, Inv (X.blk s3 H3 scope ce fp) [] σ' H' s' → (∀ b ∈ fp, H' b = none) → ∀ b ∈ fp, FpOk (X.blk s3 H3 scope ce fp) [] H' b := fun {σ' H' s'} I' hn b hb =>
    ⟨hn b hb, (I'.ok.exf b hb).1, I'.ok.exfs b hb, .inl hb, fun x c e => (I'.ok.exf b hb).2 x c e, fun p hp => absurd (show p ∈ ([] : List (Addr × Obj)) ++ [] from hp) (by simp)⟩
  have tkb := tkf_block (scope := scope) (acc := .ref D) (Qf := Qf) (use := use) tk I3 (fun b hb => (f3 b hb).1) cF cL rfl
  have pt := pt _ tkb
  have pe := pe _ tkb
  have loop : codeAny (model X.prog X.w) X.A (.compLoop (.ListComp elt [⟨tg, iter, ifs, 0⟩] scope pos) 0 (.ref it) (.ref D) ce) (endOf (model X.prog X.w) X.A X.xe use Qf (.ref D) ce) s4 := by
    refine compLoop_any (fun n s' => ∃ i H', Inv (X.blk s3 H3 scope ce fp) [] (wipe σ (own.map (·.2))) H' s' ∧ tn i s'.heap ∧ (∀ b ∈ fp, H' b = none) ∧ Wl i n H') ?_ m0 ⟨0, H3, I4, st4, nfp, w0⟩
    rintro n s5 ⟨i, H5, I5, st5, n5, w5⟩
    rcases turn i n H5 w5 with ⟨stop, qq⟩ | ⟨go, Nx, hNx, step⟩
    · have td := T.done (X.blk s3 H3 scope ce fp) rfl rfl rfl hc i [] s5 _ H5 (fun _ _ => False) I5 (stat I5 n5) st5 stop
      refine thnF td fun r s6 ⟨hr, I6⟩ => ?_
      subst hr
      have I7 : Inv X pins σ H5 s6 := I3.call' (ch := fp) I6.os I6.base I6.hok I6.bare fun b hb => ⟨(f3 b hb).1.2.2.2.1, (f3 b hb).1.2.1, (f3 b hb).1.2.2.2.2.1, (f3 b hb).1.2.2.2.2.2⟩
      have nC : H5 ce.locals = none := I6.free
      obtain ⟨m, hn, _⟩ := I6.loc
      have hn : s6.heap.Ns ce.locals m := hn
      refine hRR D ce.locals s6 m H5 I7 qq hn ?_
      rw [cL] at nC ⊢
      exact I3.fpOk (Nat.le_refl _) nC
    · have ti := T.item (X.blk s3 H3 scope ce fp) rfl rfl rfl hc i [] s5 _ H5 (fun _ _ => False) I5 (stat I5 n5) st5 go
      refine thnF ti fun r s6 ⟨u, hr, h6⟩ => ?_
      subst hr
      refine thnF h6 fun _ s7 ⟨x, H7, I7, r7, y7, st7, n7⟩ => ?_
      have I7' := I7.pinned (stat I7 n7) (T.obj _ _ st7)
      refine thnF (pg.run _ s7 _ H7 x u _ I7' r7 (step x H7 y7)) fun _ s8 ⟨σ8, H8, I8, hw8, q8⟩ => ?_
      refine thn (pt.run _ s8 σ8 H8 _ (toBx I8 _) q8) fun b s9 ⟨H9, I9, q9⟩ => ?_
      have fin : ∀ {s' : Shared} {H' : Hp}, Inv (X.blk s3 H3 scope ce fp) ([] ++ pinsAt fp s7.heap) σ8 H' s' → Nx H' → ∃ m, m < n ∧ ∃ i H', Inv (X.blk s3 H3 scope ce fp) [] (wipe σ (own.map (·.2))) H' s' ∧ tn i s'.heap ∧ (∀ b ∈ fp, H' b = none) ∧ Wl i m H' := fun {s' H'} I' nx => by
        obtain ⟨m', hm, w'⟩ := hNx H' nx
        have pin' : ∀ b ∈ fp, ∀ o, s7.heap.get? b = some o → s'.heap.get? b = some o ∧ H' b = none := fun b hb o e =>
          let z := I'.pin (b, o) (List.mem_append_right _ (List.mem_append_right _ (mem_pinsAt hb e)))
          ⟨z.1, z.2.1⟩
        have hl : (wipe σ (own.map (·.2))).length = σ8.length := by rw [← hw8, wipe_length]
        refine ⟨m', hm, i + 1, H', (I'.unpinned (pins := [])).weak hl (fun j v e => ?_), T.keep _ _ _ st7 fun b hb o e => (pin' b hb o e).1, fun b hb => ?_, w'⟩
        · rw [← hw8] at e
          exact (wipe_some e).1
        · obtain ⟨o, e, _⟩ := T.obj _ _ st7 b hb
          exact (pin' b hb o e).2
      cases b with
      | false =>
        simp only [Bool.false_eq_true, if_false] at q9 ⊢
        exact fin (ofBx I9) q9
      | true =>
        simp only [if_true] at q9 ⊢
        refine thn (pe.run _ s9 σ8 H9 _ I9 q9) fun z s10 ⟨yv, H10, I10, r10, acc, hD10, hz10, nx⟩ => ?_
        exact app_ok (X := X.blk s3 H3 scope ce fp) (ofBx I10) hD10 hz10 r10 fun s11 I11 => fin I11 nx
  exact codeAny_compStart_list loop (T.self X.A 0 _ _ _ st4 loop)
/-- as a value -/
theorem pe_lcx {elt tg iter : Expr} {ifs : List Expr} {scope : Scope} {own : List (Str × Nat)} {pos : Pos} {wi : TI} {g : TG} {tt : L2.St → TT} {te : L2.St → TE} (tk : TkF X W) (hc : X.calm = true) (hN : X.N.Nodup) (hi : PI X tg iter wi) (ok : BlkOk X.N X.env.scope scope own)
    (hg : ∀ (s : Shared) (H : Hp) (C : Addr) (cl : List (Str × Addr)) (fp : List Addr), PG (X.blk s H scope (compEnvC scope cl C X.env) fp) tg g)
    (ht : InB X W scope fun Y σ => PTs Y ifs (tt σ)) (he : InB X W scope fun Y σ => PE Y elt (te σ)) (hs : ∀ x, foldedSetIterable iter X.env x = pure x := by intro _; rfl) :
    PE X (.ListComp elt [⟨tg, iter, ifs, 0⟩] scope pos) (tLcx wi g tt te (own.map (·.2))) := by
  refine ⟨fun pins s σ H Q I h => ?_⟩
  rw [eval_ListComp]
  refine lcx_core tk hc hN I hi ok hg ht he hs h fun D C s' m H' I' q hn f => ⟨m, hn, fun h'' sb => ?_⟩
  obtain ⟨f0, f1, f2, f3, f4, f5⟩ := f
  exact ⟨.ref D, H', I'.turned (t' := s'.toks) (fun b o hb e => (sb.2 b hb).trans e) f0 f1 f3 f4 f5, rfl, q⟩
/-- name = [..] on one line, the name a local -/
theorem ps_setLcx {i : Nat} {y : Str} {py : Pos} {elt tg iter : Expr} {ifs : List Expr} {scope : Scope} {own : List (Str × Nat)} {pos spos : Pos} {wi : TI} {g : TG} {tt : L2.St → TT} {te : L2.St → TE} (tk : TkF X W) (hc : X.calm = true) (hN : X.N.Nodup) (hy : X.N[i]? = some y) (hyl : X.env.scope.names.lookup y = some .local)
    (hsw : swapsWith (.ListComp elt [⟨tg, iter, ifs, 0⟩] scope pos) (some (.Name y py)) spos.line X.env = pure true) (hi : PI X tg iter wi) (ok : BlkOk X.N X.env.scope scope own)
    (hg : ∀ (s : Shared) (H : Hp) (C : Addr) (cl : List (Str × Addr)) (fp : List Addr), PG (X.blk s H scope (compEnvC scope cl C X.env) fp) tg g)
    (ht : InB X W scope fun Y σ => PTs Y ifs (tt σ)) (he : InB X W scope fun Y σ => PE Y elt (te σ)) (hs : ∀ x, foldedSetIterable iter X.env x = pure x := by intro _; rfl) :
    PS X (.Assign [.Name y py] (.ListComp elt [⟨tg, iter, ifs, 0⟩] scope pos) spos) (tAsg (tLcx wi g tt te (own.map (·.2))) (gName i)) := by
  refine ⟨fun pins s σ H D I h => ?_⟩
  rw [exec_Assign_Name_used _ _ _ _ hsw]
  refine wpAny_bind (wpAny_standAt (wpAny_bind ?_))
  show wpAny _ X.A (do let _ ← comprehension (.ListComp elt [⟨tg, iter, ifs, 0⟩] scope pos) scope X.env (firstIterPos [⟨tg, iter, ifs, 0⟩] pos) (newList []) false (eval iter X.env) (some (assign (.Name y py) X.env))) _ _ s
  have h : tLcx wi g tt te (own.map (·.2)) σ H (fun x H1 => gName i x σ H1 D.nx) := h
  refine wpAny_bind (thn (lcx_core (Qf := fun _ s' => SP X pins D .next s') tk hc hN I hi ok hg ht he hs h fun L C s' m H' I' q hn f => ?_) fun _ s' hq => wpAny_pure (wpAny_pure hq))
  show wpAny _ _ (assign (.Name y py) X.env (.ref L)) _ _ _
  refine wpAny_assign_Name (store_ok2 (v := V.ref L) I' hN hy (.inl hyl) rfl (fun s2 I2 ⟨a, sb, ha⟩ => ?_) (.inr hyl))
  obtain ⟨f0, f1, f2, f3, f4, f5⟩ := f
  have haC : C ≠ a := by
    rcases ha with z | z
    · rw [z]; exact f1
    · exact fun e => f4 y a z e.symm
  refine ⟨m, hn.sameBut sb haC, fun h3 sb3 => ?_⟩
  exact ⟨_, H', I2.turned (t' := s2.toks) (fun b o hb e => (sb3.2 b hb).trans e) f0 f1 f3 f4 f5, q⟩
end
end Li

/-! expressions are sound -/
namespace Li
open PySem PySem.Spec L2
open PyProof.Rows hiding St


/-! ### what leaks -/
def dropVar : Ex → List Nat → List Nat
  | .var _, _ => []
  | _, l => l
mutual
def al : Ex → List Nat
  | .var v => [v.i]
  | .con _ _ _ => []
  | .glob _ _ _ => []
  | .bin _ a b _ => dropVar a (al a) ++ dropVar b (al b)
  | .neg a _ => dropVar a (al a)
  | .nott a _ => dropVar a (al a)
  | .cmp _ a b _ => dropVar a (al a) ++ dropVar b (al b)
  | .isn _ a _ _ _ => dropVar a (al a)
  | .ist a _ _ _ => dropVar a (al a)
  | .chain _ _ a b c _ => dropVar a (al a) ++ (dropVar b (al b) ++ dropVar c (al c))
  | .bool _ a es _ => []
  | .ife _ a b _ => al a ++ al b
  | .tup es _ _ => als es
  | .lst es _ => als es
  | .call _ _ a es _ _ => al a ++ als es
  | .call0 _ _ _ _ => []
  | .sel _ _ _ _ a es _ => al a ++ als es
  | .dget _ _ _ _ b _ => al b
  | .dict _ _ => []
  | .dix o i _ => []
  | .blt _ a es _ _ => dropVar a (al a) ++ als es
  | .isi a _ _ _ _ => dropVar a (al a)
  | .isi2 a _ _ _ _ _ _ => dropVar a (al a)
  | .srtset _ a _ _ _ _ => dropVar a (al a)
  | .ix a b _ => dropVar a (al a) ++ dropVar b (al b)
  | .slc a _ _ _ _ => dropVar a (al a)
  | .rev a _ _ _ _ _ => dropVar a (al a)
  | .meth _ o a _ _ => dropVar o (al o) ++ dropVar a (al a)
  | .lrng _ _ _ _ _ _ _ => []
  | .mxd _ a d _ _ _ => dropVar a (al a) ++ dropVar d (al d)
  | .join _ _ _ _ _ _ => []
  | .split _ _ _ _ => []
  | .step _ _ _ _ _ _ => []
  | .lc elt _ it _ _ _ _ => al elt ++ ali it
def als : Exs → List Nat
  | .nil => []
  | .cons a es => al a ++ als es
def ali : Itx → List Nat
  | .seq e => dropVar e (al e)
  | .rng1 _ _ _ => []
  | .rng2 _ _ _ _ => []
  | .rngd _ _ _ _ _ _ _ => []
  | .enum e _ _ => dropVar e (al e)
  | .zip a b _ _ => dropVar a (al a) ++ dropVar b (al b)
  | .zip3 a b c _ _ => dropVar a (al a) ++ (dropVar b (al b) ++ dropVar c (al c))
end
abbrev alI (e : Ex) : List Nat := dropVar e (al e)
def AV (avC : Av) (ow : Nat → Option Addr) : Av := fun a => avC a ∨ ∃ i, ow i = some a
def drp (ow : Nat → Option Addr) (l : List Nat) : Nat → Option Addr := fun i => if i ∈ l then none else ow i
theorem AV.sub {avC : Av} {ow : Nat → Option Addr} {l m : List Nat} (h : ∀ i, i ∈ m → i ∈ l) : ∀ a, AV avC (drp ow l) a → AV avC (drp ow m) a := fun a z => by
  rcases z with z | ⟨i, z⟩
  · exact .inl z
  · refine .inr ⟨i, ?_⟩
    unfold drp at z ⊢
    by_cases hl : i ∈ l
    · rw [if_pos hl] at z; cases z
    · rw [if_neg hl] at z; rw [if_neg (fun q => hl (h i q))]; exact z
theorem AV.all {avC : Av} {ow : Nat → Option Addr} {l : List Nat} : ∀ a, AV avC (drp ow l) a → AV avC ow a := fun a z => by
  rcases z with z | ⟨i, z⟩
  · exact .inl z
  · refine .inr ⟨i, ?_⟩
    unfold drp at z
    by_cases hl : i ∈ l
    · rw [if_pos hl] at z; cases z
    · rw [if_neg hl] at z; exact z
theorem drp_nil (ow : Nat → Option Addr) : drp ow [] = ow := by funext i; simp [drp]
theorem alI_sub (e : Ex) : ∀ i, i ∈ alI e → i ∈ al e := fun i h => by
  cases e <;> first | exact h | (simp [alI, dropVar] at h)

/-- the frame as an expression needs it -/
structure ER (K : PySem.W.Frag) (avC : Av) (ow : Nat → Option Addr) (env : En) (σ : L2.St) (H : Hp) : Prop where
  dom : Dom (AV avC ow) H
  len : env.length = σ.length
  slot : ∀ (i : Nat) (d : D), env[i]? = some (some d) → ∃ v, σ[i]? = some (some v) ∧ RepW K (AV avC ow) H v d ∧ Rep K (AV avC (drp ow [i])) H v d
theorem ER.same {K : PySem.W.Frag} {avC : Av} {ow : Nat → Option Addr} {env : En} {σ : L2.St} {H H' : Hp} (e : ER K avC ow env σ H) (s : Same H H') : ER K avC ow env σ H' :=
  ⟨e.dom.same s, e.len, fun i d h => by
    obtain ⟨v, h1, h2, h3⟩ := e.slot i d h
    exact ⟨v, h1, h2.same s, h3.ext s.ext⟩⟩
theorem ER.dom' {K : PySem.W.Frag} {avC : Av} {ow : Nat → Option Addr} {env : En} {σ : L2.St} {H : Hp} (e : ER K avC ow env σ H) (l : List Nat) : Dom (AV avC (drp ow l)) H := fun a h => e.dom a (AV.all a h)

/-- what is wanted of an outcome -/
def OUT {α : Type} (ec : Nat → Value) (W : WX) (σ : L2.St) (H : Hp) (r : Res α) (k : α → Prop) : Prop := match r with
  | .ok a => k a
  | .ex c => ∀ H', Same H H' → W (ec c) none σ H'
  | .no => False
section
variable {α β : Type} {ec : Nat → Value} {W : WX} {σ : L2.St} {H H1 : Hp} {r : Res α}
theorem OUT.bind {f : α → Res β} {k : β → Prop} (h : OUT ec W σ H (r.bind f) k) : OUT ec W σ H r fun a => OUT ec W σ H (f a) k := by
  cases r with
  | ok a => exact h
  | ex c => exact h
  | no => exact h
theorem OUT.mono {k k' : α → Prop} (h : OUT ec W σ H r k) (g : ∀ a, k a → k' a) : OUT ec W σ H r k' := by
  cases r with
  | ok a => exact g a h
  | ex c => exact h
  | no => exact h
theorem OUT.same {k : α → Prop} (h : OUT ec W σ H r k) (s : Same H H1) : OUT ec W σ H1 r k := by
  cases r with
  | ok a => exact h
  | ex c => exact fun H' s' => h H' (s.trans s')
  | no => exact h
theorem OUT.asB {r : Res D} {k : Bool → Prop} (h : OUT ec W σ H (asB r) k) : OUT ec W σ H r fun d => ∃ b, d = .bl b ∧ k b := by
  cases r with
  | ok d =>
    cases d with
    | bl b => exact ⟨b, rfl, h⟩
    | _ => exact (show False from h).elim
  | ex c => exact h
  | no => exact h
/-- an operation that raises nothing -/
def NoEx (r : Res α) : Prop := ∀ c, r ≠ .ex c
theorem noex_need {b : Bool} {r : Res D} (h : NoEx r) : NoEx (need b r) := by
  cases b
  · intro c e; cases e
  · exact h
theorem noex_ok {a : α} : NoEx (Res.ok a) := fun c e => by cases e
theorem noex_no : NoEx (Res.no : Res α) := fun c e => by cases e
end

/-! ### the top of a text -/
/-- the builtin names used -/
def bltNames : List Str := ["len", "list", "tuple", "sorted", "int", "sum", "all", "max", "min", "isinstance", "bool", "str", "set", "range", "enumerate", "zip"]
/-- a def's promise by its run -/
def spF (K : PySem.W.Frag) (ec : Nat → Value) (cf : Nat → List D → Res D) (arity n : Nat) : Sp := fun vs H Q E => vs.length = arity ∧ ∃ av ds, Dom av H ∧ Reps K av H vs ds ∧ match cf n ds with
  | .ok d => ∀ v H', Same H H' → Rep K av H' v d → Q v H'
  | .ex c => ∀ H', Same H H' → E (ec c) none H'
  | .no => False
structure Top (P : Program) (w : World) (K : PySem.W.Frag) (mg : Str → Option Value) (base : Heap) (CN : List Str) (C : List D) (T : List Fn) (EN : List Str) (ec : Nat → Value) : Prop where
  blt : ∀ x ∈ bltNames, mg x = none
  con : ∀ (n : Nat) (x : Str) (d : D), CN[n]? = some x → C[n]? = some d → ∃ v u, mg x = some u ∧ RelV v u ∧ ∀ av H, Rep K av H v d
  exc : ∀ (n : Nat) (x : Str), EN[n]? = some x → ∃ c, ec n = .ref c ∧ mg x = some (.ref c) ∧ PySem.W.excIn K c He.veBase "ValueError.__new__" = true ∧ PySem.W.keepIn K (.ref c) = true ∧
    PySem.W.subIn K (.ref c) (.type "BaseException") = some true ∧ PySem.W.typeIn K (.ref c) = some (.type "type")
/-- the defs, to depth k -/
def Fns (P : Program) (w : World) (K : PySem.W.Frag) (mg : Str → Option Value) (base : Heap) (T : List Fn) (ec : Nat → Value) (k : Nat) (cf : Nat → List D → Res D) : Prop :=
  ∀ (n : Nat) (F : Fn), T[n]? = some F → ∃ f fd, mg F.nm = some (.ref f) ∧ PySem.W.keepIn K (.ref f) = true ∧ Binds K fd F.ps [] ∧ FnOk P w K mg base (L2N.CX P w) k f fd F.ps (spF K ec cf F.ps.length n)

def isVar : Ex → Bool
  | .var _ => true
  | _ => false
/-! ### names that are as they should be -/
def visB (sc : Scope) (x : Str) : Bool := match sc.names.lookup x with
  | some .local => true
  | some .cell => true
  | some .free => true
  | _ => false
def locB (sc : Scope) (x : Str) : Bool := match sc.names.lookup x with
  | some .local => true
  | some .cell => true
  | _ => false
def glB (sc : Scope) (x : Str) : Bool := match sc.names.lookup x with
  | some .globalImplicit => true
  | _ => false
theorem vis_of {sc : Scope} {x : Str} (h : visB sc x = true) : Vis sc x := by
  unfold visB at h
  split at h
  · exact .inl ‹_›
  · exact .inr (.inl ‹_›)
  · exact .inr (.inr ‹_›)
  · cases h
theorem loc_of {sc : Scope} {x : Str} (h : locB sc x = true) : Loc sc x := by
  unfold locB at h
  split at h
  · exact .inl ‹_›
  · exact .inr ‹_›
  · cases h
theorem gl_of {sc : Scope} {x : Str} (h : glB sc x = true) : sc.names.lookup x = some .globalImplicit := by
  unfold glB at h
  split at h
  · rename_i e; exact e
  · cases h
def nmB (x : Str) : Bool := !(x == ("__debug__" : Str)) && !(x == ("__classdict__" : Str)) && decide (x ≠ "__name__")
def okV (N : List Str) (sc : Scope) (v : Vn) : Bool := decide (N[v.i]? = some v.x) && visB sc v.x && nmB v.x
def okT (N : List Str) (sc : Scope) (v : Vn) : Bool := decide (N[v.i]? = some v.x) && locB sc v.x && nmB v.x
def okTg (N : List Str) (sc : Scope) : Tg → Bool
  | .name v => okT N sc v
  | .tup vs _ _ => vs.all (okT N sc)
/-- no bare call -/
def notC0 : Ex → Bool
  | .call0 _ _ _ _ => false
  | _ => true
theorem attr_notC0 {o : Ex} (h : notC0 o = true) (nm : Str) (env : Env) : attributeBase o.py nm env (eval o.py env) = eval o.py env := by
  cases o with
  | call0 => cases h
  | glob => rfl
  | _ => rfl
/-- enumerate and zip want a tuple of names -/
def needT : Tg → Itx → Bool
  | .name _, .enum _ _ _ => false
  | .name _, .zip _ _ _ _ => false
  | .name _, .zip3 _ _ _ _ _ => false
  | _, _ => true
def tgIx : Tg → List Nat
  | .name v => [v.i]
  | .tup vs _ _ => vs.map (·.i)
def Exs.len : Exs → Nat
  | .nil => 0
  | .cons _ es => es.len + 1
section
variable (CN : List Str) (TN : List (Str × Nat)) (N : List Str)
mutual
def wf : Scope → Ex → Bool
  | sc, .var v => okV N sc v
  | _, .con _ _ _ => true
  | sc, .glob n x _ => decide (CN[n]? = some x) && glB sc x && nmB x
  | sc, .bin _ a b _ => wf sc a && wf sc b
  | sc, .neg a _ => wf sc a
  | sc, .nott a _ => wf sc a
  | sc, .cmp _ a b _ => wf sc a && wf sc b
  | sc, .isn _ a _ _ _ => wf sc a
  | sc, .ist a _ _ _ => wf sc a
  | sc, .chain _ _ a b c _ => wf sc a && wf sc b && wf sc c
  | sc, .bool _ a es _ => wf sc a && wfs sc es
  | sc, .ife c a b _ => wf sc c && wf sc a && wf sc b
  | sc, .tup es _ _ => decide (es.len ≤ 10000) && wfs sc es
  | sc, .lst es _ => decide (es.len ≤ 10000) && wfs sc es
  | sc, .call n f a es _ _ => decide (TN[n]? = some (f, es.len + 1)) && glB sc f && nmB f && wf sc a && wfs sc es
  | sc, .call0 n f _ _ => decide (TN[n]? = some (f, 0)) && glB sc f && nmB f
  | _, .dict ks _ => decide ((ks.map (·.x)).Nodup) && decide (ks.length ≤ 15) && !ks.isEmpty
  | sc, .dix o i _ => wf sc o && wf sc i
  | sc, .dget ks _ pa a b p => decide ((ks.map (·.x)).Nodup) && decide (ks.length ≤ 15) && !ks.isEmpty && (pa.endLine == p.line) && wf sc a && wf sc b
  | sc, .sel fs _ i _ a es _ => fs.all (fun f => decide (TN[f.1]? = some (f.2.1, es.len + 1)) && glB sc f.2.1 && nmB f.2.1) && decide (fs.length ≤ 100) && wf sc i && wf sc a && wfs sc es
  | sc, .blt f a es _ _ => glB sc f.nm && wf sc a && wfs sc es
  | sc, .isi a t _ _ _ => glB sc "isinstance" && glB sc t.nm && wf sc a
  | sc, .isi2 a _ _ _ _ _ _ => glB sc "isinstance" && glB sc "list" && glB sc "tuple" && wf sc a
  | sc, .srtset s a _ _ _ _ => glB sc (if s then "sorted" else "len") && glB sc "set" && wf sc a
  | sc, .ix a b _ => wf sc a && wf sc b
  | sc, .slc a lo hi _ _ => wf sc a && wfo sc lo && wfo sc hi
  | sc, .rev a _ _ _ _ _ => wf sc a
  | sc, .meth _ o a pa p => isVar o && (pa.endLine == p.line) && wf sc o && wf sc a
  | sc, .lrng t a b _ _ _ _ => glB sc (if t then "tuple" else "list") && glB sc "range" && wf sc a && wfo sc b
  | sc, .mxd m a d _ _ _ => glB sc (if m then "max" else "min") && wf sc a && wf sc d
  | sc, .join _ _ _ pa a p => (pa.endLine == p.line) && wf sc a
  | sc, .split o a pa p => notC0 o && (pa.endLine == p.line) && wf sc o && wf sc a
  | sc, .step a lo _ _ _ _ => wf sc a && wfo sc lo
  | sc, .lc elt tg it ifs scope own _ => blkC N sc scope own && okTg N scope tg && needT tg it && (tgIx tg).all (fun i => decide (i ∈ own.map (·.2))) && wf (relS scope sc) elt && wfo (relS scope sc) ifs && wfi sc it
def wfs : Scope → Exs → Bool
  | _, .nil => true
  | sc, .cons a es => wf sc a && wfs sc es
def wfo : Scope → Exo → Bool
  | _, .none => true
  | sc, .some a => wf sc a
def wfi : Scope → Itx → Bool
  | sc, .seq e => wf sc e
  | sc, .rng1 a _ _ => glB sc "range" && wf sc a
  | sc, .rng2 a b _ _ => glB sc "range" && wf sc a && wf sc b
  | sc, .rngd a b _ _ _ _ _ => glB sc "range" && wf sc a && wf sc b
  | sc, .enum e _ _ => glB sc "enumerate" && wf sc e
  | sc, .zip a b _ _ => glB sc "zip" && wf sc a && wf sc b
  | sc, .zip3 a b c _ _ => glB sc "zip" && wf sc a && wf sc b && wf sc c
end
end
/-- where one stands -/
structure Good (P : Program) (w : World) (K : PySem.W.Frag) (mg : Str → Option Value) (base : Heap) (N : List Str) (k : Nat) (X : Cx) (sc : Scope) (W : WX) : Prop where
  hP : X.prog = P
  hw : X.w = w
  hK : X.K = K
  hm : X.mg = mg
  hb : X.base = base
  hN : X.N = N
  calm : X.calm = true
  nd : N.Nodup
  hs : X.env.scope = sc
  kind : sc.kind = .function
  room : Room k X.A
  tk : TkF X W
/-- an expression's reading by its run -/
def tE (K : PySem.W.Frag) (ec : Nat → Value) (C : List D) (cf : Nat → List D → Res D) (W : WX) (e : Ex) : TE := fun σ H Q => ∃ avC ow env, ER K avC ow env σ H ∧
  OUT ec W σ H (ev C cf e env) fun d => ∀ v H', Same H H' → RepW K (AV avC (drp ow (alI e))) H' v d → Rep K (AV avC (drp ow (al e))) H' v d → Q v H'
def tT (K : PySem.W.Frag) (ec : Nat → Value) (C : List D) (cf : Nat → List D → Res D) (W : WX) (e : Ex) : TT := fun σ H Q => ∃ avC ow env, ER K avC ow env σ H ∧
  OUT ec W σ H (asB (ev C cf e env)) fun b => ∀ H', Same H H' → Q b H'
def tAs (K : PySem.W.Frag) (ec : Nat → Value) (C : List D) (cf : Nat → List D → Res D) (W : WX) (es : Exs) : TA := fun σ H Q => ∃ avC ow env, ER K avC ow env σ H ∧
  OUT ec W σ H (evs C cf es env) fun ds => ∀ vs H', Same H H' → Reps K (AV avC (drp ow (als es))) H' vs ds → Q vs H'
theorem peImp {X : Cx} {e : Expr} {t t' : TE} (h : PE X e t) (k : ∀ σ H Q, t' σ H Q → t σ H Q) : PE X e t' := ⟨fun pins s σ H Q I q => h.run pins s σ H Q I (k σ H Q q)⟩
theorem ptImp {X : Cx} {e : Expr} {t t' : TT} (h : PT X e t) (k : ∀ σ H Q, t' σ H Q → t σ H Q) : PT X e t' := ⟨fun pins s σ H Q I q => h.run pins s σ H Q I (k σ H Q q)⟩
theorem paImp {X : Cx} {e : List Expr} {t t' : TA} (h : PA X e t) (k : ∀ σ H Q, t' σ H Q → t σ H Q) : PA X e t' := ⟨fun pos pins s σ H Q I q => h.run pos pins s σ H Q I (k σ H Q q)⟩
theorem star_ok (e : Ex) (es : List Expr) (env : Env) : starEach (e.py :: es) env = (false, eval e.py env) :: starEach es env := by
  cases e <;> rfl
theorem star_any (pos : Pos) (env : Env) : ∀ es : Exs, (backTo pos (starEach es.py env)).any (·.1) = false
  | .nil => rfl
  | .cons a es => by
    show (backTo pos (starEach (a.py :: es.py) env)).any (·.1) = false
    rw [star_ok]
    show (false || (backTo pos (starEach es.py env)).any (·.1)) = false
    rw [star_any pos env es]
    rfl
end Li

/-! each form of expression -/
namespace Li
open PySem PySem.Spec L2
open PyProof.Rows hiding St
section
variable {K : PySem.W.Frag} {ec : Nat → Value} {C : List D} {cf : Nat → List D → Res D} {W : WX} {X : Cx}
theorem repW_bl {av : Av} {H : Hp} {v : V} {b : Bool} (r : RepW K av H v (.bl b)) : v = .bl b := by cases r; rfl
theorem tE_of_tT {e : Ex} {σ : L2.St} {H : Hp} {Q : Bool → Hp → Prop} (h : tT K ec C cf W e σ H Q) : tE K ec C cf W e σ H fun x H' => ∃ k, x = .bl k ∧ Q k H' := by
  obtain ⟨avC, ow, env, er, h⟩ := h
  refine ⟨avC, ow, env, er, (OUT.asB h).mono fun d hd v H' s w _ => ?_⟩
  obtain ⟨b, rfl, k⟩ := hd
  exact ⟨b, repW_bl w, k H' s⟩
/-- a test by its value -/
theorem pt_of {e : Ex} (h : PE X e.py (tE K ec C cf W e)) (he : ∀ whole, isTrue e.py X.env whole = (do let v ← whole; standAt e.py.pos; holding [v] (truthy v))) : PT X e.py (tT K ec C cf W e) :=
  ptImp (pt_val h he) fun _ _ _ q => tE_of_tT q
theorem fin_of {e : Ex} {σ : L2.St} {H H2 : Hp} {Q : VK} {avC : Av} {ow : Nat → Option Addr} {r : Res D} (ne : NoEx r) (s : Same H H2) (hv : alI e = al e)
    (h : OUT ec W σ H r fun d => ∀ v H', Same H H' → RepW K (AV avC (drp ow (alI e))) H' v d → Rep K (AV avC (drp ow (al e))) H' v d → Q v H') : OKV K (AV avC (drp ow (al e))) H2 Q r := by
  cases r with
  | ok d => exact fun v H' s' r _ => h v H' (s.trans s') (by rw [hv]; exact r.w) r
  | ex c => exact absurd rfl (ne c)
  | no => exact h
theorem finW_of {e : Ex} {σ : L2.St} {H H2 : Hp} {Q : VK} {avC : Av} {ow : Nat → Option Addr} {r : Res D} (ne : NoEx r) (s : Same H H2) (hv : alI e = al e)
    (h : OUT ec W σ H r fun d => ∀ v H', Same H H' → RepW K (AV avC (drp ow (alI e))) H' v d → Rep K (AV avC (drp ow (al e))) H' v d → Q v H') : OKW K (AV avC (drp ow (al e))) H2 Q r := by
  cases r with
  | ok d => exact fun v H' s' r => h v H' (s.trans s') (by rw [hv]; exact r.w) r
  | ex c => exact absurd rfl (ne c)
  | no => exact h
/-- .. and a list is a new one -/
def tF (K : PySem.W.Frag) (ec : Nat → Value) (C : List D) (cf : Nat → List D → Res D) (W : WX) (e : Ex) : TE := fun σ H Q => ∃ avC ow env, ER K avC ow env σ H ∧
  OUT ec W σ H (ev C cf e env) fun d => ∀ v H', Same H H' → Rep K (AV avC (drp ow (al e))) H' v d → Fr K (AV avC (drp ow (al e))) H H' v d → Q v H'
theorem tF_of {e : Ex} (hv : alI e = al e) (σ : L2.St) (H : Hp) (Q : VK) (h : tE K ec C cf W e σ H Q) : tF K ec C cf W e σ H Q := by
  obtain ⟨avC, ow, env, er, h⟩ := h
  exact ⟨avC, ow, env, er, h.mono fun d hd v H' s r _ => hd v H' s (by rw [hv]; exact r.w) r⟩
theorem Fr.same {av : Av} {H H1 H2 : Hp} {v : V} {d : D} (s : Same H H1) (f : Fr K av H1 H2 v d) : Fr K av H H2 v d := fun ds e => by
  obtain ⟨p, xs, h1, h2, h3, h4⟩ := f ds e
  refine ⟨p, xs, h1, ?_, h3, h4⟩
  cases q : H p with
  | none => rfl
  | some o => rw [s p o q] at h2; cases h2
theorem finF_of {e : Ex} {σ : L2.St} {H H2 : Hp} {Q : VK} {avC : Av} {ow : Nat → Option Addr} {r : Res D} (ne : NoEx r) (s : Same H H2)
    (h : OUT ec W σ H r fun d => ∀ v H', Same H H' → Rep K (AV avC (drp ow (al e))) H' v d → Fr K (AV avC (drp ow (al e))) H H' v d → Q v H') : OKV K (AV avC (drp ow (al e))) H2 Q r := by
  cases r with
  | ok d => exact fun v H' s' r f => h v H' (s.trans s') r (f.same s)
  | ex c => exact absurd rfl (ne c)
  | no => exact h
/-- two operands -/
theorem op2 {g : D → D → Res D} {e a b : Ex} (ne : ∀ x y, NoEx (g x y)) (hev : ∀ env, ev C cf e env = (ev C cf a env).bind fun x => (ev C cf b env).bind fun y => g x y) (hal : al e = alI a ++ alI b) (hv : alI e = al e)
    (σ : L2.St) (H : Hp) (Q : VK) (h : tE K ec C cf W e σ H Q) : tOp (r2 K g) (tE K ec C cf W a) (tE K ec C cf W b) σ H Q := by
  obtain ⟨avC, ow, env, er, h⟩ := h
  rw [hev] at h
  refine ⟨avC, ow, env, er, (OUT.bind h).mono fun da h v1 H1 s1 w1 _ => ?_⟩
  refine ⟨avC, ow, env, er.same s1, ((OUT.bind h).same s1).mono fun db h v2 H2 s2 w2 _ => ?_⟩
  refine ⟨AV avC (drp ow (al e)), da, db, (er.same (s1.trans s2)).dom' _, (w1.same s2).mono (AV.sub fun i hi => ?_), w2.mono (AV.sub fun i hi => ?_), fin_of (ne _ _) (s1.trans s2) hv h⟩
  · rw [hal]; exact List.mem_append_left _ hi
  · rw [hal]; exact List.mem_append_right _ hi
theorem op2w {g : D → D → Res D} {e a b : Ex} (ne : ∀ x y, NoEx (g x y)) (hev : ∀ env, ev C cf e env = (ev C cf a env).bind fun x => (ev C cf b env).bind fun y => g x y) (hal : al e = alI a ++ alI b) (hv : alI e = al e)
    (σ : L2.St) (H : Hp) (Q : VK) (h : tE K ec C cf W e σ H Q) : tOp (r2w K g) (tE K ec C cf W a) (tE K ec C cf W b) σ H Q := by
  obtain ⟨avC, ow, env, er, h⟩ := h
  rw [hev] at h
  refine ⟨avC, ow, env, er, (OUT.bind h).mono fun da h v1 H1 s1 w1 _ => ?_⟩
  refine ⟨avC, ow, env, er.same s1, ((OUT.bind h).same s1).mono fun db h v2 H2 s2 w2 _ => ?_⟩
  refine ⟨AV avC (drp ow (al e)), da, db, (er.same (s1.trans s2)).dom' _, (w1.same s2).mono (AV.sub fun i hi => ?_), w2.mono (AV.sub fun i hi => ?_), finW_of (ne _ _) (s1.trans s2) hv h⟩
  · rw [hal]; exact List.mem_append_left _ hi
  · rw [hal]; exact List.mem_append_right _ hi
theorem op2f {g : D → D → Res D} {e a b : Ex} (ne : ∀ x y, NoEx (g x y)) (hev : ∀ env, ev C cf e env = (ev C cf a env).bind fun x => (ev C cf b env).bind fun y => g x y) (hal : al e = alI a ++ alI b)
    (σ : L2.St) (H : Hp) (Q : VK) (h : tF K ec C cf W e σ H Q) : tOp (r2 K g) (tE K ec C cf W a) (tE K ec C cf W b) σ H Q := by
  obtain ⟨avC, ow, env, er, h⟩ := h
  rw [hev] at h
  refine ⟨avC, ow, env, er, (OUT.bind h).mono fun da h v1 H1 s1 w1 _ => ?_⟩
  refine ⟨avC, ow, env, er.same s1, ((OUT.bind h).same s1).mono fun db h v2 H2 s2 w2 _ => ?_⟩
  refine ⟨AV avC (drp ow (al e)), da, db, (er.same (s1.trans s2)).dom' _, (w1.same s2).mono (AV.sub fun i hi => ?_), w2.mono (AV.sub fun i hi => ?_), finF_of (ne _ _) (s1.trans s2) h⟩
  · rw [hal]; exact List.mem_append_left _ hi
  · rw [hal]; exact List.mem_append_right _ hi
theorem op1f {g : D → Res D} {e a : Ex} (ne : ∀ x, NoEx (g x)) (hev : ∀ env, ev C cf e env = (ev C cf a env).bind g) (hal : al e = alI a)
    (σ : L2.St) (H : Hp) (Q : VK) (h : tF K ec C cf W e σ H Q) : tE K ec C cf W a σ H fun x H1 => r1D K g x H1 Q := by
  obtain ⟨avC, ow, env, er, h⟩ := h
  rw [hev] at h
  refine ⟨avC, ow, env, er, (OUT.bind h).mono fun da h v1 H1 s1 w1 _ => ?_⟩
  refine ⟨AV avC (drp ow (al e)), da, (er.same s1).dom' _, w1.mono (AV.sub fun i hi => ?_), finF_of (ne _) s1 h⟩
  rw [hal]
  exact hi
/-- one operand -/
theorem op1 {g : D → Res D} {e a : Ex} (ne : ∀ x, NoEx (g x)) (hev : ∀ env, ev C cf e env = (ev C cf a env).bind g) (hal : al e = alI a) (hv : alI e = al e)
    (σ : L2.St) (H : Hp) (Q : VK) (h : tE K ec C cf W e σ H Q) : tE K ec C cf W a σ H fun x H1 => r1D K g x H1 Q := by
  obtain ⟨avC, ow, env, er, h⟩ := h
  rw [hev] at h
  refine ⟨avC, ow, env, er, (OUT.bind h).mono fun da h v1 H1 s1 w1 _ => ?_⟩
  refine ⟨AV avC (drp ow (al e)), da, (er.same s1).dom' _, w1.mono (AV.sub fun i hi => ?_), fin_of (ne _) s1 hv h⟩
  rw [hal]
  exact hi
theorem noex_bin (op : Bo) (x y : D) : NoEx (binR op x y) := by
  cases op <;> cases x <;> cases y <;> first | exact noex_no | exact noex_ok | exact noex_need noex_ok
theorem noex_eqR (x y : D) : NoEx (eqR x y) := by
  intro c
  unfold eqR need
  split
  · simp
  · split <;> simp
theorem noex_inR (x y : D) : NoEx (inR x y) := by
  cases y <;> first | exact noex_need noex_ok | (cases x <;> first | exact noex_no | exact noex_need noex_ok)
theorem noex_notR {r : Res D} (h : NoEx r) : NoEx (notR r) := by
  intro c
  cases r with
  | ok d => cases d <;> simp [notR]
  | ex k => exact absurd rfl (h k)
  | no => simp [notR]
theorem noex_ltR (x y : D) : NoEx (ltR x y) := by
  intro c
  cases x <;> cases y <;> simp [ltR, need] <;> split <;> simp
theorem noex_leR (x y : D) : NoEx (leR x y) := by
  intro c
  cases x <;> cases y <;> simp [leR]
theorem noex_cmp (op : Co) (x y : D) : NoEx (cmpR op x y) := by
  cases op with
  | eq => exact noex_eqR x y
  | ne => intro c; show neR x y ≠ _; unfold neR need; split <;> simp
  | lt => exact noex_ltR x y
  | le => exact noex_leR x y
  | gt => exact noex_ltR y x
  | ge => exact noex_leR y x
  | isin => exact noex_inR x y
  | notin => exact noex_notR (noex_inR x y)
theorem noex_neg (x : D) : NoEx (negR x) := by intro c; cases x <;> simp [negR]
theorem noex_ix (x y : D) : NoEx (ixR x y) := by
  cases x <;> cases y <;> first | exact noex_no | (simp only [ixR]; split <;> first | exact noex_no | exact noex_ok | exact noex_need noex_ok)
theorem noex_rev (x : D) : NoEx (revR x) := by cases x <;> first | exact noex_no | exact noex_ok | exact noex_need noex_ok
theorem noex_slc (x : D) (l h : Option Int) : NoEx (slcR x l h) := by cases x <;> first | exact noex_no | exact noex_ok | exact noex_need noex_ok
theorem noex_step (x : D) (l : Option Int) : NoEx (stepR x l) := by cases x <;> first | exact noex_no | exact noex_need noex_ok
theorem noex_join (s : Str) (x : D) : NoEx (joinR s x) := by cases x <;> first | exact noex_no | exact noex_need noex_ok
theorem noex_split (x : Str) (y : D) : NoEx (splitR x y) := by cases y <;> first | exact noex_no | exact noex_need noex_ok
theorem noex_int (x : D) : NoEx (intR x) := by
  cases x with
  | str z =>
    simp only [intR]
    split
    · exact noex_need noex_ok
    · exact noex_no
  | int i => exact noex_ok
  | bl b => exact noex_ok
  | _ => exact noex_no
theorem noex_str (x : D) : NoEx (strR x) := by cases x <;> first | exact noex_no | exact noex_need noex_ok
theorem noex_n (b : Bool) (d : D) (c : Nat) : ¬ need b (.ok d) = .ex c := by cases b <;> simp [need]
theorem noex_blt (f : Bl) (l : List D) : NoEx (bltR f l) := by
  intro c
  unfold bltR
  split
  · rename_i a; cases a <;> simp [lenR, noex_n]
  · rename_i a; cases a <;> simp [listR]
  · rename_i a; cases a <;> simp [tupleR]
  · rename_i a; cases a <;> simp [sortR, noex_n]
  · rename_i a; exact noex_int a c
  · rename_i a; cases a <;> simp [sumR, noex_n]
  · rename_i a; cases a <;> simp [allR, noex_n]
  · rename_i a; exact noex_str a c
  · simp
  · simp
  · simp [noex_n]
  · unfold minLR; split <;> simp [noex_n]
  · simp
theorem noex_isi (t : Ty) (x : D) : NoEx (isiR t x) := by intro c; cases x <;> simp [isiR]
theorem noex_isi2 (x : D) : NoEx (isi2R x) := by intro c; cases x <;> simp [isi2R]
theorem noex_srt (s : Bool) (x : D) : NoEx (if s = true then srtSetR x else lenSetR x) := by
  intro c
  cases s <;> cases x <;> simp [srtSetR, lenSetR, need] <;> split <;> simp
theorem alI_nv {e : Ex} (h : ∀ v, e ≠ .var v) : alI e = al e := by
  cases e with
  | var v => exact absurd rfl (h v)
  | _ => rfl
theorem s_not {a : Ex} {p : Pos} (ha : PE X a.py (tE K ec C cf W a)) (ta : PT X a.py (tT K ec C cf W a)) : PE X (Ex.nott a p).py (tE K ec C cf W (.nott a p)) ∧ PT X (Ex.nott a p).py (tT K ec C cf W (.nott a p)) := by
  constructor
  · refine peImp (pe_not ha) ?_
    rintro σ H Q ⟨avC, ow, env, er, h⟩
    refine ⟨avC, ow, env, er, ?_⟩
    have h : OUT ec W σ H (notR (ev C cf a env)) _ := h
    generalize ev C cf a env = r at h ⊢
    cases r with
    | ok d =>
      cases d with
      | bl b => exact fun v H' s w _ => ⟨b, repW_bl w, h _ H' s (.bl _) (.bl _)⟩
      | _ => exact (show False from h).elim
    | ex c => exact h
    | no => exact h
  · refine ptImp (pt_not ta) ?_
    rintro σ H Q ⟨avC, ow, env, er, h⟩
    refine ⟨avC, ow, env, er, ?_⟩
    have h : OUT ec W σ H (asB (notR (ev C cf a env))) _ := h
    generalize ev C cf a env = r at h ⊢
    cases r with
    | ok d =>
      cases d with
      | bl b => exact h
      | _ => exact (show False from h).elim
    | ex c => exact h
    | no => exact h
theorem ev_bool_cons (an : Bool) (a b : Ex) (es : Exs) (p : Pos) (env : En) : ev C cf (.bool an a (.cons b es) p) env = (asB (ev C cf a env)).bind fun t => if t = an then ev C cf (.bool an b es p) env else .ok (.bl t) := by
  simp only [ev, evB]
theorem ev_bool_nil (an : Bool) (a : Ex) (p : Pos) (env : En) : ev C cf (.bool an a .nil p) env = (asB (ev C cf a env)).bind fun t => .ok (.bl t) := by
  simp only [ev, evB]
/-- the operands of and | or, each as a value and as a test -/
inductive All2 (X : Cx) (K : PySem.W.Frag) (ec : Nat → Value) (C : List D) (cf : Nat → List D → Res D) (W : WX) : Exs → Prop
  | nil : All2 X K ec C cf W .nil
  | cons {a : Ex} {es : Exs} : PE X a.py (tE K ec C cf W a) → PT X a.py (tT K ec C cf W a) → All2 X K ec C cf W es → All2 X K ec C cf W (.cons a es)
theorem s_bool (an : Bool) (p : Pos) : ∀ (es : Exs) (a : Ex), PE X a.py (tE K ec C cf W a) → PT X a.py (tT K ec C cf W a) → All2 X K ec C cf W es →
    PE X (Ex.bool an a es p).py (tE K ec C cf W (.bool an a es p)) ∧ PW X (Ex.bool an a es p).py (tT K ec C cf W (.bool an a es p))
  | .nil, a, ha, ta, _ => by
    have k1 : ∀ σ H Q, tE K ec C cf W (.bool an a .nil p) σ H Q → tE K ec C cf W a σ H Q := by
      rintro σ H Q ⟨avC, ow, env, er, h⟩
      rw [ev_bool_nil] at h
      refine ⟨avC, ow, env, er, ((OUT.bind h).asB).mono fun d hd v H' s w _ => ?_⟩
      obtain ⟨b, rfl, k⟩ := hd
      rw [repW_bl w]
      exact k _ H' s (.bl _) (.bl _)
    have k2 : ∀ σ H Q, tT K ec C cf W (.bool an a .nil p) σ H Q → tT K ec C cf W a σ H Q := by
      rintro σ H Q ⟨avC, ow, env, er, h⟩
      rw [ev_bool_nil] at h
      refine ⟨avC, ow, env, er, ?_⟩
      generalize ev C cf a env = r at h ⊢
      cases r with
      | ok d =>
        cases d with
        | bl b => exact h
        | _ => exact (show False from h).elim
      | ex c => exact h
      | no => exact h
    cases an with
    | true => exact ⟨peImp (pe_one ha) k1, ⟨fun wh pins s σ H Q I h => (pw_and1 ta).run wh pins s σ H Q I (k2 σ H Q h)⟩⟩
    | false => exact ⟨peImp (pe_one ha) k1, ⟨fun wh pins s σ H Q I h => (pw_or1 ta).run wh pins s σ H Q I (k2 σ H Q h)⟩⟩
  | .cons b es, a, ha, ta, .cons hb tb hes => by
    obtain ⟨r1, r2⟩ := s_bool an p es b hb tb hes
    have asb : ∀ (r : Res Bool), True := fun _ => trivial
    cases an with
    | true =>
      refine ⟨peImp (pe_and ha r1) ?_, ⟨fun wh pins s σ H Q I h => (pw_and ta r2).run wh pins s σ H Q I ?_⟩⟩
      · rintro σ H Q ⟨avC, ow, env, er, h⟩
        rw [ev_bool_cons] at h
        refine ⟨avC, ow, env, er, ((OUT.bind h).asB).mono fun d hd v H' s w _ => ?_⟩
        obtain ⟨c, rfl, k⟩ := hd
        refine ⟨c, repW_bl w, ?_⟩
        cases c with
        | true => exact ⟨avC, ow, env, er.same s, (OUT.same k s).mono fun d hd v2 H2 s2 => hd v2 H2 (s.trans s2)⟩
        | false => exact k _ H' s (.bl _) (.bl _)
      · obtain ⟨avC, ow, env, er, h⟩ := h
        rw [ev_bool_cons] at h
        refine ⟨avC, ow, env, er, ?_⟩
        generalize ev C cf a env = r at h ⊢
        cases r with
        | ok d =>
          cases d with
          | bl c =>
            intro H' s
            cases c with
            | true => exact ⟨avC, ow, env, er.same s, (OUT.same h s).mono fun d hd H2 s2 => hd H2 (s.trans s2)⟩
            | false => exact h H' s
          | _ => exact (show False from h).elim
        | ex c => exact h
        | no => exact h
    | false =>
      refine ⟨peImp (pe_or ha r1) ?_, ⟨fun wh pins s σ H Q I h => (pw_or ta r2).run wh pins s σ H Q I ?_⟩⟩
      · rintro σ H Q ⟨avC, ow, env, er, h⟩
        rw [ev_bool_cons] at h
        refine ⟨avC, ow, env, er, ((OUT.bind h).asB).mono fun d hd v H' s w _ => ?_⟩
        obtain ⟨c, rfl, k⟩ := hd
        refine ⟨c, repW_bl w, ?_⟩
        cases c with
        | false => exact ⟨avC, ow, env, er.same s, (OUT.same k s).mono fun d hd v2 H2 s2 => hd v2 H2 (s.trans s2)⟩
        | true => exact k _ H' s (.bl _) (.bl _)
      · obtain ⟨avC, ow, env, er, h⟩ := h
        rw [ev_bool_cons] at h
        refine ⟨avC, ow, env, er, ?_⟩
        generalize ev C cf a env = r at h ⊢
        cases r with
        | ok d =>
          cases d with
          | bl c =>
            intro H' s
            cases c with
            | false => exact ⟨avC, ow, env, er.same s, (OUT.same h s).mono fun d hd H2 s2 => hd H2 (s.trans s2)⟩
            | true => exact h H' s
          | _ => exact (show False from h).elim
        | ex c => exact h
        | no => exact h
/-! is None -/
theorem non_iff {av : Av} {H : Hp} {v : V} {d : D} (w : RepW K av H v d) : decide (v = .non) = (match d with | .non => true | _ => false) := by
  cases w <;> simp
theorem s_isn {pol : Bool} {a : Ex} {k : Nat} {pc p : Pos} (ha : PE X a.py (tE K ec C cf W a)) : PE X (Ex.isn pol a k pc p).py (tE K ec C cf W (.isn pol a k pc p)) ∧ PT X (Ex.isn pol a k pc p).py (tT K ec C cf W (.isn pol a k pc p)) := by
  have key : ∀ σ H Q, tE K ec C cf W (.isn pol a k pc p) σ H Q → tE K ec C cf W a σ H fun x H1 => Q (.bl (if pol = true then decide (x = .non) else !decide (x = .non))) H1 := by
    rintro σ H Q ⟨avC, ow, env, er, h⟩
    simp only [ev] at h
    refine ⟨avC, ow, env, er, (OUT.bind h).mono fun d hd v H' s w _ => ?_⟩
    show Q (.bl (if pol = true then decide (v = .non) else !decide (v = .non))) H'
    rw [non_iff w]
    cases d <;> cases pol <;> exact hd _ H' s (.bl _) (.bl _)
  cases pol with
  | true => exact ⟨peImp (pe_cmp (pc_isN ha)) key, ptImp (pt_cmp (pc_isN ha)) fun σ H Q h => key σ H _ (tE_of_tT h)⟩
  | false => exact ⟨peImp (pe_cmp (pc_notN ha)) key, ptImp (pt_cmp (pc_notN ha)) fun σ H Q h => key σ H _ (tE_of_tT h)⟩
/-! is True -/
theorem isSame_true {x : V} {v : Value} (r : RelV x v) : isSame v (.bool true) = pure (v == .bool true) := by
  cases x with
  | bl b => cases r; rfl
  | non => cases r; rfl
  | int _ => obtain ⟨t, rfl⟩ := r; rfl
  | str _ => obtain ⟨t, rfl⟩ := r; rfl
  | byt _ => obtain ⟨t, rfl⟩ := r; rfl
  | flt _ => obtain ⟨t, rfl⟩ := r; rfl
  | ref _ => cases r; rfl
  | ty _ => cases r; rfl
theorem is_true_gen {M : Model} {A : Around} {E : Value → Shared → Prop} {s : Shared} {x : V} {v : Value} (r : RelV x v) {Q : Value → Shared → Prop} (h : Q (.bool (v == .bool true)) s) : wpAny M A (compareOp .Is v (.bool true)) Q E s := by
  show wpAny M A (do return .bool (← isSame v (.bool true))) Q E s
  rw [isSame_true r]
  exact wpAny_bind (wpAny_pure (wpAny_pure h))
theorem RelV.true_iff {x : V} {v : Value} (r : RelV x v) : (v == Value.bool true) = decide (x = .bl true) := by
  cases x with
  | bl b => cases r; cases b <;> rfl
  | non => cases r; rfl
  | int _ => obtain ⟨t, rfl⟩ := r; rfl
  | str _ => obtain ⟨t, rfl⟩ := r; rfl
  | byt _ => obtain ⟨t, rfl⟩ := r; rfl
  | flt _ => obtain ⟨t, rfl⟩ := r; rfl
  | ref _ => cases r; rfl
  | ty _ => cases r; rfl
def tIsT (ta : TE) : TE := fun σ H Q => ta σ H fun x H1 => Q (.bl (decide (x = .bl true))) H1
theorem pc_isT {a : Expr} {ta : TE} {j : Nat} {pos' : Pos} (ha : PE X a ta) : PC X .Is a (.Constant (.bool true) j pos') (tIsT ta) := by
  refine ⟨fun pins s σ H Q I h => ?_⟩
  refine thn (ha.run pins s σ H _ I h) fun v s1 ⟨x, H1, I1, r1, q1⟩ => ?_
  exact Constant_bool (is_true_gen r1 ⟨.bl _, H1, I1, by rw [Li.RelV.true_iff r1]; rfl, q1⟩)
theorem true_iff' {av : Av} {H : Hp} {v : V} {d : D} (w : RepW K av H v d) : decide (v = .bl true) = istB d := by
  cases w with
  | bl b => cases b <;> rfl
  | _ => simp [istB]
theorem s_ist {a : Ex} {k : Nat} {pc p : Pos} (ha : PE X a.py (tE K ec C cf W a)) : PE X (Ex.ist a k pc p).py (tE K ec C cf W (.ist a k pc p)) ∧ PT X (Ex.ist a k pc p).py (tT K ec C cf W (.ist a k pc p)) := by
  have key : ∀ σ H Q, tE K ec C cf W (.ist a k pc p) σ H Q → tE K ec C cf W a σ H fun x H1 => Q (.bl (decide (x = .bl true))) H1 := by
    rintro σ H Q ⟨avC, ow, env, er, h⟩
    simp only [ev] at h
    refine ⟨avC, ow, env, er, (OUT.bind h).mono fun d hd v H' s w _ => ?_⟩
    show Q (.bl (decide (v = .bl true))) H'
    rw [true_iff' w]
    exact hd _ H' s (.bl _) (.bl _)
  exact ⟨peImp (pe_cmp (pc_isT ha)) key, ptImp (pt_cmp (pc_isT ha)) fun σ H Q h => key σ H _ (tE_of_tT h)⟩
/-! a if c else b -/
theorem s_ife {c a b : Ex} {p : Pos} (tc : PT X c.py (tT K ec C cf W c)) (ha : PE X a.py (tE K ec C cf W a)) (ta : PT X a.py (tT K ec C cf W a)) (hb : PE X b.py (tE K ec C cf W b)) (tb : PT X b.py (tT K ec C cf W b)) :
    PE X (Ex.ife c a b p).py (tE K ec C cf W (.ife c a b p)) ∧ PT X (Ex.ife c a b p).py (tT K ec C cf W (.ife c a b p)) := by
  constructor
  · refine peImp (pe_ifExp tc ha hb) ?_
    rintro σ H Q ⟨avC, ow, env, er, h⟩
    simp only [ev] at h
    refine ⟨avC, ow, env, er, (OUT.bind h).mono fun t ht H' s => ?_⟩
    cases t with
    | true =>
      refine ⟨avC, ow, env, er.same s, (OUT.same ht s).mono fun d hd v2 H2 s2 w r => ?_⟩
      have r' : Rep K (AV avC (drp ow (al a ++ al b))) H2 v2 d := r.mono (AV.sub fun i hi => List.mem_append_left _ hi)
      exact hd v2 H2 (s.trans s2) r'.w r'
    | false =>
      refine ⟨avC, ow, env, er.same s, (OUT.same ht s).mono fun d hd v2 H2 s2 w r => ?_⟩
      have r' : Rep K (AV avC (drp ow (al a ++ al b))) H2 v2 d := r.mono (AV.sub fun i hi => List.mem_append_right _ hi)
      exact hd v2 H2 (s.trans s2) r'.w r'
  · refine ⟨fun pins s σ H Q I h => ?_⟩
    obtain ⟨avC, ow, env, er, h⟩ := h
    simp only [ev] at h
    show wpAny _ _ (isTrue c.py X.env (eval c.py X.env) >>= fun t => if t = true then isTrue a.py X.env (eval a.py X.env) else isTrue b.py X.env (eval b.py X.env)) _ _ s
    have hc : OUT ec W σ H (asB (ev C cf c env)) fun t => OUT ec W σ H (asB (if t = true then ev C cf a env else ev C cf b env)) fun b => ∀ H', Same H H' → Q b H' := by
      generalize ev C cf c env = r at h ⊢
      cases r with
      | ok d =>
        cases d with
        | bl t => exact h
        | _ => exact (show False from h).elim
      | ex c => exact h
      | no => exact h
    refine wpAny_bind (thn (tc.run pins s σ H (fun t H1 => Same H H1 ∧ OUT ec W σ H (asB (if t = true then ev C cf a env else ev C cf b env)) fun b => ∀ H', Same H H' → Q b H') I ⟨avC, ow, env, er, hc.mono fun t ht H' s' => ⟨s', ht⟩⟩) fun t s1 ⟨H1, I1, s', ht⟩ => ?_)
    cases t with
    | true => exact ta.run pins s1 σ H1 Q I1 ⟨avC, ow, env, er.same s', (OUT.same ht s').mono fun b hb H2 s2 => hb H2 (s'.trans s2)⟩
    | false => exact tb.run pins s1 σ H1 Q I1 ⟨avC, ow, env, er.same s', (OUT.same ht s').mono fun b hb H2 s2 => hb H2 (s'.trans s2)⟩

/-! arguments, displays -/
theorem s_nil : PA X Exs.nil.py (tAs K ec C cf W .nil) := by
  refine paImp pa_nil ?_
  rintro σ H Q ⟨avC, ow, env, er, h⟩
  exact h [] H (Same.refl H) .nil
theorem s_cons {a : Ex} {es : Exs} (ha : PE X a.py (tE K ec C cf W a)) (hes : PA X es.py (tAs K ec C cf W es)) : PA X (Exs.cons a es).py (tAs K ec C cf W (.cons a es)) := by
  refine paImp (pa_cons ha hes (star_ok _ _ _)) ?_
  rintro σ H Q ⟨avC, ow, env, er, h⟩
  simp only [evs] at h
  refine ⟨avC, ow, env, er, (OUT.bind h).mono fun d h v H1 s1 w1 r1 => ?_⟩
  refine ⟨avC, ow, env, er.same s1, ((OUT.bind h).same s1).mono fun ds h vs H2 s2 rs => ?_⟩
  refine h (v :: vs) H2 (s1.trans s2) (.cons ((r1.ext s2.ext).mono (AV.sub fun i hi => List.mem_append_left _ hi)) (rs.mono (AV.sub fun i hi => List.mem_append_right _ hi)))
theorem s_tup {es : Exs} {k : Nat} {p : Pos} (hes : PA X es.py (tAs K ec C cf W es)) (hl : ∀ env ds, evs C cf es env = .ok ds → ds.length ≤ sizeLine) : PE X (Ex.tup es k p).py (tE K ec C cf W (.tup es k p)) := by
  refine peImp (pe_tupC hes) ?_
  rintro σ H Q ⟨avC, ow, env, er, h⟩
  simp only [ev] at h
  refine ⟨avC, ow, env, er, ?_⟩
  generalize e : evs C cf es env = r at h ⊢
  cases r with
  | ok ds =>
    intro vs H1 s1 rs
    refine ⟨by rw [rs.length]; exact hl env ds e, fun q o ho hq => ?_⟩
    have r' := Rep.newT ho ((er.same s1).dom' _) hq rs
    exact h _ _ (s1.to hq) r'.w r'
  | ex c => exact h
  | no => exact h
theorem s_lst {es : Exs} {p : Pos} (hes : PA X es.py (tAs K ec C cf W es)) (hl : ∀ env ds, evs C cf es env = .ok ds → ds.length ≤ sizeLine) : PE X (Ex.lst es p).py (tF K ec C cf W (.lst es p)) := by
  refine peImp (pe_lst hes) ?_
  rintro σ H Q ⟨avC, ow, env, er, h⟩
  simp only [ev] at h
  refine ⟨avC, ow, env, er, ?_⟩
  generalize e : evs C cf es env = r at h ⊢
  cases r with
  | ok ds =>
    intro vs H1 s1 rs
    refine ⟨by rw [rs.length]; exact hl env ds e, fun q hq => ?_⟩
    have r' := Rep.newL ((er.same s1).dom' _) hq rs
    exact h _ _ (s1.to hq) r' ((Fr.new hq rs).same s1)
  | ex c => exact h
  | no => exact h
theorem evs_len : ∀ (es : Exs) (env : En) (ds : List D), evs C cf es env = .ok ds → ds.length = es.len
  | .nil, env, ds, h => by simp only [evs] at h; cases h; rfl
  | .cons a es, env, ds, h => by
    simp only [evs] at h
    cases ea : ev C cf a env with
    | ok x =>
      rw [ea] at h
      cases er : evs C cf es env with
      | ok l =>
        simp only [er, Res.bind] at h
        cases h
        rw [List.length_cons, evs_len es env l er]
        rfl
      | ex c => simp [er, Res.bind] at h
      | no => simp [er, Res.bind] at h
    | ex c => simp [ea, Res.bind] at h
    | no => simp [ea, Res.bind] at h
/-! calls -/
theorem s_call {n k : Nat} {x : Str} {f : Addr} {fd : FuncData} {ps : List Str} {a : Ex} {es : Exs} {pf p : Pos} (F : FnOk X.prog X.w X.K X.mg X.base (L2N.CX X.prog X.w) k f fd ps (spF X.K ec cf ps.length n)) (hK : X.K = K) (hr : Room k X.A) (hg : Gl X x) (hm : X.mg x = some (.ref f))
    (hk : PySem.W.keepIn X.K (.ref f) = true) (hb : Binds X.K fd ps []) (tk : TkF X W) (hd : (x == ("__debug__" : Str)) = false) (hlen : es.len + 1 = ps.length) (ha : PE X a.py (tE K ec C cf W a)) (hes : PA X es.py (tAs K ec C cf W es)) :
    PE X (Ex.call n x a es pf p).py (tE K ec C cf W (.call n x a es pf p)) := by
  subst hK
  refine peImp (pe_callS (E := WE W) F hr hg hm hk hb (fun σ => passF tk σ) (pa_cons ha hes (star_ok _ _ _)) hd (star_ok _ _ _) (star_any _ _ _)) ?_
  rintro σ H Q ⟨avC, ow, env, er, h⟩
  simp only [ev] at h
  refine ⟨avC, ow, env, er, (OUT.bind h).mono fun d h v H1 s1 w1 r1 => ?_⟩
  refine ⟨avC, ow, env, er.same s1, ?_⟩
  have h := (OUT.bind h).same s1
  generalize e : evs C cf es env = r at h ⊢
  cases r with
  | ok ds =>
    intro vs H2 s2 rs
    have h : OUT ec W σ H (cf n (d :: ds)) _ := h
    have h := OUT.same h (s1.trans s2)
    have el := evs_len es env ds e
    have rl := rs.length
    refine ⟨by rw [List.length_cons]; omega, AV avC (drp ow (al a ++ als es)), d :: ds, (er.same (s1.trans s2)).dom' _, .cons ((r1.ext s2.ext).mono (AV.sub fun i hi => List.mem_append_left _ hi)) (rs.mono (AV.sub fun i hi => List.mem_append_right _ hi)), ?_⟩
    generalize cf n (d :: ds) = z at h ⊢
    cases z with
    | ok y => exact fun v H' s r => h v H' (s1.trans (s2.trans s)) r.w r
    | ex c => exact h
    | no => exact h
  | ex c => exact h
  | no => exact h
theorem s_blt {f : Bl} {a : Ex} {es : Exs} {pf p : Pos} (hK : X.K = K) (hc : X.calm = true) (hu : X.A.units + 65 < cLine) (hg : Gl X f.nm) (hm : X.mg f.nm = none) (ha : PE X a.py (tE K ec C cf W a)) (hes : PA X es.py (tAs K ec C cf W es)) :
    PE X (Ex.blt f a es pf p).py (tF K ec C cf W (.blt f a es pf p)) := by
  subst hK
  have key : ∀ σ H Q, tF X.K ec C cf W (.blt f a es pf p) σ H Q → tCB (rC X.K (bltR f)) (tCons (tE X.K ec C cf W a) (tAs X.K ec C cf W es)) σ H Q := by
    rintro σ H Q ⟨avC, ow, env, er, h⟩
    simp only [ev] at h
    refine ⟨avC, ow, env, er, (OUT.bind h).mono fun d h v H1 s1 w1 r1 => ?_⟩
    refine ⟨avC, ow, env, er.same s1, ((OUT.bind h).same s1).mono fun ds h vs H2 s2 rs => ?_⟩
    refine ⟨AV avC (drp ow (alI a ++ als es)), d :: ds, (er.same (s1.trans s2)).dom' _, .cons ((w1.same s2).mono (AV.sub fun i hi => List.mem_append_left _ hi)) (rs.mono (AV.sub fun i hi => List.mem_append_right _ hi)).ws, ?_⟩
    exact finF_of (e := .blt f a es pf p) (noex_blt _ _) (s1.trans s2) h
  have pa := pa_cons ha hes (star_ok a es.py X.env)
  have cr := call_bltR hc hu f
  cases f with
  | len => exact peImp (pe_callB cr hg hm (by decide +kernel) pa (by decide) (by decide) (star_ok _ _ _) (star_any _ _ _)) key
  | list => exact peImp (pe_callTy cr hg hm (by decide +kernel) pa (by decide) (by decide) (star_ok _ _ _) (star_any _ _ _)) key
  | tuple => exact peImp (pe_callTy cr hg hm (by decide +kernel) pa (by decide) (by decide) (star_ok _ _ _) (star_any _ _ _)) key
  | sorted => exact peImp (pe_callB cr hg hm (by decide +kernel) pa (by decide) (by decide) (star_ok _ _ _) (star_any _ _ _)) key
  | int => exact peImp (pe_callTy cr hg hm (by decide +kernel) pa (by decide) (by decide) (star_ok _ _ _) (star_any _ _ _)) key
  | sum => exact peImp (pe_callB cr hg hm (by decide +kernel) pa (by decide) (by decide) (star_ok _ _ _) (star_any _ _ _)) key
  | all => exact peImp (pe_callB cr hg hm (by decide +kernel) pa (by decide) (by decide) (star_ok _ _ _) (star_any _ _ _)) key
  | str => exact peImp (pe_callTy cr hg hm (by decide +kernel) pa (by decide) (by decide) (star_ok _ _ _) (star_any _ _ _)) key
  | max => exact peImp (pe_callB cr hg hm (by decide +kernel) pa (by decide) (by decide) (star_ok _ _ _) (star_any _ _ _)) key
  | min => exact peImp (pe_callB cr hg hm (by decide +kernel) pa (by decide) (by decide) (star_ok _ _ _) (star_any _ _ _)) key


def kd : D → String
  | .non => "NoneType"
  | .bl _ => "bool"
  | .int _ => "int"
  | .str _ => "str"
  | .tup _ => "tuple"
  | _ => "list"
def tyT : Ty → String
  | .int => "int"
  | .bool => "bool"
  | .tuple => "tuple"
  | .list => "list"
  | .str => "str"
def isiS (t : Ty) (s : String) : Bool := s == tyT t || (tyT t == "int" && s == "bool")
theorem kitS (t : Ty) : kitB "NoneType" (tyT t) = some (isiS t "NoneType") ∧ kitB "bool" (tyT t) = some (isiS t "bool") ∧ kitB "int" (tyT t) = some (isiS t "int") ∧ kitB "str" (tyT t) = some (isiS t "str") ∧
    kitB "tuple" (tyT t) = some (isiS t "tuple") ∧ kitB "list" (tyT t) = some (isiS t "list") := by
  cases t <;> decide +kernel
theorem isiS_d (t : Ty) (d : D) (h : ∀ c, d ≠ .exc c) (h2 : ∀ l, d ≠ .dic l) : isiS t (kd d) = isiD t d := by
  cases d with
  | exc c => exact absurd rfl (h c)
  | dic l => exact absurd rfl (h2 l)
  | _ => cases t <;> rfl
theorem kit_d (t : Ty) (d : D) (h : ∀ c, d ≠ .exc c) (h2 : ∀ l, d ≠ .dic l) : kitB (kd d) (tyT t) = some (isiD t d) := by
  obtain ⟨k1, k2, k3, k4, k5, k6⟩ := kitS t
  rw [← isiS_d t d h h2]
  cases d with
  | non => exact k1
  | bl b => exact k2
  | int i => exact k3
  | str x => exact k4
  | tup l => exact k5
  | lst l => exact k6
  | scr l => exact k6
  | exc c => exact absurd rfl (h c)
  | dic l => exact absurd rfl (h2 l)
theorem repTy {av : Av} {H : Hp} {v : V} {d : D} (w : RepW K av H v d) (h2 : ∀ l, d ≠ .dic l) : TyX K H v (.type (kd d)) := by
  cases w with
  | non => exact .base .non
  | bl b => exact .base (.bl b)
  | int i => exact .base (.int i)
  | str x => exact .base (.str x)
  | lst h r => exact .base (.lst h)
  | scr h =>
    rcases h with (h | ⟨o, h⟩) | ⟨o, its, n, h1, h2, _⟩
    · exact .base (.lst h)
    · exact .base (.frz h)
    · exact .kList h1 h2
  | dic h => exact absurd rfl (h2 _)
  | tup h r =>
    rcases h with ⟨⟨o, _, h⟩, _⟩ | ⟨o, its, n, h1, h2, _⟩
    · exact .fTuple h
    · exact .kTuple h1 h2
theorem pe_ty {t : Ty} {pt : Pos} (hgt : Gl X t.nm) (hmt : X.mg t.nm = none) : PE X (.Name t.nm pt) (tC (.ty (tyT t))) := by
  cases t <;> exact pe_bltn hgt hmt (by decide +kernel) rfl (by decide) (by decide)
theorem isi_not {t : Ty} {d : D} {k : D → Prop} {σ : L2.St} {H : Hp} (h : OUT ec W σ H (isiR t d) k) : (∀ c, d ≠ .exc c) ∧ (∀ l, d ≠ .dic l) ∧ k (.bl (isiD t d)) := by
  cases d with
  | exc c => exact (show False from h).elim
  | dic l => exact (show False from h).elim
  | _ => exact ⟨(fun c e => by cases e), (fun c e => by cases e), h⟩
theorem s_isi {a : Ex} {t : Ty} {pt pf p : Pos} (hK : X.K = K) (hg : Gl X "isinstance") (hm : X.mg "isinstance" = none) (hgt : Gl X t.nm) (hmt : X.mg t.nm = none) (ha : PE X a.py (tE K ec C cf W a)) :
    PE X (Ex.isi a t pt pf p).py (tE K ec C cf W (.isi a t pt pf p)) := by
  subst hK
  refine peImp (pe_callB call_isi hg hm (by decide +kernel) (pa_cons ha (pa_cons (pe_ty (pt := pt) hgt hmt) pa_nil rfl) (star_ok _ _ _)) (by decide) (by decide) (star_ok _ _ _) rfl) ?_
  rintro σ H Q ⟨avC, ow, env, er, h⟩
  simp only [ev] at h
  refine ⟨avC, ow, env, er, (OUT.bind h).mono fun d h v H1 s1 w1 r1 => ?_⟩
  obtain ⟨hne, hnd, h⟩ := isi_not h
  exact ⟨v, .ty (tyT t), _, _, _, rfl, .ty _, repTy w1 hnd, kit_ty (kit_d t d hne hnd), h _ H1 s1 (.bl _) (.bl _)⟩
theorem isi2_not {d : D} {k : D → Prop} {σ : L2.St} {H : Hp} (hne : ∀ c, d ≠ .exc c) (hnd : ∀ l, d ≠ .dic l) (h : OUT ec W σ H (isi2R d) k) : k (.bl (isiD .list d || isiD .tuple d)) := by
  cases d with
  | exc c => exact absurd rfl (hne c)
  | dic l => exact absurd rfl (hnd l)
  | _ => exact h
theorem s_isi2 {a : Ex} {k : Nat} {p1 p2 pt pf p : Pos} (hK : X.K = K) (hg : Gl X "isinstance") (hm : X.mg "isinstance" = none) (hg1 : Gl X "list") (hm1 : X.mg "list" = none) (hg2 : Gl X "tuple") (hm2 : X.mg "tuple" = none) (ha : PE X a.py (tE K ec C cf W a)) :
    PE X (Ex.isi2 a k p1 p2 pt pf p).py (tE K ec C cf W (.isi2 a k p1 p2 pt pf p)) := by
  subst hK
  have ht : PE X (.Tuple [.Name "list" p1, .Name "tuple" p2] k pt) (tTup (tCons (tC (.ty "list")) (tCons (tC (.ty "tuple")) tNil))) :=
    pe_tup (pa_cons (pe_ty (t := .list) (pt := p1) hg1 hm1) (pa_cons (pe_ty (t := .tuple) (pt := p2) hg2 hm2) pa_nil rfl) rfl)
  refine peImp (pe_callB call_isiT hg hm (by decide +kernel) (pa_cons ha (pa_cons ht pa_nil rfl) (star_ok _ _ _)) (by decide) (by decide) (star_ok _ _ _) rfl) ?_
  rintro σ H Q ⟨avC, ow, env, er, h⟩
  simp only [ev] at h
  refine ⟨avC, ow, env, er, (OUT.bind h).mono fun d h v H1 s1 w1 r1 => ?_⟩
  refine ⟨by show 2 ≤ sizeLine; rw [sizeLine_eq]; decide, fun q hq => ?_⟩
  have hne : ∀ c, d ≠ .exc c := by rintro c rfl; exact h
  have hnd : ∀ l, d ≠ .dic l := by rintro c rfl; exact h
  have hs : Same H1 (upd H1 q (.tup [.ty "list", .ty "tuple"])) := Same.upd hq
  have h := isi2_not hne hnd h
  refine ⟨v, q, [.ty "list", .ty "tuple"], _, [.type "list", .type "tuple"], _, rfl, upd_same, .cons (.ty _) (.cons (.ty _) .nil), repTy (w1.same hs) hnd,
    kitAny_cons (kit_ty (kit_d .list d hne hnd)) (r := isiD .list d || isiD .tuple d) (fun e => kitAny_cons (kit_ty (kit_d .tuple d hne hnd)) (fun e2 => by rw [e, e2]; exact kitAny_nil) (fun e2 => by rw [e2]; simp)) (fun e => by rw [e]; rfl), h _ _ (s1.trans hs) (.bl _) (.bl _)⟩
/-! slices -/
theorem s_oi {lo : Exo} (h : ∀ a, lo = .some a → PE X a.py (tE K ec C cf W a)) : PO X lo.py (fun σ H Q => ∃ avC ow env, ER K avC ow env σ H ∧ OUT ec W σ H (evo C cf lo env) fun o => ∀ H', Same H H' → Q o H') := by
  cases lo with
  | none =>
    refine ⟨fun pins s σ H Q I q => po_none.run pins s σ H Q I ?_⟩
    obtain ⟨avC, ow, env, er, q⟩ := q
    exact q H (Same.refl H)
  | some a =>
    refine ⟨fun pins s σ H Q I q => (po_some (h a rfl)).run pins s σ H Q I ?_⟩
    obtain ⟨avC, ow, env, er, q⟩ := q
    simp only [evo] at q
    refine ⟨avC, ow, env, er, ?_⟩
    generalize ev C cf a env = r at q ⊢
    cases r with
    | ok d =>
      cases d with
      | int i =>
        intro v H1 s1 w _
        cases w
        exact ⟨i, rfl, q H1 s1⟩
      | _ => exact (show False from q).elim
    | ex c => exact q
    | no => exact q
theorem s_slc {a : Ex} {lo hi : Exo} {ps p : Pos} (hK : X.K = K) (ha : PE X a.py (tE K ec C cf W a)) (hlo : ∀ a, lo = .some a → PE X a.py (tE K ec C cf W a)) (hhi : ∀ a, hi = .some a → PE X a.py (tE K ec C cf W a)) :
    PE X (Ex.slc a lo hi ps p).py (tF K ec C cf W (.slc a lo hi ps p)) := by
  subst hK
  refine peImp (pe_slice sl_R ha (s_oi hlo) (s_oi hhi)) ?_
  rintro σ H Q ⟨avC, ow, env, er, h⟩
  simp only [ev] at h
  refine ⟨avC, ow, env, er, (OUT.bind h).mono fun d h v H1 s1 w1 r1 => ?_⟩
  refine ⟨avC, ow, env, er.same s1, ((OUT.bind h).same s1).mono fun l h H2 s2 => ?_⟩
  refine ⟨avC, ow, env, er.same (s1.trans s2), ((OUT.bind h).same (s1.trans s2)).mono fun u h H3 s3 => ?_⟩
  refine ⟨AV avC (drp ow (alI a)), d, (er.same (s1.trans (s2.trans s3))).dom' _, (w1.same (s2.trans s3)), ?_⟩
  exact finF_of (e := .slc a lo hi ps p) (noex_slc _ _ _) (s1.trans (s2.trans s3)) h
end
end Li

/-! enumerate of a tuple -/
namespace Li
open PySem PySem.Spec L2
open PyProof.Rows hiding St
abbrev tupIt (t : Addr) : Obj := { cls := .type "tuple_iterator", data := .fields #[.ref t, .int 0 0] }
abbrev enumOb (it : Addr) : Obj := { cls := .type "enumerate", data := .fields #[.none, .bool false, .ref it, rawInt 0, .none, .none] }
theorem meets_enumT (t : Addr) (items : Array Value) (n : Nat) (dct : Option Addr) (sl : Array (Option Value)) :
    Meets (Builtin.«enumerate.__new__» ⟨[.type "enumerate", .ref t], []⟩) (fun _ R s => s.heap.get? t = some ⟨.type "tuple", dct, .seq items n, sl⟩ ∧ R (.ok (.ret (.ref (s.heap.push (tupIt t)).objs.size))) { s with heap := (s.heap.push (tupIt t)).push (enumOb s.heap.objs.size) }) :=
  .of_wp fun prog w A R s h => by
    obtain ⟨hl, h⟩ := h
    obtain ⟨hp, g, d, tk, os⟩ := s
    have hL : hp.IsTuple t items := ⟨_, hl, rfl, _, rfl⟩
    have hsub := sub_enumerate
    wp_walk using wpAny_loadPart' hl
    refine wpAny_stack_any fun st => wpAny_pure ?_
    split
    · rename_i c _ _ _ _ _
      cases (c == Value.type "enumerate")
      · wp_walk using wpAny_loadPart' hl, wpAny_pyIter_tuple hL
        exact ⟨_, rfl, h⟩
      · wp_walk using wpAny_loadPart' hl, wpAny_pyIter_tuple hL
        exact ⟨_, rfl, h⟩
    · wp_walk using wpAny_loadPart' hl, wpAny_pyIter_tuple hL
      exact ⟨_, rfl, h⟩
section
variable {prog : Program} {w : World} {A : Around} {E : Value → Shared → Prop} {s : Shared}
theorem call_enumT {t : Addr} {items : Array Value} {Q : Value → Shared → Prop} (hT : IsTup s.heap t items)
    (h : ∀ h', IsEnum h' (s.heap.objs.size + 1) s.heap.objs.size 0 .none → h'.IsTupleIter s.heap.objs.size t 0 → (∀ b o, s.heap.get? b = some o → h'.get? b = some o) → Q (.ref (s.heap.objs.size + 1)) { s with heap := h' }) :
    wpAny (model prog w) A (call (.type "enumerate") [.ref t]) Q E s := by
  obtain ⟨⟨c, dct, dt, sl⟩, hl, hc, n, hd⟩ := hT
  replace hc : c = .type "tuple" := hc
  replace hd : dt = .seq items n := hd
  subst hc hd
  refine callType_new F.called_enumerate (by decide) (F.typeCall_enumerate_1 _) (F.newCall_enumerate_1 _) (fun obj => F.args_object_init_2 obj _) F.entry_enumerate_new (meets_enumT t items n dct sl) ⟨hl, ?_⟩
  have hz : (s.heap.push (tupIt t)).objs.size = s.heap.objs.size + 1 := Heap.size_push ..
  show _ ∧ _
  rw [hz]
  have he : IsEnum ((s.heap.push (tupIt t)).push (enumOb s.heap.objs.size)) (s.heap.objs.size + 1) s.heap.objs.size 0 .none := by
    have := Heap.get?_push_size (s.heap.push (tupIt t)) (o := enumOb s.heap.objs.size) rfl
    rw [hz] at this; exact this
  exact ⟨⟨_, he, rfl⟩, h _ he ⟨_, Heap.get?_push_of_some _ (Heap.get?_push_size _ rfl), rfl, rfl⟩ fun b o x => Heap.get?_push_of_some _ (Heap.get?_push_of_some _ x)⟩
end
def IteT (K : PySem.W.Frag) (a : Addr) : It :=
  ⟨fun i H => ∃ (xs : List V) (x : V), SqT K H a xs ∧ xs[i]? = some x, fun i H v H' => ∃ T x, v = .ref T ∧ H T = none ∧ H' = upd H T (.tup [.int (i : Nat), x]) ∧ ∀ xs, SqT K H a xs → xs[i]? = some x, fun i H => ∃ xs : List V, SqT K H a xs ∧ xs.length ≤ i⟩
theorem sqT_inj {X : Cx} {pins : List (Addr × Obj)} {σ : L2.St} {H : Hp} {s : Shared} {a : Addr} {xs ys : List V} (I : L2.Inv X pins σ H s) (h1 : SqT X.K H a xs) (h2 : SqT X.K H a ys) : xs = ys := by
  exact I.tuple_inj h1 h2
theorem turn_enumT {P : Program} {w : World} {K : PySem.W.Frag} {elts : List Expr} {kk : Nat} {tpos : Pos} (a e it : Addr) :
    Turn P w K (.Tuple elts kk tpos) (IteT K a) [e, it] e (fun i h => (∃ old, IsEnum h e it ((i : Nat) : Int) old) ∧ h.IsTupleIter it a i ∧ e ≠ it) where
  mem := by simp
  obj := fun i h st b hb => by
    obtain ⟨⟨old, he⟩, ⟨o, ho, hc, hd⟩, _⟩ := st
    have e' : b = e ∨ b = it := by simpa using hb
    rcases e' with z | z
    · rw [z]; exact ⟨_, he, fun v q => nomatch q⟩
    · rw [z]; exact ⟨o, ho, fun v q => by rw [hd] at q; cases q⟩
  keep := fun i h h' st k => let ⟨⟨old, he⟩, hi, hne⟩ := st; ⟨⟨old, k e (by simp) _ he⟩, hi.at fun o q => k it (by simp) o q, hne⟩
  item := by
    intro X hP hw hK hc i pins s σ H E I hf st hg
    subst hP hw hK
    obtain ⟨⟨old, he⟩, hit, hne⟩ := st
    obtain ⟨xs, x, hq, hx⟩ := hg
    obtain ⟨its, rv, p, hz⟩ := I.tuple hq
    obtain ⟨u, hu, ru⟩ := rv.get hx
    have hel : e < s.heap.objs.size := Heap.lt_size he
    have hil : it < s.heap.objs.size := by obtain ⟨_, q, _⟩ := hit; exact Heap.lt_size q
    have hal : a < s.heap.objs.size := by obtain ⟨_, q, _⟩ := p; exact Heap.lt_size q
    have hai : a ≠ it := by
      rintro rfl
      obtain ⟨o1, q1, c1, _⟩ := p
      obtain ⟨o2, q2, c2, _⟩ := hit
      rw [q1] at q2; cases q2; rw [c1] at c2; exact absurd (Value.type.inj c2) (by decide)
    have hae : e ∉ [it, a] := by
      intro z
      rcases List.mem_cons.mp z with z | z
      · exact hne z
      · have z := List.mem_singleton.mp z
        subst z
        obtain ⟨o1, q1, c1, _⟩ := p
        have q2 : s.heap.get? e = some _ := he
        rw [q1] at q2; cases q2; exact absurd (Value.type.inj c1) (by decide)
    have hlt : i < its.toArray.size := by
      rw [List.size_toArray]
      exact (List.getElem?_eq_some_iff.mp hu).1
    refine wpAny_pyNext_enum_itemD (Draws.tuple (A := X.A.in1) (I.ok.hd hc) it a hai its.toArray) he ⟨hit, p⟩ hlt hne hae fun x2 h' tk hP ho hst hT hsz hk => ?_
    have ex2 : x2 = u := by
      have hP : its.toArray[i]? = some x2 := hP
      have : its[i]? = some x2 := by simpa using hP
      rw [hu] at this
      exact (Option.some.inj this).symm
    subst ex2
    refine ⟨_, rfl, wpAny_letOwnedTupleGo_enum (s := { s with heap := h', toks := tk + 1 }) ho fun h'' he' sb => ?_⟩
    have hT2 : h''.get? s.heap.objs.size = some { cls := .type "tuple", data := .seq #[.int i tk, x2] } := (sb.2 _ (Nat.ne_of_gt hel)).trans hT
    have new : ObjOk X.prog X.w (upd H s.heap.objs.size (.tup [.int (i : Nat), x])) h'' s.heap.objs.size (.tup [.int (i : Nat), x]) :=
      ⟨by show 2 ≤ sizeLine; decide, [.int i tk, x2], .cons ⟨_, rfl⟩ (.cons ru .nil), ⟨_, hT2, rfl, _, rfl⟩⟩
    have I1 : L2.Inv X pins σ (upd H s.heap.objs.size (.tup [.int (i : Nat), x])) { s with heap := h'', toks := tk + 1 } :=
      I.turnedNew (ch := [e, it]) (fun b ob hb q => (sb.2 b (fun z => hb (by simp [z]))).trans (hk b ob (fun z => hb (by simp [z])) (fun z => hb (by simp [z])) q)) hf (Nat.le_refl _) new
    refine ⟨.ref s.heap.objs.size, _, I1, rfl, ⟨_, x, rfl, I.hok.fresh (Nat.le_refl _), rfl, fun ys hy => by rw [sqT_inj I hy hq]; exact hx⟩, ⟨⟨x2, ?_⟩, hst.1.at fun o q => (sb.2 it (Ne.symm hne)).trans q, hne⟩, fun b hb => ?_⟩
    · have e1 : ((i + 1 : Nat) : Int) = (i : Int) + 1 := by omega
      rw [e1]; exact he'
    · have hb' : b < s.heap.objs.size := by
        have e' : b = e ∨ b = it := by simpa using hb
        rcases e' with z | z
        · rw [z]; exact hel
        · rw [z]; exact hil
      rw [upd_ne (Nat.ne_of_lt hb')]
      exact (hf b hb).1
  done := by
    intro X hP hw hK hc i pins s σ H E I hf st hg
    subst hP hw hK
    obtain ⟨⟨old, he⟩, hit, hne⟩ := st
    obtain ⟨xs, hq, hx⟩ := hg
    obtain ⟨its, rv, p, hz⟩ := I.tuple hq
    obtain ⟨f0, f1, f2, f3, f4, f5⟩ := hf it (by simp)
    have hl := rv.length
    have hai : a ≠ it := by
      rintro rfl
      obtain ⟨o1, q1, c1, _⟩ := p
      obtain ⟨o2, q2, c2, _⟩ := hit
      rw [q1] at q2; cases q2; rw [c1] at c2; exact absurd (Value.type.inj c2) (by decide)
    have hnone : its.toArray[i]? = none := by
      rw [List.getElem?_toArray]
      exact List.getElem?_eq_none (by omega)
    have D : Draws X.prog X.w X.A.in1 it [it, a] i (fun _ _ => True) (fun j h => j = i ∧ h.IsTupleIter it a i ∧ h.IsTuple a its.toArray) :=
      { live := fun _ _ st => let ⟨o, ho, _⟩ := st.2.1; ⟨o, ho⟩
        frame := fun _ _ _ st hk => ⟨st.1, st.2.1.at fun o e => hk it (by simp) o e, st.2.2.at fun o e => hk a (by simp) o e⟩
        item := fun j s Q E hj st hQ => absurd hj (by rw [st.1]; exact Nat.lt_irrefl _)
        done := fun s Q E st hE => wpAny_nextOf_tuple_end (I.ok.hd hc) st.2.1 st.2.2 hnone hE }
    exact wpAny_pyNext_enum_endD D he ⟨rfl, hit, p⟩ fun h' eb => ⟨rfl, I.turned (t' := s.toks) (fun b o hb q => eb b o hb q) f0 f1 f3 f4 f5⟩
  self := fun A i s Q E st h => let ⟨⟨_, he⟩, _⟩ := st; wpAny_pyIter_enum he h
def iEnumT (K : PySem.W.Frag) (ta : TA) : TI := fun σ H R => ta σ H fun vs H1 => ∃ a xs, vs = [.ref a] ∧ SqT K H1 a xs ∧ R (IteT K a) H1
theorem pi_enumT {X : Cx} {e : Expr} {ta : TA} {p pos tpos : Pos} {elts : List Expr} {kk : Nat} (hg : Gl X "enumerate") (hm : X.mg "enumerate" = none) (ha : PA X [e] ta) (hs : starEach [e] X.env = [(false, eval e X.env)] := by rfl) :
    PI X (.Tuple elts kk tpos) (.Call (.Name "enumerate" p) [e] [] pos) (iEnumT X.K ta) := by
  refine ⟨fun pins s σ H R I h => ?_⟩
  refine Call_ (ld_blt I hg hm boot_enumerate (PyProof.Rows.callWith_type1 (thn (ha.run pos pins s σ H _ I h) fun us s1 ⟨vs, H1, I1, r1, q1⟩ => ?_) hs rfl))
  obtain ⟨a, xs, ex, hq, q⟩ := q1
  subst ex
  cases r1 with
  | cons r rr =>
    cases rr
    cases r
    obtain ⟨its, rv, p', hz⟩ := I1.tuple hq
    refine call_enumT p' fun h' he hit hk => wpAny_pyIter_enum he ?_
    have I2 : L2.Inv X pins σ H1 { s1 with heap := h' } := I1.kept (t' := s1.toks) hk
    refine ⟨s1.heap.objs.size + 1, [s1.heap.objs.size + 1, s1.heap.objs.size], _, _, H1, rfl, I2, turn_enumT a (s1.heap.objs.size + 1) s1.heap.objs.size, ⟨⟨.none, he⟩, hit, Nat.succ_ne_self _⟩, fun b hb => ?_, q⟩
    have e' : b = s1.heap.objs.size + 1 ∨ b = s1.heap.objs.size := by simpa using hb
    have hle : s1.heap.objs.size ≤ b := by
      rcases e' with z | z
      · rw [z]; exact Nat.le_add_right _ _
      · rw [z]; exact Nat.le_refl _
    exact I1.fpOk hle (I1.hok.fresh hle)
end Li

/-! list(range(..)), max(.., default=..), count and index, sets of a tuple -/
namespace Li
open PySem PySem.Spec L2
open PyProof.Rows hiding St
theorem repW_int {K : PySem.W.Frag} {av : Av} {H : Hp} {v : V} {i : Int} (r : RepW K av H v (.int i)) : v = .int i := by cases r; rfl
/-! ### ranges as lists -/
theorem reps_rg {K : PySem.W.Frag} {av : Av} {H : Hp} (i j : Int) : Reps K av H (rgV i j) (rgD i j) := by
  unfold rgV rgD
  generalize List.range (j - i).toNat = l
  induction l with
  | nil => exact .nil
  | cons k l ih => exact .cons (.int _) ih
section
variable {X : Cx} {K : PySem.W.Frag} {ec : Nat → Value} {C : List D} {cf : Nat → List D → Res D} {W : WX}
theorem noex_lrng (t : Bool) (x : D) (o : Option Int) : NoEx (lrngR t x o) := by
  cases x with
  | int i => exact noex_need noex_ok
  | _ => exact noex_no
theorem noex_mxd (m : Bool) (x y : D) : NoEx (mxdR m x y) := by
  cases x with
  | lst l => exact noex_need noex_ok
  | tup l => exact noex_need noex_ok
  | _ => exact noex_no
theorem rg_ok {i j : Int} (h1 : -1000000 ≤ i) (h2 : i ≤ 1000000) (h3 : -1000000 ≤ j) (h4 : j ≤ 1000000) : RgOk i j := ⟨by omega, by omega, by omega, by omega, by omega⟩
theorem s_lrng {t : Bool} {a : Ex} {b : Exo} {pr pc pf p : Pos} (hc : X.calm = true) (hg : Gl X (if t then "tuple" else "list")) (hm : X.mg (if t then "tuple" else "list") = none) (hg2 : Gl X "range") (hm2 : X.mg "range" = none) (ha : PE X a.py (tE K ec C cf W a)) (hb : ∀ e, b = .some e → PE X e.py (tE K ec C cf W e)) :
    PE X (Ex.lrng t a b pr pc pf p).py (tF K ec C cf W (.lrng t a b pr pc pf p)) := by
  have main : ∀ {te : L2.St → Hp → (Int → Int → Hp → Prop) → Prop}, PRg X (.Call (.Name "range" pr) (a.py :: b.pyl) [] pc) te →
      (∀ σ H Q, tF K ec C cf W (.lrng t a b pr pc pf p) σ H Q → te σ H fun i j H1 => RgOk i j ∧ (if t then NewT H1 Q (rgV i j) else ∀ q, H1 q = none → Q (.ref q) (upd H1 q (.lst (rgV i j))))) → PE X (Ex.lrng t a b pr pc pf p).py (tF K ec C cf W (.lrng t a b pr pc pf p)) := fun {te} pr' k => by
    cases t with
    | true => exact peImp (pe_tupRgC (p := pf) (pos := p) hc hg hm pr') k
    | false => exact peImp (pe_listRg (p := pf) (pos := p) hc hg hm pr') k
  have fin : ∀ {avC : Av} {ow : Nat → Option Addr} {σ : L2.St} {H H1 : Hp} {Q : VK} {i j : Int}, Dom (AV avC (drp ow [])) H1 → OKV K (AV avC (drp ow [])) H1 Q (.ok (match t with | true => D.tup (rgD i j) | false => .lst (rgD i j))) → (if t then NewT H1 Q (rgV i j) else ∀ q, H1 q = none → Q (.ref q) (upd H1 q (.lst (rgV i j)))) := fun {avC ow σ H H1 Q i j} dm q => by
    cases t with
    | true => exact OKV.tup q dm (reps_rg i j)
    | false => exact OKV.lst q dm (reps_rg i j)
  cases b with
  | none =>
    refine main (prg_1 (p := pr) (pos := pc) hg2 hm2 ha (star_ok _ _ _)) ?_
    rintro σ H Q ⟨avC, ow, env, er, h⟩
    simp only [ev, evo] at h
    refine ⟨avC, ow, env, er, (OUT.bind h).mono fun d h v H1 s1 w1 r1 => ?_⟩
    have h := OUT.bind h
    have q : OKV K (AV avC (drp ow [])) H1 Q (lrngR t d none) := finF_of (e := .lrng t a .none pr pc pf p) (noex_lrng t d none) s1 h
    cases d with
    | int i =>
      obtain ⟨hs, q⟩ := OKV.need q
      simp only [Bool.and_eq_true, decide_eq_true_eq] at hs
      refine ⟨i, repW_int w1, rg_ok (by omega) (by omega) (by omega) (by omega), fin (σ := σ) (H := H) ((er.same s1).dom' _) ?_⟩
      cases t <;> exact q
    | _ => exact (show False from q).elim
  | some e =>
    refine main (prg_2 (p := pr) (pos := pc) hg2 hm2 ha (hb e rfl) (star_ok _ _ _) (star_ok _ _ _) (star_any _ _ (.cons e .nil))) ?_
    rintro σ H Q ⟨avC, ow, env, er, h⟩
    simp only [ev, evo] at h
    refine ⟨avC, ow, env, er, (OUT.bind h).mono fun d h v H1 s1 w1 r1 => ?_⟩
    have h := OUT.bind h
    refine ⟨avC, ow, env, er.same s1, ?_⟩
    generalize ev C cf e env = r at h ⊢
    cases r with
    | ex c => exact fun H' s' => h H' (s1.trans s')
    | no => exact h
    | ok y =>
      intro v2 H2 s2 w2 r2
      cases y with
      | int j =>
        have h : OUT ec W σ H (lrngR t d (some j)) _ := h
        have q : OKV K (AV avC (drp ow [])) H2 Q (lrngR t d (some j)) := finF_of (e := .lrng t a (.some e) pr pc pf p) (noex_lrng t d _) (s1.trans s2) h
        cases d with
        | int i =>
          obtain ⟨hs, q⟩ := OKV.need q
          simp only [Bool.and_eq_true, decide_eq_true_eq, Option.getD_some] at hs
          refine ⟨i, j, repW_int (w1.same s2), repW_int w2, rg_ok (by omega) (by omega) (by omega) (by omega), fin (σ := σ) (H := H) ((er.same (s1.trans s2)).dom' _) ?_⟩
          cases t <;> exact q
        | _ => exact (show False from q).elim
      | _ => exact (show False from h).elim
/-! ### max and min with a default -/
theorem reads_ints (h : Heap) : ∀ {ns : List Int} {us : List Value}, Vals (ns.map V.int) us → ∃ as, ReadsAll h us (ns.map PyData.int) as
  | [], _, .nil => ⟨_, .nil⟩
  | n :: ns, _, .cons r t => by
    obtain ⟨tk, rfl⟩ := r
    obtain ⟨as, q⟩ := reads_ints h t
    exact ⟨_, .cons (.int n tk) q⟩
theorem depth_ints : ∀ ns : List Int, PyData.depthAll (ns.map PyData.int) ≤ 1
  | [] => by simp [PyData.depthAll]
  | n :: ns => by
    have := depth_ints ns
    simp only [List.map_cons, PyData.depthAll]
    have e : PyData.depth (.int n) ≤ 1 := by simp [PyData.depth]
    omega
theorem alike_ints (ns : List Int) : PySem.W.AlikeAll (ns.map PyData.int) := by
  refine ⟨fun x hx y hy => ?_, fun x hx e => ?_⟩
  · obtain ⟨i, _, rfl⟩ := List.mem_map.mp hx
    obtain ⟨j, _, rfl⟩ := List.mem_map.mp hy
    first | rfl | simp [PySem.W.alike] | simp [PySem.alike]
  · obtain ⟨i, _, rfl⟩ := List.mem_map.mp hx
    cases e
def rMxd (K : PySem.W.Frag) (m : Bool) : List V → List V → Hp → VK → Prop := fun xs zs H Q => ∃ (a : Addr) (z : V) (ns : List Int), xs = [.ref a] ∧ zs = [z] ∧ (SqL K H a (ns.map V.int) ∨ SqT K H a (ns.map V.int)) ∧ Q (if ns.isEmpty then z else .int (if m = true then maxI ns else minI ns)) H
theorem max2_eq (i j : Int) : max2 i j = max i j := by unfold max2; split <;> omega
theorem min2_eq (i j : Int) : min2 i j = min i j := by unfold min2; split <;> omega
theorem foldl_eq {f g : Int → Int → Int} (h : ∀ i j, f i j = g i j) : ∀ (l : List Int) (x : Int), l.foldl f x = l.foldl g x
  | [], _ => rfl
  | y :: l, x => by rw [List.foldl_cons, List.foldl_cons, h, foldl_eq h l]
theorem cr_mxd (hc : X.calm = true) (hu : X.A.units + 65 < cLine) (m : Bool) : CallRK X (.builtin (if m then "max" else "min")) [Str.ofString "default"] (rMxd X.K m) := by
  intro pins s σ H xs zs us ws Q I r rz h
  obtain ⟨a, z, ns, rfl, rfl, hs, q⟩ := h
  obtain rfl := Vals.ref1 r
  cases rz with
  | cons rz rn =>
    cases rn
    rename_i w1
    have hd := depth_ints ns
    have hh := I.ok.hd hc
    have keep : ∀ (h' : Heap) (tk : Nat), (∀ b o, s.heap.get? b = some o → h'.get? b = some o) → L2.Inv X pins σ H { s with heap := h', toks := tk } := fun h' tk k => I.kept (t' := tk) k
    have none : ns.map PyData.int = [] → ∀ h' tk, (∀ b o, s.heap.get? b = some o → h'.get? b = some o) → EP X pins σ Q w1 { s with heap := h', toks := tk } := fun e h' tk k => by
      have e : ns = [] := List.map_eq_nil_iff.mp e
      subst e
      exact ⟨z, H, keep h' tk k, rz, q⟩
    have more : ∀ (y : PyData) (ys : List PyData) (f : Int) (v : Value) (h' : Heap) (tk : Nat) (bs : List Addr), ns.map PyData.int = y :: ys → (∀ n ms, ns = n :: ms → f = if m = true then maxI ns else minI ns) → Reads h' v (.int f) bs → (∀ b o, s.heap.get? b = some o → h'.get? b = some o) → EP X pins σ Q v { s with heap := h', toks := tk } := fun y ys f v h' tk bs e hf rd k => by
      cases ns with
      | nil => cases e
      | cons n ms =>
        cases rd with
        | int i t =>
          have := hf n ms rfl
          subst this
          exact ⟨.int (if m = true then maxI (n :: ms) else minI (n :: ms)), H, keep h' tk k, ⟨t, rfl⟩, q⟩
    have mx : ∀ n ms, ns = n :: ms → PySem.W.maxD (.int n) (ms.map .int) = .int (maxI ns) := fun n ms e => by
      rw [PySem.W.maxD_ints, e]
      show _ = PyData.int (ms.foldl max2 n)
      rw [foldl_eq max2_eq]
    have mn : ∀ n ms, ns = n :: ms → PySem.W.minD (.int n) (ms.map .int) = .int (minI ns) := fun n ms e => by
      rw [PySem.W.minD_ints, e]
      show _ = PyData.int (ms.foldl min2 n)
      rw [foldl_eq min2_eq]
    have goM : m = true → ∀ (y : PyData) (ys : List PyData) (v : Value) (h' : Heap) (tk : Nat) (bs : List Addr), ns.map PyData.int = y :: ys → Reads h' v (PySem.W.maxD y ys) bs → (∀ b o, s.heap.get? b = some o → h'.get? b = some o) → EP X pins σ Q v { s with heap := h', toks := tk } := fun hm y ys v h' tk bs e rd k => by
      cases en : ns with
      | nil => rw [en] at e; cases e
      | cons n ms =>
        have e2 := e
        rw [en, List.map_cons] at e2
        injection e2 with e3 e4
        rw [← e3, ← e4, mx n ms en] at rd
        exact more y ys _ v h' tk bs e (fun _ _ _ => by rw [if_pos hm]) rd k
    have goN : m = false → ∀ (y : PyData) (ys : List PyData) (v : Value) (h' : Heap) (tk : Nat) (bs : List Addr), ns.map PyData.int = y :: ys → Reads h' v (PySem.W.minD y ys) bs → (∀ b o, s.heap.get? b = some o → h'.get? b = some o) → EP X pins σ Q v { s with heap := h', toks := tk } := fun hm y ys v h' tk bs e rd k => by
      cases en : ns with
      | nil => rw [en] at e; cases e
      | cons n ms =>
        have e2 := e
        rw [en, List.map_cons] at e2
        injection e2 with e3 e4
        rw [← e3, ← e4, mn n ms en] at rd
        exact more y ys _ v h' tk bs e (fun _ _ _ => by rw [hm]; rfl) rd k
    rcases hs with hs | hs
    · obtain ⟨its, rv, pl, _⟩ := I.list hs
      obtain ⟨as, rd⟩ := reads_ints s.heap rv
      have rd : ReadsAll s.heap its.toArray.toList (ns.map PyData.int) as := by rw [List.toList_toArray]; exact rd
      cases m with
      | true => exact PySem.W.max_list_default hh pl.isList rd (alike_ints ns) (by omega) none fun y ys i v h' tk bs e _ r k => goM rfl y ys v h' tk bs e r k
      | false => exact PySem.W.min_list_default hh pl.isList rd (alike_ints ns) (by omega) none fun y ys i v h' tk bs e _ r k => goN rfl y ys v h' tk bs e r k
    · obtain ⟨its, rv, pl, _⟩ := I.tuple hs
      obtain ⟨as, rd⟩ := reads_ints s.heap rv
      have rd : ReadsAll s.heap its.toArray.toList (ns.map PyData.int) as := by rw [List.toList_toArray]; exact rd
      cases m with
      | true => exact PySem.W.max_tuple_default hh pl rd (alike_ints ns) (by omega) none fun y ys i v h' tk bs e _ r k => goM rfl y ys v h' tk bs e r k
      | false => exact PySem.W.min_tuple_default hh pl rd (alike_ints ns) (by omega) none fun y ys i v h' tk bs e _ r k => goN rfl y ys v h' tk bs e r k
theorem s_mxd {m : Bool} {a d : Ex} {pk pf p : Pos} (hK : X.K = K) (hc : X.calm = true) (hu : X.A.units + 65 < cLine) (hg : Gl X (if m then "max" else "min")) (hm : X.mg (if m then "max" else "min") = none) (ha : PE X a.py (tE K ec C cf W a)) (hd : PE X d.py (tE K ec C cf W d)) :
    PE X (Ex.mxd m a d pk pf p).py (tE K ec C cf W (.mxd m a d pk pf p)) := by
  subst hK
  have key : ∀ σ H Q, tE X.K ec C cf W (.mxd m a d pk pf p) σ H Q → tCKw (rMxd X.K m) (tCons (tE X.K ec C cf W a) tNil) (tCons (tE X.K ec C cf W d) tNil) σ H Q := by
    rintro σ H Q ⟨avC, ow, env, er, h⟩
    simp only [ev] at h
    refine ⟨avC, ow, env, er, (OUT.bind h).mono fun da h v1 H1 s1 w1 _ => ?_⟩
    refine ⟨avC, ow, env, er.same s1, ((OUT.bind h).same s1).mono fun db h v2 H2 s2 w2 _ => ?_⟩
    have q : OKV X.K (AV avC (drp ow (alI a ++ alI d))) H2 Q (mxdR m da db) := fin_of (e := .mxd m a d pk pf p) (noex_mxd m da db) (s1.trans s2) rfl h
    have w1 := w1.same s2
    have last : ∀ (l : List D), l.all isInt = true → isPl db = true → OKV X.K (AV avC (drp ow (alI a ++ alI d))) H2 Q (.ok (if l.isEmpty then db else .int (mxI m l))) → Q (if (l.map toI).isEmpty then v2 else .int (if m = true then maxI (l.map toI) else minI (l.map toI))) H2 := fun l _ hp q => by
      cases l with
      | nil =>
        have q : OKV X.K (AV avC (drp ow (alI a ++ alI d))) H2 Q (.ok db) := q
        show Q v2 H2
        cases db with
        | non => cases w2; exact q _ _ (Same.refl _) .non (.no fun _ e => by cases e)
        | int i => rw [repW_int w2]; exact q.int
        | _ => cases hp
      | cons x l => exact OKV.int q
    cases da with
    | lst l =>
      obtain ⟨hs, q⟩ := OKV.need q
      obtain ⟨h1, h2⟩ := shand hs
      obtain ⟨b, xs, rfl, hb, rs⟩ := repW_lst w1
      have el := all_ints h1
      rw [el] at rs
      have ex := reps_of_ints rs
      subst ex
      exact ⟨b, v2, l.map toI, rfl, rfl, .inl (.inl (.inl hb)), last l h1 h2 q⟩
    | tup l =>
      obtain ⟨hs, q⟩ := OKV.need q
      obtain ⟨h1, h2⟩ := shand hs
      obtain ⟨b, xs, rfl, hb, rs⟩ := repW_tup w1
      have el := all_ints h1
      rw [el] at rs
      have ex := reps_of_ints rs
      subst ex
      exact ⟨b, v2, l.map toI, rfl, rfl, .inr hb.sq, last l h1 h2 q⟩
    | _ => exact (show False from q).elim
  have pa := pa_cons ha pa_nil (star_ok a [] X.env)
  have pk' : PK X [⟨some "default", d.py, pk⟩] (tCons (tE X.K ec C cf W d) tNil) := pk_cons hd pk_nil
  have e1 : backTo p (starEach [a.py] X.env) = (false, eval a.py X.env) :: backTo p (starEach [] X.env) := by rw [star_ok]; rfl
  have e2 : (backTo p (starEach [a.py] X.env)).any (·.1) = false := star_any p X.env (.cons a .nil)
  cases m with
  | true => exact peImp (pe_callBK (p := pf) (pos := p) (cr_mxd hc hu true) hg hm (by decide +kernel) pa pk' (by decide) (by decide) e1 e2 rfl rfl rfl) key
  | false => exact peImp (pe_callBK (p := pf) (pos := p) (cr_mxd hc hu false) hg hm (by decide +kernel) pa pk' (by decide) (by decide) e1 e2 rfl rfl rfl) key
/-! ### count and index of a list -/
def rCntD (K : PySem.W.Frag) : V → List V → Hp → VK → Prop := fun x xs H Q => ∃ (a : Addr) (y : V) (d : PyData) (ds : List PyData), x = V.ref a ∧ xs = [y] ∧ Dp K H (V.ref a) (.list ds) ∧ Dp K H y d ∧ SeqAt.shaped (.list ds) = true ∧ SeqAt.shaped d = true ∧ Q (.int ((ds.countP fun z => PyData.eqv z d : Nat) : Int)) H
theorem mt_cntD (hu : X.A.units + 65 < cLine) : MtR X "list.count" (rCntD X.K) := by
  intro pins s σ H x xs v us Q I rx rxs h
  obtain ⟨a, y, d, ds, rfl, rfl, hl, hy, sl, sd, q⟩ := h
  cases rx
  cases rxs with
  | cons ry rt =>
    rename_i uy ut
    cases rt
    obtain ⟨bs, r1⟩ := Dp.reads I d y uy hy ry
    have hxs : PyData.canLayAll0 ds = true := SeqAt.canLay_of_shaped sl
    have hroom : X.A.units + 1 + min (PyData.depthAll ds) d.depth < cLine := room_in_shaped sd hu
    cases hl with
    | lst hs ha =>
      obtain ⟨its, rv, pl, hlen⟩ := I.list hs
      obtain ⟨as, h4⟩ := Dp.readsAll I ds _ its ha rv
      exact SeqAt.count_list_data (vs := its.toArray) pl.isList (by rw [List.toList_toArray]; exact h4) r1 (PyData.plainAll_of_canLay0 _ hxs) (PyData.plain_of_canLay0 _ (SeqAt.canLay_of_shaped sd)) hroom ⟨.int _, H, I.tok _, ⟨_, rfl⟩, q⟩
theorem count_pds {x : D} {n : Nat} (hx : sh n x = true) {m : Nat} : ∀ {l : List D}, shs m l = true → ((pds l).countP fun z => PyData.eqv z (pd x)) = countD l x
  | [], _ => rfl
  | d :: l, h => by
    simp only [shs, Bool.and_eq_true] at h
    simp only [pds, countD, List.countP_cons]
    rw [eqD_pd m n d x h.1 hx, count_pds hx h.2]
    rfl
theorem pds_get : ∀ (l : List D) (j : Nat), (pds l)[j]? = (l[j]?).map pd
  | [], j => by simp [pds]
  | d :: l, 0 => rfl
  | d :: l, j + 1 => by simpa [pds] using pds_get l j
theorem shs_get {m : Nat} : ∀ {l : List D} {j : Nat} {d : D}, shs m l = true → l[j]? = some d → sh m d = true
  | [], j, d, _, e => by simp at e
  | x :: l, 0, d, h, e => by
    simp only [shs, Bool.and_eq_true] at h
    simp at e
    rw [← e]
    exact h.1
  | x :: l, j + 1, d, h, e => by
    simp only [shs, Bool.and_eq_true] at h
    exact shs_get h.2 (by simpa using e)
theorem noex_meth (m : Mt) (l : List D) (x : D) : NoEx (methR m l x) := by
  cases m with
  | count => exact noex_need noex_ok
  | index =>
    refine noex_need ?_
    split
    · exact noex_ok
    · exact noex_no
theorem attr_base {o : Ex} (h : isVar o = true) (nm : Str) (env : Env) : attributeBase o.py nm env (eval o.py env) = eval o.py env := by cases o <;> first | rfl | cases h
/-! ### count and index of a tuple -/
def rCntT (K : PySem.W.Frag) : V → List V → Hp → VK → Prop := fun x xs H Q => ∃ (a : Addr) (y : V) (d : PyData) (ds : List PyData), x = V.ref a ∧ xs = [y] ∧ Dp K H (V.ref a) (.tuple ds) ∧ Dp K H y d ∧ SeqAt.shaped (.tuple ds) = true ∧ SeqAt.shaped d = true ∧ Q (.int ((ds.countP fun z => PyData.eqv z d : Nat) : Int)) H
theorem mt_cntT (hu : X.A.units + 65 < cLine) : MtR X "tuple.count" (rCntT X.K) := by
  intro pins s σ H x xs v us Q I rx rxs h
  obtain ⟨a, y, d, ds, rfl, rfl, hl, hy, sl, sd, q⟩ := h
  cases rx
  cases rxs with
  | cons ry rt =>
    rename_i uy ut
    cases rt
    obtain ⟨bs, r1⟩ := Dp.reads I d y uy hy ry
    have hxs : PyData.canLayAll0 ds = true := SeqAt.canLay_of_shaped sl
    have hroom : X.A.units + 1 + min (PyData.depthAll ds) d.depth < cLine := room_in_shaped sd hu
    cases hl with
    | tup hs ha =>
      obtain ⟨its, rv, pl, hlen⟩ := I.tuple hs
      obtain ⟨as, h4⟩ := Dp.readsAll I ds _ its ha rv
      exact SeqAt.count_tuple_data (vs := its.toArray) pl (by rw [List.toList_toArray]; exact h4) r1 (PyData.plainAll_of_canLay0 _ hxs) (PyData.plain_of_canLay0 _ (SeqAt.canLay_of_shaped sd)) hroom ⟨.int _, H, I.tok _, ⟨_, rfl⟩, q⟩
def rIndexT (K : PySem.W.Frag) : V → List V → Hp → VK → Prop := fun x xs H Q => ∃ (a : Addr) (y : V) (d : PyData) (ds : List PyData) (j : Nat) (z : PyData), x = V.ref a ∧ xs = [y] ∧ Dp K H (V.ref a) (.tuple ds) ∧ Dp K H y d ∧
  SeqAt.shaped (.tuple ds) = true ∧ SeqAt.shaped d = true ∧ ds[j]? = some z ∧ PyData.eqv z d = true ∧ (∀ (m : Nat) (z' : PyData), m < j → ds[m]? = some z' → PyData.eqv z' d = false) ∧ Q (.int (j : Nat)) H
theorem mt_indexT (hu : X.A.units + 65 < cLine) : MtR X "tuple.index" (rIndexT X.K) := by
  intro pins s σ H x xs v us Q I rx rxs h
  obtain ⟨a, y, d, ds, j, z, rfl, rfl, hl, hy, sl, sd, hz, hzj, hno, q⟩ := h
  cases rx
  cases rxs with
  | cons ry rt =>
    rename_i uy ut
    cases rt
    obtain ⟨bs, r1⟩ := Dp.reads I d y uy hy ry
    have hxs : PyData.canLayAll0 ds = true := SeqAt.canLay_of_shaped sl
    have hroom : X.A.units + 1 + min (PyData.depthAll ds) d.depth < cLine := room_in_shaped sd hu
    cases hl with
    | tup hs ha =>
      obtain ⟨its, rv, ⟨⟨cls, dd, data, sls⟩, ho, hc, n, hdt⟩, hlen⟩ := I.tuple hs
      simp only at hc hdt
      subst hc hdt
      obtain ⟨as, h4⟩ := Dp.readsAll I ds _ its ha rv
      have hn : its.length = ds.length := SeqAt.ReadsAll.length ds its as h4
      have hmap : its.map (SeqAt.readOf s.heap) = ds := SeqAt.readsAll_map ds its as hxs h4
      obtain ⟨hjd, _⟩ := List.getElem?_eq_some_iff.mp hz
      have hjl : j < its.length := by omega
      have hj : j < its.toArray.size := by simpa using hjl
      have at_ : ∀ (m : Nat) (hm : m < its.toArray.size) (z' : PyData), ds[m]? = some z' → SeqAt.readOf s.heap its.toArray[m] = z' := by
        intro m hm z' hz'
        have hml : m < its.length := by simpa using hm
        rw [← hmap, List.getElem?_map, List.getElem?_eq_getElem hml] at hz'
        have e1 : SeqAt.readOf s.heap its[m] = z' := Option.some.inj (show some (SeqAt.readOf s.heap its[m]) = some z' from hz')
        simpa using e1
      have its_ := SeqAt.items_eqAt (vs := its.toArray) (show ReadsAll s.heap its.toArray.toList ds as from h4) r1 hxs (SeqAt.canLay_of_shaped sd) hroom
      refine call_meets PySem.F.slot_tuple_index ⟨_, ho, rfl⟩ PySem.F.entry_tuple_index (PySem.F.args_tuple_index_2 _ _)
        (SeqAt.tuple_index2_found a its.toArray n dd sls uy (fun k => match ds[k]? with | some z' => PyData.eqv z' d | none => false) j hj (Nat.zero_le _) hj ?_ ?_) ⟨ho, fun k hk => ?_, ?_⟩
      · simp only [hz]
        exact hzj
      · intro m hm _ hmj
        have hmd : m < ds.length := by omega
        have hz' : ds[m]? = some ds[m] := List.getElem?_eq_getElem hmd
        simp only [hz']
        exact hno m _ hmj hz'
      · have hkl : k < its.length := by simpa using hk
        have hkd : k < ds.length := by omega
        have hz' : ds[k]? = some ds[k] := List.getElem?_eq_getElem hkd
        have e1 := its_ its.toArray[k] (Array.getElem_mem hk)
        rw [at_ k hk _ hz'] at e1
        simp only [hz']
        exact e1
      · exact ⟨.int (j : Nat), H, I.tok _, ⟨_, rfl⟩, q⟩
/-- a list, or a tuple whose dict is none -/
def tyS (K : PySem.W.Frag) (T : String) (x : V) (H : Hp) : Prop := tyV K T x H ∨ (T = "tuple" ∧ ∃ (a : Addr) (o : Obj) (xs : List V), x = .ref a ∧ o.dict = none ∧ H a = some (.frz o (.tup xs)))
theorem tyS_is {pins : List (Addr × Obj)} {σ : L2.St} {H : Hp} {s : Shared} {T : String} {x : V} {v : Value} (I : L2.Inv X pins σ H s) (r : RelV x v) (ty : tyS X.K T x H) :
    s.TypeIs v T ∧ ∀ a, v = .ref a → ∃ ob, s.heap.get? a = some ob ∧ ob.dict = none := by
  rcases ty with ty | ⟨rfl, a, o, xs, rfl, ho, h⟩
  · exact tyV_is I r ty
  · cases r
    obtain ⟨e, _, its, _, ob, e2, hc, _⟩ := I.hok a _ h
    rw [e] at e2
    cases e2
    exact ⟨⟨o, e, hc⟩, fun b z => by cases z; exact ⟨o, e, ho⟩⟩
structure MtK (X : Cx) (nm : Str) (T id : String) (r : V → List V → Hp → VK → Prop) : Prop where
  pa : PlainAttrs T
  slot : Slot T nm id
  ty : typeOf (.builtin id) = pure (.type "method_descriptor")
  mt : MtR X id r
/-- o.m(a), by the type of o -/
def tBS (K : PySem.W.Frag) (T1 T2 : String) (r1 r2 : V → List V → Hp → VK → Prop) (to : TE) (t : TA) : TE := fun σ H Q => to σ H fun x H1 => (tyS K T1 x H1 ∧ t σ H1 fun xs H2 => r1 x xs H2 Q) ∨ (tyS K T2 x H1 ∧ t σ H1 fun xs H2 => r2 x xs H2 Q)
theorem pe_bs {o e : Expr} {es : List Expr} {to : TE} {t : TA} {name : Str} {apos cpos : Pos} {T1 T2 id1 id2 : String} {r1 r2 : V → List V → Hp → VK → Prop} (k1 : MtK X name T1 id1 r1) (k2 : MtK X name T2 id2 r2) (ho : PE X o to) (ha : PA X (e :: es) t)
    (hbase : attributeBase o name X.env (eval o X.env) = eval o X.env)
    (hfew : ((backTo cpos (starEach (e :: es) X.env)).all (fun x => !x.1) && (backToKw cpos (keywordEach [] X.env)).all (fun x => x.1.isSome)
      && decide ((e :: es).length + ([] : List Keyword).length + (if ([] : List Keyword).isEmpty then 0 else 1) < 30)) = true)
    (hline : (apos.endLine == cpos.line) = true) (hs : starEach (e :: es) X.env = (false, eval e X.env) :: starEach es X.env) (hplain : (backTo cpos (starEach es X.env)).any (·.1) = false) :
    PE X (.Call (.Attribute o name apos) (e :: es) [] cpos) (tBS X.K T1 T2 r1 r2 to t) := by
  refine ⟨fun pins s σ H Q I h => ?_⟩
  refine wpAny_Call_method_late hbase hfew hline rfl (thn (ho.run pins s σ H _ I h) fun v s1 ⟨x, H1, I1, rx, q1⟩ => ?_)
  rcases q1 with ⟨ty, q1⟩ | ⟨ty, q1⟩
  · obtain ⟨h1, h2⟩ := tyS_is I1 rx ty
    refine ⟨T1, id1, k1.pa, k1.slot, k1.ty, h1, h2, ?_⟩
    have hA := ha.run cpos pins s1 σ H1 _ I1 q1
    rw [hs] at hA ⊢
    refine Calls.callWith_builtin (by show (false || (backTo cpos (starEach es X.env)).any (·.1)) = false; rw [hplain] <;> rfl) (Calls.evalArgs_plain ?_)
    exact thn hA fun us s2 ⟨vs, H2, I2, r2, q2⟩ => k1.mt pins s2 σ H2 x vs v us Q I2 rx r2 q2
  · obtain ⟨h1, h2⟩ := tyS_is I1 rx ty
    refine ⟨T2, id2, k2.pa, k2.slot, k2.ty, h1, h2, ?_⟩
    have hA := ha.run cpos pins s1 σ H1 _ I1 q1
    rw [hs] at hA ⊢
    refine Calls.callWith_builtin (by show (false || (backTo cpos (starEach es X.env)).any (·.1)) = false; rw [hplain] <;> rfl) (Calls.evalArgs_plain ?_)
    exact thn hA fun us s2 ⟨vs, H2, I2, r2, q2⟩ => k2.mt pins s2 σ H2 x vs v us Q I2 rx r2 q2
theorem tyS_tup {av : Av} {H : Hp} {a : Addr} {xs : List V} (h : TupAt K av H a xs) : tyS K "tuple" (.ref a) H := by
  rcases h with ⟨⟨o, ho, h⟩, _⟩ | ⟨o, its, n, h1, h2, h3, _⟩
  · exact .inr ⟨rfl, a, o, xs, rfl, ho, h⟩
  · exact .inl (.inr (.inl ⟨rfl, o, h1, h2, h3⟩))
theorem meth_sh {m : Mt} {l : List D} {x : D} {av : Av} {H : Hp} {Q : VK} (q : OKV K av H Q (methR m l x)) : shs 59 l = true ∧ sh 60 x = true := by
  cases m with
  | count => exact shand (OKV.need q).1
  | index => exact shand (OKV.need q).1
theorem s_meth {m : Mt} {o a : Ex} {pa p : Pos} (hK : X.K = K) (hu : X.A.units + 65 < cLine) (hv : isVar o = true) (hl : (pa.endLine == p.line) = true) (ho : PE X o.py (tE K ec C cf W o)) (ha : PE X a.py (tE K ec C cf W a)) :
    PE X (Ex.meth m o a pa p).py (tE K ec C cf W (.meth m o a pa p)) := by
  subst hK
  have pa' := pa_cons ha pa_nil (star_ok a [] X.env)
  have key : ∀ {r1 r2 : V → List V → Hp → VK → Prop}, (∀ (b : Addr) (y : V) (l : List D) (x : D) (av : Av) (H : Hp) (Q : VK), Dp X.K H (.ref b) (.list (pds l)) → Dp X.K H y (pd x) → OKV X.K av H Q (methR m l x) → r1 (.ref b) [y] H Q) →
      (∀ (b : Addr) (y : V) (l : List D) (x : D) (av : Av) (H : Hp) (Q : VK), Dp X.K H (.ref b) (.tuple (pds l)) → Dp X.K H y (pd x) → OKV X.K av H Q (methR m l x) → r2 (.ref b) [y] H Q) → ∀ σ H Q, tE X.K ec C cf W (.meth m o a pa p) σ H Q → tBS X.K "list" "tuple" r1 r2 (tE X.K ec C cf W o) (tCons (tE X.K ec C cf W a) tNil) σ H Q := fun {r1 r2} hr1 hr2 => by
    rintro σ H Q ⟨avC, ow, env, er, h⟩
    simp only [ev] at h
    refine ⟨avC, ow, env, er, (OUT.bind h).mono fun da h v1 H1 s1 w1 _ => ?_⟩
    cases da with
    | lst l =>
      have h : OUT ec W σ H ((ev C cf a env).bind fun y => methR m l y) _ := h
      obtain ⟨b, xs, rfl, hb, rs⟩ := repW_lst w1
      refine .inl ⟨.inl (.inl ⟨rfl, xs, .inl (.inl hb)⟩), avC, ow, env, er.same s1, ((OUT.bind h).same s1).mono fun db h v2 H2 s2 w2 _ => ?_⟩
      have q : OKV X.K (AV avC (drp ow (alI o ++ alI a))) H2 Q (methR m l db) := fin_of (e := .meth m o a pa p) (noex_meth m l db) (s1.trans s2) rfl h
      have hs := meth_sh q
      exact hr1 b v2 l db _ H2 Q ((w1.same s2).dp (by simp only [nd]; exact shs_nds _ _ hs.1)) (w2.dp (sh_nd _ _ hs.2)) q
    | tup l =>
      have h : OUT ec W σ H ((ev C cf a env).bind fun y => methR m l y) _ := h
      obtain ⟨b, xs, rfl, hb, rs⟩ := repW_tup w1
      refine .inr ⟨tyS_tup hb, avC, ow, env, er.same s1, ((OUT.bind h).same s1).mono fun db h v2 H2 s2 w2 _ => ?_⟩
      have q : OKV X.K (AV avC (drp ow (alI o ++ alI a))) H2 Q (methR m l db) := fin_of (e := .meth m o a pa p) (noex_meth m l db) (s1.trans s2) rfl h
      have hs := meth_sh q
      exact hr2 b v2 l db _ H2 Q ((w1.same s2).dp (by simp only [nd]; exact shs_nds _ _ hs.1)) (w2.dp (sh_nd _ _ hs.2)) q
    | _ => exact (show False from OUT.bind h).elim
  have st : (backTo p (starEach [] X.env)).any (·.1) = false := rfl
  have few : ((backTo p (starEach [a.py] X.env)).all (fun x => !x.1) && (backToKw p (keywordEach [] X.env)).all (fun x => x.1.isSome) && decide ([a.py].length + ([] : List Keyword).length + (if ([] : List Keyword).isEmpty then 0 else 1) < 30)) = true := by
    rw [star_ok]
    rfl
  have ix : ∀ {l : List D} {x : D} {av : Av} {H : Hp} {Q : VK}, OKV X.K av H Q (methR .index l x) → shs 59 l = true → sh 60 x = true → ∃ (j : Nat) (z : PyData), (pds l)[j]? = some z ∧ PyData.eqv z (pd x) = true ∧ (∀ (m : Nat) (z' : PyData), m < j → (pds l)[m]? = some z' → PyData.eqv z' (pd x) = false) ∧ Q (.int (j : Nat)) H := fun {l x av H Q} q h1 h2 => by
    obtain ⟨hs, q⟩ := OKV.need q
    cases ei : indexD l x with
    | none => rw [ei] at q; exact (show False from q).elim
    | some j =>
      rw [ei] at q
      obtain ⟨hj, e1, e2⟩ := List.findIdx?_eq_some_iff_getElem.mp ei
      have g1 : l[j]? = some l[j] := List.getElem?_eq_getElem hj
      refine ⟨j, pd l[j], by rw [pds_get, g1]; rfl, ?_, fun k z hk hz => ?_, q.int⟩
      · rw [eqD_pd 59 60 _ _ (shs_get h1 g1) h2]
        exact e1
      · rw [pds_get] at hz
        have hkl : k < l.length := Nat.lt_trans hk hj
        have g2 : l[k]? = some l[k] := List.getElem?_eq_getElem hkl
        rw [g2] at hz
        have hz : pd l[k] = z := Option.some.inj hz
        rw [← hz, eqD_pd 59 60 _ _ (shs_get h1 g2) h2]
        have := e2 k hk
        simpa using this
  cases m with
  | count =>
    refine peImp (pe_bs ⟨PySem.F.plainAttrs_list, PySem.F.slot_list_count, PySem.F.type_list_count, mt_cntD hu⟩ ⟨PySem.F.plainAttrs_tuple, PySem.F.slot_tuple_count, PySem.F.type_tuple_count, mt_cntT hu⟩ ho pa' (attr_base hv _ _) few hl (star_ok _ _ _) st) (key (fun b y l x av H Q d1 d2 q => ?_) fun b y l x av H Q d1 d2 q => ?_)
    · obtain ⟨h1, h2⟩ := meth_sh q
      obtain ⟨hs, q⟩ := OKV.need q
      refine ⟨b, y, pd x, pds l, rfl, rfl, d1, d2, shs_shaped h1 (by decide), sh_shaped h2 (by decide), ?_⟩
      rw [count_pds h2 h1]
      exact q.int
    · obtain ⟨h1, h2⟩ := meth_sh q
      obtain ⟨hs, q⟩ := OKV.need q
      refine ⟨b, y, pd x, pds l, rfl, rfl, d1, d2, shs_shaped h1 (by decide), sh_shaped h2 (by decide), ?_⟩
      rw [count_pds h2 h1]
      exact q.int
  | index =>
    refine peImp (pe_bs ⟨PySem.F.plainAttrs_list, PySem.F.slot_list_index, PySem.F.type_list_index, mt_indexD hu⟩ ⟨PySem.F.plainAttrs_tuple, PySem.F.slot_tuple_index, PySem.F.type_tuple_index, mt_indexT hu⟩ ho pa' (attr_base hv _ _) few hl (star_ok _ _ _) st) (key (fun b y l x av H Q d1 d2 q => ?_) fun b y l x av H Q d1 d2 q => ?_)
    · obtain ⟨h1, h2⟩ := meth_sh q
      obtain ⟨j, z, i1, i2, i3, i4⟩ := ix q h1 h2
      exact ⟨b, y, pd x, pds l, j, z, rfl, rfl, d1, d2, shs_shaped h1 (by decide), sh_shaped h2 (by decide), i1, i2, i3, i4⟩
    · obtain ⟨h1, h2⟩ := meth_sh q
      obtain ⟨j, z, i1, i2, i3, i4⟩ := ix q h1 h2
      exact ⟨b, y, pd x, pds l, j, z, rfl, rfl, d1, d2, shs_shaped h1 (by decide), sh_shaped h2 (by decide), i1, i2, i3, i4⟩
end
/-! ### set(xs) of a list of tuples of ints of which few are unlike -/
def FewT (ks : List (Addr × List Int)) : Prop := ∀ L : List (Addr × List Int), (L.map (·.2)).Nodup → (∀ p ∈ L, p ∈ ks) → L.length + 1 < 64
section
variable {P : Program} {w : World} {A : Around} {E : Value → Shared → Prop} {s : Shared}
theorem setUp {I : Addr} {fp wr : List Addr} {G : Array GenState → Array GenState → Prop} {n : Nat} {Pv : Nat → Value → Prop} {St : Nat → Shared → Prop} {R : Result → Shared → Prop}
    (W : WalksS P w A.in1 I fp wr G n Pv St) (S : Addr) (hSf : S ∉ fp) (ks : List (Addr × List Int)) (hn : n = ks.length) (hfew : FewT ks) (hval : ∀ i v, Pv i v → ∃ p, ks[i]? = some p ∧ v = .ref p.1)
    (h0 : Heap) (hk : ∀ p ∈ ks, IsT P w h0 p.2 p.1) (hS0 : h0.get? S = none) (hw0 : ∀ b ∈ wr, h0.get? b = none) (hu : A.in1.units < cLine) :
    ∀ (k i : Nat) (s : Shared), n - i = k → i ≤ n → St i s → (∀ b o, h0.get? b = some o → s.heap.get? b = some o) → (∃ L es ep t, SetTR P w s.heap S L es ep t ∧ Got ks i L) →
      (∀ s' L es ep t, Moved (S :: wr) G s s' → SetTR P w s'.heap S L es ep t → Got ks n L → (∀ b o, h0.get? b = some o → s'.heap.get? b = some o) → R (.ok (.ret .none)) s') →
      codeAny (model P w) A (.builtin "set.update.loop" ⟨[.ref S, .ref I], []⟩) R s := by
  have hSw : S ∉ wr := fun h => hSf (W.sub _ h)
  have up : ∀ b ∈ wr, b ∈ S :: wr := fun b hb => List.mem_cons_of_mem _ hb
  have keepM : ∀ {s s' : Shared}, Moved wr G s s' → (∀ b o, h0.get? b = some o → s.heap.get? b = some o) → ∀ b o, h0.get? b = some o → s'.heap.get? b = some o := fun hm hkp b o e =>
    hm.heap b o (fun hb => by rw [hw0 b hb] at e; cases e) (hkp b o e)
  have subs : ∀ {i : Nat} {L : List (Addr × List Int)}, Got ks i L → ∀ p ∈ L, p ∈ ks := fun g p hp => List.mem_of_mem_take (g.sub p hp)
  intro k
  induction k with
  | zero =>
    intro i s hk' hi hst hkp ⟨L, es, ep, t, hS, g⟩ hR
    obtain rfl : i = n := by omega
    refine codeAny_builtin F.entry_set_update_loop ?_
    rw [Around.under_plainId F.plain_set_update_loop _]
    refine wpAny_bind (W.done s _ _ hst fun s' hm => ?_)
    have hkp' := keepM hm hkp
    exact wpAny_pure (hR s' L es ep t (hm.mono up) (hS.keep (fun o e => hm.heap S o hSw e) fun p hp => isT_keep (hk p (subs g p hp)) hkp') g hkp')
  | succ k ih =>
    intro i s hk' hi hst hkp ⟨L, es, ep, t, hS, g⟩ hR
    have hlt : i < n := by omega
    refine codeAny_builtin F.entry_set_update_loop ?_
    rw [Around.under_plainId F.plain_set_update_loop _]
    refine wpAny_bind (W.item i s _ _ hlt hst fun v s' hP hst' hm => ?_)
    obtain ⟨p, hp, rfl⟩ := hval i v hP
    have hkp' := keepM hm hkp
    have hS' : SetTR P w s'.heap S L es ep t := hS.keep (fun o e => hm.heap S o hSw e) fun q hq => isT_keep (hk q (subs g q hq)) hkp'
    have hx : IsT P w s'.heap p.2 p.1 := isT_keep (hk p (List.mem_of_getElem? hp)) hkp'
    show wpAny _ A.in1 (holding [Value.ref p.1] (setAdd S (.ref p.1)) >>= _) _ _ s'
    refine wpAny_bind (wpAny_holding ?_)
    unfold setAdd
    refine wpAny_holding (wpAny_bind (wpAny_pyHash_tuple hu hx ?_))
    refine add_at (s := { s' with toks := s'.toks + (p.2.length + 1) }) hS' hx hu (hfew L hS.nd (subs g)) fun b h' L' es' ep' t' hsb hS2 c1 c2 => ?_
    have g' : Got ks (i + 1) L' := by
      by_cases c : p.2 ∈ L.map (·.2)
      · rw [c1 c]; exact g.same hp c
      · exact g.more hp (c2 c)
    have hkp2 : ∀ b o, h0.get? b = some o → h'.get? b = some o := fun b o e => (hsb.2 b (fun z => by rw [z, hS0] at e; cases e)).trans (hkp' b o e)
    refine wpAny_pure ⟨plainId_quiet F.plain_set_update_loop _, ih (i + 1) _ (by omega) hlt (W.frame _ s' _ _ hst' (Nat.le_add_right _ _) fun b hb o e => ?_) hkp2 ⟨L', es', ep', t', hS2, g'⟩ fun s'' L2 es2 ep2 t2 hm'' hS'' g'' hkp'' => ?_⟩
    · rw [hsb.2 b (fun h : b = S => hSf (by rw [← h]; exact hb))]; exact e
    · refine hR s'' L2 es2 ep2 t2 (Moved.trans W.gtrans ((hm.mono up).then_heap (Nat.le_add_right _ _) fun b o hb e => ?_) hm'') hS'' g'' hkp''
      rw [hsb.2 b (fun h : b = S => hb (by rw [h]; exact List.mem_cons_self))]; exact e
end
/-! ### set(t), t a tuple of tuples of ints -/
abbrev setN (w : World) : Obj := { cls := .type "set", dict := none, data := .set #[] 0 (.fresh 0 0 (!w.params.followText "set-order")) }
section
variable {P : Program} {w : World} {A : Around} {E : Value → Shared → Prop} {s : Shared}
theorem call_setF {l : Addr} {items : Array Value} (ks : List (Addr × List Int)) {Q : Value → Shared → Prop} (hh : A.handled = none) (hl : s.heap.IsList l items) (hit : items.toList = ks.map fun p => Value.ref p.1) (hk : ∀ p ∈ ks, IsT P w s.heap p.2 p.1) (hfew : FewT ks) (hu : A.units + 3 < cLine)
    (h : ∀ (h' : Heap) (tk : Nat) L es ep t, SetTR P w h' s.heap.objs.size L es ep t → Got ks ks.length L → (∀ b o, s.heap.get? b = some o → h'.get? b = some o) → Q (.ref s.heap.objs.size) { s with heap := h', toks := tk }) :
    wpAny (model P w) A (call (.type "set") [.ref l]) Q E s := by
  have hisz : items.size = ks.length := by
    have q := congrArg List.length hit
    rw [Array.length_toList, List.length_map] at q
    exact q
  obtain ⟨c, tl, hmro⟩ := F.called_set.mro
  have hmade := F.called_set.made
  have hsub := F.called_set.sub
  refine wpAny_call (codeAny_of_tree ?_)
  show wpAny _ _ (callAny (.type "set") _) _ _ _
  refine wpAny_pure ⟨Code.quiet_builtin _ (by decide +kernel), codeAny_builtin F.entry_type_call ?_⟩
  rw [Around.under_plain (weight_type_call_type "set" [.ref l] []) rfl]
  have h1 := F.called_set.notType
  have h2 := F.called_set.canCreate
  have hct := F.typeCall_set_1 (.ref l)
  repeat (any_goals (first | assumption | wp_step))
  refine codeAny_mono (code_set_led1 (.ref l) (E := E) (Q₁ := fun obj s₁ => obj = .ref s.heap.objs.size ∧ s₁ = { s with heap := s.heap.push (setN w) }) ⟨rfl, rfl⟩) fun r s₁ hr => ?_
  cases r with
  | error e => exact hr
  | ok fl =>
    cases fl with
    | ret obj =>
      obtain ⟨rfl, rfl⟩ := hr
      have hS : (s.heap.push (setN w)).get? s.heap.objs.size = some (setN w) := Heap.get?_push_size _ rfl
      have hT : Shared.TypeIs { s with heap := s.heap.push (setN w) } (.ref s.heap.objs.size) "set" := ⟨_, hS, rfl⟩
      have hli := F.called_set.init.lookup
      have hbi := F.called_set.init.bind (.ref s.heap.objs.size)
      repeat (any_goals (first | assumption | wp_step))
      refine codeAny_mono (codeAny_call_builtin (R := wants (fun r s₂ => r = .none ∧ ∃ h' tk L es ep t, s₂ = { s with heap := h', toks := tk } ∧ SetTR P w h' s.heap.objs.size L es ep t ∧ Got ks ks.length L ∧ (∀ b o, s.heap.get? b = some o → h'.get? b = some o)) E) F.called_set.init.plain F.entry_set_init (check_set_init_1 hT ?_)) fun r₂ s₂ hr₂ => ?_
      · obtain ⟨ol, hol, hcl, nl, hdl⟩ := hl
        obtain ⟨ocls, odict, odata, oslots⟩ := ol
        simp only at hcl hdl
        subst hcl; subst hdl
        have hol' : (s.heap.push (setN w)).get? l = some { cls := .type "list", dict := odict, data := .seq items nl, slots := oslots } := Heap.get?_push_of_some _ hol
        have hsls := F.sub_list_set
        have hslf := F.sub_list_frozenset
        have hne : (Value.type "list" == Value.type "dict") = false := by decide
        have hl1 : (s.heap.push (setN w)).IsList l items := ⟨_, hol', rfl, nl, rfl⟩
        unfold Builtin.«set.__init__» noKeywords Builtin.Frozenset.updateFrom
        generalize hPI : pyIter = PI
        wp_walk
        subst hPI
        refine wpAny_pyIter_list hl1 ?_
        refine wpAny_bind (wpAny_runValue ?_)
        have hlS : l < s.heap.objs.size := Heap.lt_size hol
        have hh3 : A.in1.in1.in1.handled = none := by simp [hh]
        have hneI : l ≠ (s.heap.push (setN w)).objs.size := by
          rw [Heap.size_push]; exact Nat.ne_of_lt (Nat.lt_succ_of_lt hlS)
        have hSf : s.heap.objs.size ∉ [(s.heap.push (setN w)).objs.size, l] := by
          rw [Heap.size_push]; simp only [List.mem_cons, List.mem_singleton, List.not_mem_nil, or_false, not_or]
          exact ⟨Nat.ne_of_lt (Nat.lt_succ_self _), Nat.ne_of_gt hlS⟩
        have hval : ∀ (i : Nat) (v : Value), items[i]? = some v → ∃ p, ks[i]? = some p ∧ v = .ref p.1 := fun i v hv => by
          have q : items.toList[i]? = some v := by rw [Array.getElem?_toList]; exact hv
          rw [hit, List.getElem?_map] at q
          cases hq : ks[i]? with
          | none => rw [hq] at q; cases q
          | some p =>
            rw [hq] at q
            exact ⟨p, rfl, (Option.some.inj q).symm⟩
        have none_of : ∀ b, s.heap.objs.size ≤ b → s.heap.get? b = none := fun b hb => by
          cases q : s.heap.get? b with
          | none => rfl
          | some o => exact absurd (Nat.lt_of_lt_of_le (Heap.lt_size q) hb) (Nat.lt_irrefl _)
        refine setUp ((Walks.list hh3 _ l hneI items).toS) s.heap.objs.size hSf ks hisz hfew hval s.heap hk (none_of _ (Nat.le_refl _)) (fun b hb => none_of b (by
            rw [List.mem_singleton.mp hb, Heap.size_push]
            exact Nat.le_succ _)) hu (items.size - 0) 0 _ (by omega) (Nat.zero_le _) ⟨⟨_, Heap.get?_push_size _ rfl, rfl, rfl⟩, (hl1.push _)⟩ (fun b o e => Heap.get?_push_of_some _ (Heap.get?_push_of_some _ e)) ?hS0 ?hR
        case hS0 =>
          have hget : ((s.heap.push (setN w)).push { cls := .type "list_iterator", data := .fields #[.ref l, .int 0 0] }).get? s.heap.objs.size = some (setN w) := Heap.get?_push_of_some _ hS
          exact ⟨[], #[], 0, _, setTR_fresh hget, Got.zero ks⟩
        case hR =>
          intro s' L es ep t hm hS' g' hkp
          obtain ⟨h', g2, d', tk', os'⟩ := s'
          have eg : g2 = s.gens := hm.gens
          have ed : d' = s.drawn := hm.drawn
          have eo : os' = s.os := hm.os
          subst eg; subst ed; subst eo
          show wpAny _ _ _ _ _ _
          refine wpAny_pure ?_
          show wpAny _ _ (ret Value.none) _ _ _
          rw [hisz] at g'
          exact wpAny_pure ⟨rfl, h', tk', L, es, ep, t, rfl, hS', g', hkp⟩
      · cases r₂ with
        | error e => exact hr₂
        | ok fl₂ =>
          cases fl₂ with
          | ret r =>
            obtain ⟨rfl, h', tk, L, es, ep, t, rfl, hS', g', hk'⟩ := hr₂
            repeat (any_goals (first | assumption | wp_step))
            exact h _ _ _ _ _ _ hS' g' hk'
          | _ => exact hr₂.elim
    | _ => exact hr.elim
end
section
variable {P : Program} {w : World} {A : Around} {E : Value → Shared → Prop} {s : Shared}
theorem call_setT {l : Addr} {items : Array Value} (ks : List (Addr × List Int)) {Q : Value → Shared → Prop} (hh : A.handled = none) (hl : s.heap.IsTuple l items) (hit : items.toList = ks.map fun p => Value.ref p.1) (hk : ∀ p ∈ ks, IsT P w s.heap p.2 p.1) (hfew : ks.length < 64) (hu : A.units + 3 < cLine)
    (h : ∀ (h' : Heap) (tk : Nat) L es ep t, SetTR P w h' s.heap.objs.size L es ep t → Got ks ks.length L → (∀ b o, s.heap.get? b = some o → h'.get? b = some o) → Q (.ref s.heap.objs.size) { s with heap := h', toks := tk }) :
    wpAny (model P w) A (call (.type "set") [.ref l]) Q E s := by
  have hisz : items.size = ks.length := by
    have q := congrArg List.length hit
    rw [Array.length_toList, List.length_map] at q
    exact q
  obtain ⟨c, tl, hmro⟩ := F.called_set.mro
  have hmade := F.called_set.made
  have hsub := F.called_set.sub
  refine wpAny_call (codeAny_of_tree ?_)
  show wpAny _ _ (callAny (.type "set") _) _ _ _
  refine wpAny_pure ⟨Code.quiet_builtin _ (by decide +kernel), codeAny_builtin F.entry_type_call ?_⟩
  rw [Around.under_plain (weight_type_call_type "set" [.ref l] []) rfl]
  have h1 := F.called_set.notType
  have h2 := F.called_set.canCreate
  have hct := F.typeCall_set_1 (.ref l)
  repeat (any_goals (first | assumption | wp_step))
  refine codeAny_mono (code_set_led1 (.ref l) (E := E) (Q₁ := fun obj s₁ => obj = .ref s.heap.objs.size ∧ s₁ = { s with heap := s.heap.push (setN w) }) ⟨rfl, rfl⟩) fun r s₁ hr => ?_
  cases r with
  | error e => exact hr
  | ok fl =>
    cases fl with
    | ret obj =>
      obtain ⟨rfl, rfl⟩ := hr
      have hS : (s.heap.push (setN w)).get? s.heap.objs.size = some (setN w) := Heap.get?_push_size _ rfl
      have hT : Shared.TypeIs { s with heap := s.heap.push (setN w) } (.ref s.heap.objs.size) "set" := ⟨_, hS, rfl⟩
      have hli := F.called_set.init.lookup
      have hbi := F.called_set.init.bind (.ref s.heap.objs.size)
      repeat (any_goals (first | assumption | wp_step))
      refine codeAny_mono (codeAny_call_builtin (R := wants (fun r s₂ => r = .none ∧ ∃ h' tk L es ep t, s₂ = { s with heap := h', toks := tk } ∧ SetTR P w h' s.heap.objs.size L es ep t ∧ Got ks ks.length L ∧ (∀ b o, s.heap.get? b = some o → h'.get? b = some o)) E) F.called_set.init.plain F.entry_set_init (check_set_init_1 hT ?_)) fun r₂ s₂ hr₂ => ?_
      · obtain ⟨ol, hol, hcl, nl, hdl⟩ := hl
        obtain ⟨ocls, odict, odata, oslots⟩ := ol
        simp only at hcl hdl
        subst hcl; subst hdl
        have hol' : (s.heap.push (setN w)).get? l = some { cls := .type "tuple", dict := odict, data := .seq items nl, slots := oslots } := Heap.get?_push_of_some _ hol
        have hsls := F.sub_tuple_set
        have hslf := F.sub_tuple_frozenset
        have hne : (Value.type "tuple" == Value.type "dict") = false := by decide
        have hl1 : (s.heap.push (setN w)).IsTuple l items := ⟨_, hol', rfl, nl, rfl⟩
        unfold Builtin.«set.__init__» noKeywords Builtin.Frozenset.updateFrom
        generalize hPI : pyIter = PI
        wp_walk
        subst hPI
        refine wpAny_pyIter_tuple hl1 ?_
        refine wpAny_bind (wpAny_runValue ?_)
        have hlS : l < s.heap.objs.size := Heap.lt_size hol
        have hh3 : A.in1.in1.in1.handled = none := by simp [hh]
        have hneI : l ≠ (s.heap.push (setN w)).objs.size := by
          rw [Heap.size_push]; exact Nat.ne_of_lt (Nat.lt_succ_of_lt hlS)
        have hSf : s.heap.objs.size ∉ [(s.heap.push (setN w)).objs.size, l] := by
          rw [Heap.size_push]; simp only [List.mem_cons, List.mem_singleton, List.not_mem_nil, or_false, not_or]
          exact ⟨Nat.ne_of_lt (Nat.lt_succ_self _), Nat.ne_of_gt hlS⟩
        have hval : ∀ (i : Nat) (v : Value), items[i]? = some v → ∃ p, ks[i]? = some p ∧ v = .ref p.1 := fun i v hv => by
          have q : items.toList[i]? = some v := by rw [Array.getElem?_toList]; exact hv
          rw [hit, List.getElem?_map] at q
          cases hq : ks[i]? with
          | none => rw [hq] at q; cases q
          | some p =>
            rw [hq] at q
            exact ⟨p, rfl, (Option.some.inj q).symm⟩
        have none_of : ∀ b, s.heap.objs.size ≤ b → s.heap.get? b = none := fun b hb => by
          cases q : s.heap.get? b with
          | none => rfl
          | some o => exact absurd (Nat.lt_of_lt_of_le (Heap.lt_size q) hb) (Nat.lt_irrefl _)
        refine set_update_tups ((Walks.tuple hh3 _ l hneI items).toS) s.heap.objs.size hSf ks hisz hfew hval s.heap hk (none_of _ (Nat.le_refl _)) (fun b hb => none_of b (by
            rw [List.mem_singleton.mp hb, Heap.size_push]
            exact Nat.le_succ _)) hu (items.size - 0) 0 _ (by omega) (Nat.zero_le _) ⟨⟨_, Heap.get?_push_size _ rfl, rfl, rfl⟩, (hl1.push _)⟩ (fun b o e => Heap.get?_push_of_some _ (Heap.get?_push_of_some _ e)) ?hS0 ?hR
        case hS0 =>
          have hget : ((s.heap.push (setN w)).push { cls := .type "tuple_iterator", data := .fields #[.ref l, .int 0 0] }).get? s.heap.objs.size = some (setN w) := Heap.get?_push_of_some _ hS
          exact ⟨[], #[], 0, _, setTR_fresh hget, Got.zero ks⟩
        case hR =>
          intro s' L es ep t hm hS' g' hkp
          obtain ⟨h', g2, d', tk', os'⟩ := s'
          have eg : g2 = s.gens := hm.gens
          have ed : d' = s.drawn := hm.drawn
          have eo : os' = s.os := hm.os
          subst eg; subst ed; subst eo
          show wpAny _ _ _ _ _ _
          refine wpAny_pure ?_
          show wpAny _ _ (ret Value.none) _ _ _
          rw [hisz] at g'
          exact wpAny_pure ⟨rfl, h', tk', L, es, ep, t, rfl, hS', g', hkp⟩
      · cases r₂ with
        | error e => exact hr₂
        | ok fl₂ =>
          cases fl₂ with
          | ret r =>
            obtain ⟨rfl, h', tk, L, es, ep, t, rfl, hS', g', hk'⟩ := hr₂
            repeat (any_goals (first | assumption | wp_step))
            exact h _ _ _ _ _ _ hS' g' hk'
          | _ => exact hr₂.elim
    | _ => exact hr.elim
end
def rSetTT (K : PySem.W.Frag) (P : Program) (w : World) : List V → Hp → VK → Prop := fun xs H Q => ∃ (l : Addr) (ks : List (Addr × List Int)), xs = [V.ref l] ∧ (SqL K H l (ks.map fun p => V.ref p.1) ∨ SqT K H l (ks.map fun p => V.ref p.1)) ∧ (∀ p ∈ ks, SqT K H p.1 (p.2.map V.int)) ∧ (ks.length < 64 ∨ (FewT ks ∧ SqL K H l (ks.map fun p => V.ref p.1))) ∧
  ∀ a L, H a = none → (∀ p ∈ L, p ∈ ks) → (∀ p ∈ ks, p.2 ∈ L.map (·.2)) → Q (.ref a) (upd H a (SetTO P w a L))
theorem cr_setTT {X : Cx} (hc : X.calm = true) (hu : X.A.units + 64 < cLine) : CallR X (.type "set") (rSetTT X.K X.prog X.w) := by
  intro pins s σ H xs us Q I r h
  obtain ⟨l, ks, rfl, hl, hk, hf, q⟩ := h
  rcases hf with hf | ⟨hf, hl⟩
  rotate_left
  · rw [Vals.ref1 r]
    obtain ⟨its, rv, pl, hz⟩ := I.list hl
    have hn : H s.heap.objs.size = none := I.hok.fresh (Nat.le_refl _)
    refine call_setF (P := X.prog) (w := X.w) ks (I.ok.hd hc) (by obtain ⟨o, n, e1, e2, e3, e4⟩ := pl; exact ⟨o, e1, e2, n, e4⟩) (by simpa using refs_of_vals rv) (fun p hp => I.isT (hk p hp)) hf (by omega) fun h' tk L es ep t R g k => ?_
    refine ⟨.ref s.heap.objs.size, upd H s.heap.objs.size (SetTO X.prog X.w s.heap.objs.size L), I.laid (t' := tk) k (Nat.le_refl _) (setTO_new R.t0), rfl, q _ L hn (fun p hp => ?_) fun p hp => ?_⟩
    · exact List.mem_of_mem_take (g.sub p hp)
    · exact g.all p (by rw [List.take_length]; exact hp)
  rcases hl with hl | hl
  · exact cr_setOfT hc hu pins s σ H _ us Q I r ⟨l, ks, rfl, hl, hk, hf, q⟩
  · rw [Vals.ref1 r]
    obtain ⟨its, rv, pl, hz⟩ := I.tuple hl
    have hn : H s.heap.objs.size = none := I.hok.fresh (Nat.le_refl _)
    refine call_setT (P := X.prog) (w := X.w) ks (I.ok.hd hc) pl (by simpa using refs_of_vals rv) (fun p hp => I.isT (hk p hp)) hf (by omega) fun h' tk L es ep t R g k => ?_
    refine ⟨.ref s.heap.objs.size, upd H s.heap.objs.size (SetTO X.prog X.w s.heap.objs.size L), I.laid (t' := tk) k (Nat.le_refl _) (setTO_new R.t0), rfl, q _ L hn (fun p hp => ?_) fun p hp => ?_⟩
    · exact List.mem_of_mem_take (g.sub p hp)
    · exact g.all p (by rw [List.take_length]; exact hp)
end Li

/-! texts: join, split, each second sign -/
namespace Li
open PySem PySem.Spec L2
open PyProof.Rows hiding St
theorem all_strs : ∀ {l : List D}, l.all isStr = true → l = (l.map toS).map D.str
  | [], _ => rfl
  | d :: l, h => by
    rw [List.all_cons, Bool.and_eq_true] at h
    rw [List.map_cons, List.map_cons, ← all_strs h.2]
    cases d with
    | str x => rfl
    | _ => cases h.1
section
variable {X : Cx} {K : PySem.W.Frag} {ec : Nat → Value} {C : List D} {cf : Nat → List D → Res D} {W : WX}
theorem s_join {x : Str} {k : Nat} {px pa : Pos} {a : Ex} {p : Pos} (hK : X.K = K) (hl : (pa.endLine == p.line) = true) (ha : PE X a.py (tE K ec C cf W a)) :
    PE X (Ex.join x k px pa a p).py (tE K ec C cf W (.join x k px pa a p)) := by
  subst hK
  refine peImp (pe_join (X := X) (pe_str (x := x) (j := k) (pos := px)) ha (star_ok a [] X.env) rfl hl) ?_
  rintro σ H Q ⟨avC, ow, env, er, h⟩
  simp only [ev] at h
  refine ⟨⟨x, rfl⟩, avC, ow, env, er, (OUT.bind h).mono fun d h v H1 s1 w1 _ => ?_⟩
  have q : OKV X.K (AV avC (drp ow [])) H1 Q (joinR x d) := fin_of (e := .join x k px pa a p) (noex_join x d) s1 rfl h
  have main : ∀ (b : Addr) (xs : List V) (l : List D), v = .ref b → (SqL X.K H1 b xs ∨ SqT X.K H1 b xs) → (∃ av, Reps X.K av H1 xs l) → OKV X.K (AV avC (drp ow [])) H1 Q (need (joinOk x l) (.ok (.str (Str.join x (l.map toS))))) →
      ∃ a p, ∃ ys : List Str, V.str x = .str a ∧ [v] = [.ref p] ∧ (SqL X.K H1 p (ys.map V.str) ∨ SqT X.K H1 p (ys.map V.str)) ∧ (ys.map (·.length)).sum + ys.length * a.length ≤ 16777216 ∧ Q (.str (Txt.join a ys)) H1 := by
    rintro b xs l rfl hs ⟨av, rs⟩ q
    obtain ⟨h0, q⟩ := OKV.need q
    unfold joinOk at h0
    obtain ⟨h1, h2⟩ := shand h0
    have h2 := of_decide_eq_true h2
    rw [all_strs h1] at rs
    have ex := reps_of_strs rs
    subst ex
    have hL : (LIM : Nat) = 1000000 := rfl
    refine ⟨x, b, l.map toS, rfl, rfl, hs, ?_, ?_⟩
    · rw [List.length_map]
      omega
    · rw [TL.join_eq]
      exact q.str
  cases d with
  | lst l =>
    obtain ⟨b, xs, e, hb, rs⟩ := repW_lst w1
    exact main b xs l e (.inl (.inl (.inl hb))) ⟨_, rs⟩ q
  | tup l =>
    obtain ⟨b, xs, e, hb, rs⟩ := repW_tup w1
    exact main b xs l e (.inr hb.sq) ⟨_, rs⟩ q
  | _ => exact (show False from q).elim
theorem s_split {o a : Ex} {pa p : Pos} (hK : X.K = K) (hl : (pa.endLine == p.line) = true) (h0 : notC0 o = true) (ho : PE X o.py (tE K ec C cf W o)) (ha : PE X a.py (tE K ec C cf W a)) :
    PE X (Ex.split o a pa p).py (tF K ec C cf W (.split o a pa p)) := by
  subst hK
  refine peImp (pe_split (X := X) ho ha (star_ok a [] X.env) (attr_notC0 h0 _ _) hl) ?_
  rintro σ H Q ⟨avC, ow, env, er, h⟩
  simp only [ev] at h
  refine ⟨avC, ow, env, er, (OUT.bind h).mono fun d h v H1 s1 w1 _ => ?_⟩
  cases d with
  | str z =>
    cases w1
    have h : OUT ec W σ H ((ev C cf a env).bind fun y => splitR z y) _ := h
    refine ⟨⟨z, rfl⟩, avC, ow, env, er.same s1, ((OUT.bind h).same s1).mono fun e h v2 H2 s2 w2 _ => ?_⟩
    have q : OKV X.K (AV avC (drp ow [])) H2 Q (splitR z e) := finF_of (e := .split o a pa p) (noex_split _ _) (s1.trans s2) h
    cases e with
    | str y =>
      cases w2
      obtain ⟨h1, q⟩ := OKV.need q
      obtain ⟨h1, h2⟩ := shand h1
      have h1 := of_decide_eq_true h1
      have h2 := of_decide_eq_true h2
      have hlm := lim
      refine ⟨z, y, rfl, rfl, by simpa using h1, by omega, fun b hb => ?_⟩
      exact OKV.lst q ((er.same (s1.trans s2)).dom' _) (reps_strs _) b hb
    | _ => exact (show False from q).elim
  | _ => exact (show False from OUT.bind h).elim
/-- e[lo::2] of a text -/
theorem pe_stepR {e : Expr} {te : TE} {lo : Option Expr} {tl : St → Hp → (Option Int → Hp → Prop) → Prop} {k : Nat} {p1 p3 pos : Pos} (he : PE X e te) (hlo : PO X lo tl) :
    PE X (.Subscript e (.Slice lo none (some (.Constant (.int 2) k p1)) p3) pos) (fun σ H Q => te σ H fun x H1 => tl σ H1 fun l H2 => ∃ z, x = .str z ∧ z.length ≤ LIM ∧ Q (.str (stepS z l)) H2) := by
  refine ⟨fun pins s σ H Q I h => ?_⟩
  refine Subscript_ (thn (he.run pins s σ H _ I h) fun v s1 ⟨x, H1, I1, r1, q1⟩ => ?_)
  have hst : PO X (some (.Constant (.int 2) k p1)) (tPart (tC (.int 2))) := po_some pe_int
  refine wpAny_Slice (thn (hlo.run pins s1 σ H1 _ I1 q1) fun vl s2 ⟨l, H2, I2, pl, q⟩ => ?_)
  obtain ⟨z, rfl, hz, q⟩ := q
  refine thn (po_none.run pins s2 σ H2 (fun o H3 => o = none ∧ H3 = H2) I2 ⟨rfl, rfl⟩) fun vu s3 ⟨u, H3, I3, pu, eu, e3⟩ => ?_
  subst eu e3
  refine thn (hst.run pins s3 σ H3 (fun o H4 => o = some 2 ∧ H4 = H3) I3 ⟨2, rfl, rfl, rfl⟩) fun vs s4 ⟨o, H4, I4, ps, eo, e4⟩ => ?_
  subst eo e4
  have I5 : Inv X pins σ H4 { s4 with heap := s4.heap.push { cls := .type "slice", data := .fields #[vl, vu, vs] } } := I4.kept (t' := s4.toks) fun b ob q => Heap.get?_push_of_some _ q
  have hl := lim
  obtain ⟨t, rfl⟩ := r1
  cases pu
  obtain ⟨pl', rfl, rfl⟩ := IsPart.raw pl
  obtain ⟨tk, rfl⟩ : ∃ tk, vs = Value.int 2 tk := by cases ps; exact ⟨_, rfl⟩
  show wpAny (model X.prog X.w) X.A (subscriptTail e (.Slice lo none (some (.Constant (.int 2) k p1)) p3) (.str z t) (.ref s4.heap.objs.size)) (EP X pins σ Q) X.xe { s4 with heap := s4.heap.push { cls := .type "slice", data := .fields #[partValue pl', .none, .int 2 tk] } }
  refine tail_any (ops := [.str z t, .ref s4.heap.objs.size]) (typeIs_str _ _ _) F.slot_str_getitem.lookup ?_ (by with_unfolding_all rfl)
  refine wpAny_getItem_str_slice (l := pl') (u := none) (st := some (2, tk)) ⟨_, Heap.get?_push_size _ rfl, rfl, rfl⟩ rfl ?_
  have e0 : sliceMade z t pl' none (some (2, tk)) = Made.str (stepS z (pl'.map (·.1))) := by
    unfold sliceMade
    rw [if_neg (by simp)]
    rfl
  rw [e0]
  refine ⟨?_, .str _, H4, I5.tok _, ⟨_, rfl⟩, q⟩
  show (((Builtin.Str.strSliceIndices (pl'.map (·.1)) none 2 z.length).filterMap (z.cps[·]?)).toArray).size ≤ sizeLine
  rw [List.size_toArray]
  refine Nat.le_trans (List.length_filterMap_le _ _) ?_
  have hn : (Builtin.Str.strSliceIndices (pl'.map (·.1)) none 2 z.length).length ≤ z.length := by
    have e : Builtin.Str.strSliceIndices (pl'.map (·.1)) none 2 z.length = sliceRange (clipS z.length 0 (pl'.map (·.1))) (z.length : Int) 2 := by
      cases pl'.map (·.1) <;> rfl
    rw [e, clipS_eq]
    unfold sliceRange
    rw [List.length_map, List.length_range, if_pos (by decide)]
    split <;> omega
  omega
theorem s_step {a : Ex} {lo : Exo} {k : Nat} {pc ps p : Pos} (hK : X.K = K) (ha : PE X a.py (tE K ec C cf W a)) (hlo : ∀ a, lo = .some a → PE X a.py (tE K ec C cf W a)) :
    PE X (Ex.step a lo k pc ps p).py (tE K ec C cf W (.step a lo k pc ps p)) := by
  subst hK
  refine peImp (pe_stepR ha (s_oi hlo)) ?_
  rintro σ H Q ⟨avC, ow, env, er, h⟩
  simp only [ev] at h
  refine ⟨avC, ow, env, er, (OUT.bind h).mono fun d h v H1 s1 w1 r1 => ?_⟩
  refine ⟨avC, ow, env, er.same s1, ((OUT.bind h).same s1).mono fun l h H2 s2 => ?_⟩
  have q : OKV X.K (AV avC (drp ow [])) H2 Q (stepR d l) := fin_of (e := .step a lo k pc ps p) (noex_step _ _) (s1.trans s2) rfl h
  cases d with
  | str z =>
    cases w1
    obtain ⟨h1, q⟩ := OKV.need q
    exact ⟨z, rfl, of_decide_eq_true h1, q.str⟩
  | _ => exact (show False from q).elim
end
end Li

/-! sorted(set(l)), l a list of ints -/
namespace Li
open PySem PySem.Spec PyProof.Rows L2 HT
section
variable {P : Program} {w : World} {A : Around} {E : Value → Shared → Prop} {s : Shared}
theorem call_setI {l : Addr} {items : Array Value} (ns : List Int) {Q : Value → Shared → Prop} (hh : A.handled = none) (hl : s.heap.IsList l items) (hit : IntsAre items.toList ns) (hb : ns.length + 1 < scanBound)
    (h : ∀ (h' : Heap) (tk c : Nat), SetR w h' s.heap.objs.size (fun j => decide (j ∈ ns)) c → c ≤ ns.length → (∀ b o, s.heap.get? b = some o → h'.get? b = some o) → Q (.ref s.heap.objs.size) { s with heap := h', toks := tk }) :
    wpAny (model P w) A (call (.type "set") [.ref l]) Q E s := by
  have len : items.size = ns.length := by
    have q := IntsAre.length hit
    rwa [Array.length_toList] at q
  obtain ⟨c, tl, hmro⟩ := F.called_set.mro
  have hmade := F.called_set.made
  have hsub := F.called_set.sub
  refine wpAny_call (codeAny_of_tree ?_)
  show wpAny _ _ (callAny (.type "set") _) _ _ _
  refine wpAny_pure ⟨Code.quiet_builtin _ (by decide +kernel), codeAny_builtin F.entry_type_call ?_⟩
  rw [Around.under_plain (weight_type_call_type "set" [.ref l] []) rfl]
  have h1 := F.called_set.notType
  have h2 := F.called_set.canCreate
  have hct := F.typeCall_set_1 (.ref l)
  repeat (any_goals (first | assumption | wp_step))
  refine codeAny_mono (code_set_led1 (.ref l) (E := E) (Q₁ := fun obj s₁ => obj = .ref s.heap.objs.size ∧ s₁ = { s with heap := s.heap.push (setN w) }) ⟨rfl, rfl⟩) fun r s₁ hr => ?_
  cases r with
  | error e => exact hr
  | ok fl =>
    cases fl with
    | ret obj =>
      obtain ⟨rfl, rfl⟩ := hr
      have hS : (s.heap.push (setN w)).get? s.heap.objs.size = some (setN w) := Heap.get?_push_size _ rfl
      have hT : Shared.TypeIs { s with heap := s.heap.push (setN w) } (.ref s.heap.objs.size) "set" := ⟨_, hS, rfl⟩
      have hli := F.called_set.init.lookup
      have hbi := F.called_set.init.bind (.ref s.heap.objs.size)
      repeat (any_goals (first | assumption | wp_step))
      refine codeAny_mono (codeAny_call_builtin (R := wants (fun r s₂ => r = .none ∧ ∃ h' tk c, s₂ = { s with heap := h', toks := tk } ∧ SetR w h' s.heap.objs.size (fun j => decide (j ∈ ns)) c ∧ c ≤ ns.length ∧ (∀ b o, s.heap.get? b = some o → h'.get? b = some o)) E) F.called_set.init.plain F.entry_set_init (check_set_init_1 hT ?_)) fun r₂ s₂ hr₂ => ?_
      · obtain ⟨ol, hol, hcl, nl, hdl⟩ := hl
        obtain ⟨ocls, odict, odata, oslots⟩ := ol
        simp only at hcl hdl
        subst hcl; subst hdl
        have hol' : (s.heap.push (setN w)).get? l = some { cls := .type "list", dict := odict, data := .seq items nl, slots := oslots } := Heap.get?_push_of_some _ hol
        have hsls := F.sub_list_set
        have hslf := F.sub_list_frozenset
        have hne : (Value.type "list" == Value.type "dict") = false := by decide
        have hl1 : (s.heap.push (setN w)).IsList l items := ⟨_, hol', rfl, nl, rfl⟩
        unfold Builtin.«set.__init__» noKeywords Builtin.Frozenset.updateFrom
        generalize hPI : pyIter = PI
        wp_walk
        subst hPI
        refine wpAny_pyIter_list hl1 ?_
        refine wpAny_bind (wpAny_runValue ?_)
        have lS : l < s.heap.objs.size := Heap.lt_size hol
        have hh3 : A.in1.in1.in1.handled = none := by simp [hh]
        have ne1 : l ≠ (s.heap.push (setN w)).objs.size := by
          rw [Heap.size_push]
          exact Nat.ne_of_lt (Nat.lt_succ_of_lt lS)
        have ne2 : s.heap.objs.size ∉ [(s.heap.push (setN w)).objs.size, l] := by
          rw [Heap.size_push]
          simp only [List.mem_cons, List.mem_singleton, List.not_mem_nil, or_false, not_or]
          exact ⟨Nat.ne_of_lt (Nat.lt_succ_self _), Nat.ne_of_gt lS⟩
        have val : ∀ (i : Nat) (v : Value), items[i]? = some v → ∃ k t, ns[i]? = some k ∧ v = .int k t := fun i v hv => by
          have hi : i < ns.length := by
            rw [← len]
            exact (Array.getElem?_eq_some_iff.mp hv).1
          obtain ⟨t, e⟩ := PyProof.Rows.IntsAre.int_at hit i v (by rw [Array.getElem?_toList]; exact hv)
          refine ⟨ns[i], t, List.getElem?_eq_getElem hi, ?_⟩
          rw [e, List.getD_eq_getElem?_getD, List.getElem?_eq_getElem hi] <;> rfl
        refine set_update_ints ((Walks.list hh3 _ l ne1 items).toS) s.heap.objs.size ne2 ns len hb val (items.size - 0) 0 _ (by omega) (Nat.zero_le _) ⟨⟨_, Heap.get?_push_size _ rfl, rfl, rfl⟩, (hl1.push _)⟩ ?st ?en
        case st =>
          have hget : ((s.heap.push (setN w)).push { cls := .type "list_iterator", data := .fields #[.ref l, .int 0 0] }).get? s.heap.objs.size = some (setN w) := Heap.get?_push_of_some _ hS
          exact ⟨0, Nat.le_refl 0, setR_new_at hget⟩
        case en =>
          intro s' c' hm hc' hS'
          obtain ⟨h', g2, d', tk', os'⟩ := s'
          have eg : g2 = s.gens := hm.gens
          have ed : d' = s.drawn := hm.drawn
          have eo : os' = s.os := hm.os
          subst eg; subst ed; subst eo
          show wpAny _ _ _ _ _ _
          refine wpAny_pure ?_
          show wpAny _ _ (ret Value.none) _ _ _
          rw [len] at hc'
          refine wpAny_pure ⟨rfl, h', tk', c', rfl, hS', hc', fun b o e => ?_⟩
          have b0 : b < s.heap.objs.size := Heap.lt_size e
          have b2 : b ≠ (s.heap.push (setN w)).objs.size := by
            rw [Heap.size_push]
            exact Nat.ne_of_lt (Nat.lt_succ_of_lt b0)
          refine hm.heap b o ?_ (Heap.get?_push_of_some _ (Heap.get?_push_of_some _ e))
          simp only [List.mem_cons, List.mem_singleton, List.not_mem_nil, or_false, not_or]
          exact ⟨Nat.ne_of_lt b0, b2⟩
      · cases r₂ with
        | error e => exact hr₂
        | ok fl₂ =>
          cases fl₂ with
          | ret r =>
            obtain ⟨rfl, h', tk, c', rfl, hS', hc', hk'⟩ := hr₂
            repeat (any_goals (first | assumption | wp_step))
            exact h _ _ _ hS' hc' hk'
          | _ => exact hr₂.elim
    | _ => exact hr.elim
end
/-- a set of ints -/
def SetIO (w : World) (a : Addr) (S : Int → Bool) (n : Nat) : HO := .ext fun h => SetR w h a S n
theorem setIO_new {P : Program} {w : World} {H : Hp} {h : Heap} {a : Addr} {S : Int → Bool} {n : Nat} (R : SetR w h a S n) : ObjOk P w H h a (SetIO w a S n) := by
  have ⟨o, es, ep, t, ho, r⟩ := R
  refine ⟨R, ⟨o, ho⟩, fun h1 h2 p k => ?_⟩
  obtain ⟨o', es', ep', t', ho', r'⟩ := p
  exact ⟨o', es', ep', t', k o' ho', r'⟩
def rSetI (K : PySem.W.Frag) (w : World) : List V → Hp → VK → Prop := fun xs H Q => ∃ (l : Addr) (ns : List Int), xs = [V.ref l] ∧ SqL K H l (ns.map V.int) ∧ ns.length < 64 ∧ ∀ a c, H a = none → c ≤ ns.length → Q (.ref a) (upd H a (SetIO w a (fun j => decide (j ∈ ns)) c))
theorem cr_setI {X : Cx} (hc : X.calm = true) : CallR X (.type "set") (rSetI X.K X.w) := by
  intro pins s σ H xs us Q I r h
  obtain ⟨l, ns, rfl, hl, hf, q⟩ := h
  rw [Vals.ref1 r]
  obtain ⟨its, rv, pl, hz⟩ := I.list hl
  have hn : H s.heap.objs.size = none := I.hok.fresh (Nat.le_refl _)
  refine call_setI (P := X.prog) (w := X.w) ns (I.ok.hd hc) pl.isList (by simpa using Vals.ints rv) (by unfold scanBound; omega) fun h' tk c R hle k => ?_
  exact ⟨.ref s.heap.objs.size, upd H s.heap.objs.size (SetIO X.w s.heap.objs.size _ c), I.laid (t' := tk) k (Nat.le_refl _) (setIO_new R), rfl, q _ c hn hle⟩
def rSortedI (w : World) : List V → Hp → VK → Prop := fun vs H Q => ∃ (a : Addr) (S : Int → Bool) (n : Nat), vs = [V.ref a] ∧ H a = some (SetIO w a S n) ∧ n < 64 ∧
  ∀ (ns : List Int) (p : Addr), ns.Pairwise (· < ·) → (∀ k, k ∈ ns ↔ S k = true) → H p = none → Q (.ref p) (upd H p (.lst (ns.map V.int)))
theorem vals_ints : ∀ {us : List Value} {ns : List Int}, IntsAre us ns → Vals (ns.map V.int) us
  | _, _, .nil => .nil
  | _, _, .cons n t h => .cons ⟨t, rfl⟩ (vals_ints h)
theorem cr_sortedSI {X : Cx} (hc : X.calm = true) : CallR X (.builtin "sorted") (rSortedI X.w) := by
  intro pins s σ H vs us Q I r h
  obtain ⟨a, S, n, rfl, ha, hf, q⟩ := h
  have R : SetR X.w s.heap a S n := (I.hok a _ ha).1
  rw [Vals.ref1 r]
  refine sorted_set (P := X.prog) R (I.ok.hd hc) hf fun s' p out c ns k g o hp hg hi pw hmem hlen => ?_
  have hl2 : (ns.map V.int).length ≤ sizeLine := by
    rw [List.length_map, sizeLine_eq]
    omega
  have hn : H p = none := I.hok.fresh hp
  have J : Inv X pins σ (upd H p (.lst (ns.map V.int))) { s with heap := s'.heap, gens := s'.gens, drawn := s'.drawn, toks := s'.toks } :=
    I.call (ch := []) (Un.laid k hp hn) (I.hok.laid k hp ⟨hl2, out.toList, c, vals_ints hi, hg⟩) (by rw [g]; exact I.bare) (fun _ z => nomatch z)
  have e : s' = { s with heap := s'.heap, gens := s'.gens, drawn := s'.drawn, toks := s'.toks } := by
    cases s'
    cases s
    cases o
    rfl
  rw [e]
  exact ⟨.ref p, _, J, rfl, q ns p pw hmem hn⟩
theorem crOr {X : Cx} {f : Value} {r1 r2 : List V → Hp → VK → Prop} (h1 : CallR X f r1) (h2 : CallR X f r2) : CallR X f (fun vs H Q => r1 vs H Q ∨ r2 vs H Q) := by
  intro pins s σ H xs us Q I r h
  rcases h with h | h
  · exact h1 pins s σ H xs us Q I r h
  · exact h2 pins s σ H xs us Q I r h
/-! the plain side -/
theorem srt_int_uniq : ∀ {ns ms : List Int}, ns.Pairwise (· < ·) → ms.Pairwise (· < ·) → (∀ k, k ∈ ns ↔ k ∈ ms) → ns = ms
  | [], [], _, _, _ => rfl
  | [], m :: ms, _, _, h => by have := (h m).mpr List.mem_cons_self; cases this
  | n :: ns, [], _, _, h => by have := (h n).mp List.mem_cons_self; cases this
  | n :: ns, m :: ms, h1, h2, h => by
    obtain ⟨a1, a2⟩ := List.pairwise_cons.mp h1
    obtain ⟨b1, b2⟩ := List.pairwise_cons.mp h2
    have e : n = m := by
      have x1 := (h n).mp List.mem_cons_self
      have x2 := (h m).mpr List.mem_cons_self
      rcases List.mem_cons.mp x1 with e | x1
      · exact e
      · rcases List.mem_cons.mp x2 with e | x2
        · exact e.symm
        · have := a1 m x2
          have := b1 n x1
          omega
    subst e
    rw [srt_int_uniq a2 b2 fun k => ?_]
    constructor
    · intro hk
      have := a1 k hk
      rcases List.mem_cons.mp ((h k).mp (List.mem_cons_of_mem _ hk)) with e | x
      · omega
      · exact x
    · intro hk
      have := b1 k hk
      rcases List.mem_cons.mp ((h k).mpr (List.mem_cons_of_mem _ hk)) with e | x
      · omega
      · exact x
end Li
namespace Li
open PySem PySem.Spec PyProof.Rows L2 HT
def onceI : List Int → List Int → List Int
  | acc, [] => acc
  | acc, x :: l => onceI (if x ∈ acc then acc else acc ++ [x]) l
theorem inD_int (x : Int) : ∀ acc : List Int, inD (.int x) (acc.map D.int) = decide (x ∈ acc)
  | [] => rfl
  | y :: acc => by
    show (eqD (.int y) (.int x) || inD (.int x) (acc.map D.int)) = _
    have e : eqD (.int y) (.int x) = (y == x) := by simp [eqD]
    rw [inD_int x acc, e]
    by_cases h : y = x
    · simp [h]
    · have : ¬ x = y := fun z => h z.symm
      simp [h, this]
theorem onceD_int : ∀ (l acc : List Int), (l.map D.int).foldl (fun acc x => if inD x acc = true then acc else acc ++ [x]) (acc.map D.int) = (onceI acc l).map D.int
  | [], acc => rfl
  | x :: l, acc => by
    rw [List.map_cons, List.foldl_cons, inD_int]
    by_cases h : x ∈ acc
    · rw [decide_eq_true h, if_pos rfl, onceD_int l acc]
      simp only [onceI, if_pos h]
    · rw [decide_eq_false h, if_neg (by decide)]
      have e : acc.map D.int ++ [D.int x] = (acc ++ [x]).map D.int := by rw [List.map_append]; rfl
      rw [e, onceD_int l (acc ++ [x])]
      simp only [onceI, if_neg h]
theorem onceI_nd : ∀ (l acc : List Int), acc.Nodup → (onceI acc l).Nodup ∧ ∀ k, k ∈ onceI acc l ↔ k ∈ acc ∨ k ∈ l
  | [], acc, h => ⟨h, fun k => by simp [onceI]⟩
  | x :: l, acc, h => by
    by_cases hx : x ∈ acc
    · simp only [onceI, if_pos hx]
      obtain ⟨a, b⟩ := onceI_nd l acc h
      refine ⟨a, fun k => ?_⟩
      rw [b k, List.mem_cons]
      constructor
      · rintro (h | h)
        · exact .inl h
        · exact .inr (.inr h)
      · rintro (h | rfl | h)
        · exact .inl h
        · exact .inl hx
        · exact .inr h
    · simp only [onceI, if_neg hx]
      obtain ⟨a, b⟩ := onceI_nd l (acc ++ [x]) (by
        rw [List.nodup_append]
        exact ⟨h, List.nodup_cons.mpr ⟨List.not_mem_nil, List.nodup_nil⟩, fun a ha b hb => by rw [List.mem_singleton.mp hb]; rintro rfl; exact hx ha⟩)
      refine ⟨a, fun k => ?_⟩
      rw [b k, List.mem_append, List.mem_singleton, List.mem_cons, or_assoc]
/-- ints, each once, rising -/
theorem srtOnce_int (l : List Int) : ∃ ms : List Int, sortD (onceD (l.map D.int)) = ms.map D.int ∧ ms.Pairwise (· < ·) ∧ ∀ k, k ∈ ms ↔ k ∈ l := by
  have e1 : onceD (l.map D.int) = (onceI [] l).map D.int := onceD_int l []
  obtain ⟨nd, mem⟩ := onceI_nd l [] List.nodup_nil
  rw [e1]
  generalize onceI [] l = m at nd mem
  have e2 : m.map D.int = (m.map fun i => [i]).map uI := by rw [List.map_map]; rfl
  have e3 : sortD (m.map D.int) = (sortL (m.map fun i => [i])).map uI := by
    rw [e2, sortD_map ltD_uI]
    intro y hy
    obtain ⟨i, _, rfl⟩ := List.mem_map.mp hy
    exact ⟨i, rfl⟩
  have pm := sortL_perm (m.map fun i => [i])
  have each : ∀ x ∈ sortL (m.map fun i => [i]), ∃ i, x = [i] := fun x hx => by
    obtain ⟨i, _, rfl⟩ := List.mem_map.mp (pm.mem_iff.mp hx)
    exact ⟨i, rfl⟩
  obtain ⟨ms, hms, hlen⟩ : ∃ ms : List Int, sortL (m.map fun i => [i]) = ms.map (fun i => [i]) ∧ True := by
    generalize sortL (m.map fun i => [i]) = S at each
    induction S with
    | nil => exact ⟨[], rfl, trivial⟩
    | cons x S ih =>
      obtain ⟨i, rfl⟩ := each x List.mem_cons_self
      obtain ⟨ms, e, _⟩ := ih fun y hy => each y (List.mem_cons_of_mem _ hy)
      exact ⟨i :: ms, by rw [e]; rfl, trivial⟩
  have pm2 : (ms.map fun i => [i]).Perm (m.map fun i => [i]) := hms ▸ pm
  have pm3 : ms.Perm m := by
    have := pm2.map (fun x : List Int => x.headD 0)
    rw [List.map_map, List.map_map] at this
    have e : ((fun x : List Int => x.headD 0) ∘ fun i => [i]) = id := rfl
    rwa [e, List.map_id, List.map_id] at this
  refine ⟨ms, by rw [e3, hms, List.map_map]; rfl, ?_, fun k => ?_⟩
  · have srt : SrtL (ms.map fun i => [i]) := hms ▸ sortL_srt _
    rw [SrtL, List.pairwise_map] at srt
    refine (srt.and (pm3.nodup_iff.mpr nd)).imp fun {a b} h => ?_
    have h1 := h.1
    have h2 : a ≠ b := h.2
    rw [HT.lexLt_cons, HT.lexLt_nil_nil] at h1
    by_cases e : b = a
    · exact absurd e.symm h2
    · rw [if_neg e] at h1
      have := of_decide_eq_false h1
      omega
  · rw [pm3.mem_iff, mem k]
    simp
end Li

/-! zip of three: tuple, tuple, list -/
namespace Li
open PySem PySem.Spec L2
open PyProof.Rows hiding St
/-- the tuples at a, b and the list at c as they stand at each turn, the items in new tuples -/
def Itz3 (K : PySem.W.Frag) (a b c : Addr) : It :=
  ⟨fun i H => ∃ (xs ys zs : List V) (x y z : V), SqT K H a xs ∧ SqT K H b ys ∧ SqL K H c zs ∧ xs[i]? = some x ∧ ys[i]? = some y ∧ zs[i]? = some z,
    fun i H v H' => ∃ T x y z, v = .ref T ∧ H T = none ∧ H' = upd H T (.tup [x, y, z]) ∧ (∀ xs, SqT K H a xs → xs[i]? = some x) ∧ (∀ ys, SqT K H b ys → ys[i]? = some y) ∧ ∀ zs, SqL K H c zs → zs[i]? = some z,
    fun i H => ∃ xs ys zs : List V, SqT K H a xs ∧ SqT K H b ys ∧ SqL K H c zs ∧ i ≤ xs.length ∧ i ≤ ys.length ∧ i ≤ zs.length ∧ (i = xs.length ∨ i = ys.length ∨ i = zs.length)⟩
theorem turn_zip3 {P : Program} {w : World} {K : PySem.W.Frag} {elts : List Expr} {kk : Nat} {tpos : Pos} {a b c z TI TO i1 i2 i3 : Addr} (S : ZipSep3 z TI TO i1 i2 i3 [i1, a] [i2, b] [i3, c]) (na : a ≠ i1) (nb : b ≠ i2) (nc : c ≠ i3) :
    Turn P w K (.Tuple elts kk tpos) (Itz3 K a b c) [z, TI, TO, i1, i2, i3] z (fun i h => IsZip h z TI TO .none ∧ IsTupOf3 h TI (.ref i1) (.ref i2) (.ref i3) ∧ (∃ x y u, IsTupOf3 h TO x y u) ∧ h.IsTupleIter i1 a i ∧ h.IsTupleIter i2 b i ∧ h.IsListIter i3 c i) where
  mem := by simp
  obj := fun i h st d hd => by
    obtain ⟨hz, hTI, ⟨x, y, u, hTO⟩, ⟨o1, e1, _, d1⟩, ⟨o2, e2, _, d2⟩, ⟨o3, e3, _, d3⟩⟩ := st
    have e' : d = z ∨ d = TI ∨ d = TO ∨ d = i1 ∨ d = i2 ∨ d = i3 := by simpa using hd
    rcases e' with q | q | q | q | q | q
    · rw [q]; exact ⟨_, hz, fun v q => nomatch q⟩
    · rw [q]; exact ⟨_, hTI, fun v q => nomatch q⟩
    · rw [q]; exact ⟨_, hTO, fun v q => nomatch q⟩
    · rw [q]; exact ⟨o1, e1, fun v q => by rw [d1] at q; cases q⟩
    · rw [q]; exact ⟨o2, e2, fun v q => by rw [d2] at q; cases q⟩
    · rw [q]; exact ⟨o3, e3, fun v q => by rw [d3] at q; cases q⟩
  keep := fun i h h' st k => by
    obtain ⟨hz, hTI, ⟨x, y, u, hTO⟩, h1, h2, h3⟩ := st
    exact ⟨k z (by simp) _ hz, k TI (by simp) _ hTI, ⟨x, y, u, k TO (by simp) _ hTO⟩, h1.at fun o q => k i1 (by simp) o q, h2.at fun o q => k i2 (by simp) o q, h3.at fun o q => k i3 (by simp) o q⟩
  item := by
    intro X hP hw hK hc i pins s σ H E I hf st hg
    subst hP hw hK
    obtain ⟨hz, hTI, ⟨x0, y0, u0, hTO⟩, h1, h2, h3⟩ := st
    obtain ⟨xs, ys, zs, x, y, q, hqx, hqy, hqz, hx, hy, hq⟩ := hg
    obtain ⟨its, rv, p, _⟩ := I.tuple hqx
    obtain ⟨its2, rv2, p2, _⟩ := I.tuple hqy
    obtain ⟨its3, rv3, p3, _⟩ := I.list hqz
    obtain ⟨u, hu, ru⟩ := rv.get hx
    obtain ⟨u2, hu2, ru2⟩ := rv2.get hy
    obtain ⟨u3, hu3, ru3⟩ := rv3.get hq
    have hzl : z < s.heap.objs.size := Heap.lt_size hz
    have hh : X.A.in1.handled = none := I.ok.hd hc
    have l1 : i < its.toArray.size := by rw [List.size_toArray]; exact (List.getElem?_eq_some_iff.mp hu).1
    have l2 : i < its2.toArray.size := by rw [List.size_toArray]; exact (List.getElem?_eq_some_iff.mp hu2).1
    have l3 : i < its3.toArray.size := by rw [List.size_toArray]; exact (List.getElem?_eq_some_iff.mp hu3).1
    refine wpAny_pyNext_zipD3_item S (Draws.tuple hh i1 a na its.toArray) (Draws.tuple hh i2 b nb its2.toArray) (Draws.list hh i3 c nc its3.toArray) hz hTI hTO ⟨h1, p⟩ ⟨h2, p2⟩ ⟨h3, p3.isList⟩ l1 l2 l3 fun x1 x2 x3 h' tk g1 g2 g3 z' TO' h1' h2' h3' hT hsz hk => ?_
    have k1 : x1 = u := by rw [List.getElem?_toArray, hu] at g1; exact (Option.some.inj g1).symm
    have k2 : x2 = u2 := by rw [List.getElem?_toArray, hu2] at g2; exact (Option.some.inj g2).symm
    have k3 : x3 = u3 := by rw [List.getElem?_toArray, hu3] at g3; exact (Option.some.inj g3).symm
    subst k1 k2 k3
    refine ⟨_, rfl, wpAny_letOwnedTupleGo_zip (s := { s with heap := h', toks := tk }) z' fun h'' z'' sb => ?_⟩
    have hT2 : h''.get? s.heap.objs.size = some { cls := .type "tuple", data := .seq #[x1, x2, x3] } := (sb.2 _ (Nat.ne_of_gt hzl)).trans hT
    have new : ObjOk X.prog X.w (upd H s.heap.objs.size (.tup [x, y, q])) h'' s.heap.objs.size (.tup [x, y, q]) :=
      ⟨by show 3 ≤ sizeLine; decide, [x1, x2, x3], .cons ru (.cons ru2 (.cons ru3 .nil)), ⟨_, hT2, rfl, _, rfl⟩⟩
    have I1 : Inv X pins σ (upd H s.heap.objs.size (.tup [x, y, q])) { s with heap := h'', toks := tk } :=
      I.turnedNew (t' := tk) (ch := [z, TI, TO, i1, i2, i3]) (fun c o hb e => (sb.2 c (fun q' => hb (by simp [q']))).trans (hk c o (fun q' => hb (by simp [q'])) (fun q' => hb (by simp [q'])) (fun q' => hb (by simp [q'])) (fun q' => hb (by simp [q'])) (fun q' => hb (by simp [q'])) e)) hf (Nat.le_refl _) new
    refine ⟨.ref s.heap.objs.size, _, I1, rfl, ⟨_, x, y, q, rfl, I.hok.fresh (Nat.le_refl _), rfl, fun l hl => by rw [I.tuple_inj hl hqx]; exact hx, fun l hl => by rw [I.tuple_inj hl hqy]; exact hy, fun l hl => by rw [I.list_inj hl hqz]; exact hq⟩, ⟨z'', ?_, ⟨x1, x2, x3, ?_⟩, ?_, ?_, ?_⟩, fun d hcm => ?_⟩
    · exact (sb.2 _ S.TIz).trans (hk _ _ S.TIz S.TITO S.TIi1 S.TIi2 S.TIi3 hTI)
    · exact (sb.2 _ S.TOz).trans TO'
    · exact h1'.1.at fun o e => (sb.2 _ S.zi1.symm).trans e
    · exact h2'.1.at fun o e => (sb.2 _ S.zi2.symm).trans e
    · exact h3'.1.at fun o e => (sb.2 _ S.zi3.symm).trans e
    · have hlt : d < s.heap.objs.size := by
        have e' : d = z ∨ d = TI ∨ d = TO ∨ d = i1 ∨ d = i2 ∨ d = i3 := by simpa using hcm
        rcases e' with e | e | e | e | e | e
        · rw [e]; exact hzl
        · rw [e]; exact Heap.lt_size hTI
        · rw [e]; exact Heap.lt_size hTO
        · rw [e]; obtain ⟨_, e1, _⟩ := h1; exact Heap.lt_size e1
        · rw [e]; obtain ⟨_, e2, _⟩ := h2; exact Heap.lt_size e2
        · rw [e]; obtain ⟨_, e3, _⟩ := h3; exact Heap.lt_size e3
      rw [upd_ne (Nat.ne_of_lt hlt)]
      exact (hf d hcm).1
  done := by
    intro X hP hw hK hc i pins s σ H E I hf st hg
    subst hP hw hK
    obtain ⟨hz, hTI, ⟨x0, y0, u0, hTO⟩, h1, h2, h3⟩ := st
    obtain ⟨xs, ys, zs, hqx, hqy, hqz, le1, le2, le3, hend⟩ := hg
    obtain ⟨its, rv, p, _⟩ := I.tuple hqx
    obtain ⟨its2, rv2, p2, _⟩ := I.tuple hqy
    obtain ⟨its3, rv3, p3, _⟩ := I.list hqz
    have l1 := rv.length
    have l2 := rv2.length
    have l3 := rv3.length
    have hh : X.A.in1.handled = none := I.ok.hd hc
    exact wpAny_pyNext_zipD3_end S (Draws.tuple hh i1 a na its.toArray) (Draws.tuple hh i2 b nb its2.toArray) (Draws.list hh i3 c nc its3.toArray) hz hTI hTO ⟨h1, p⟩ ⟨h2, p2⟩ ⟨h3, p3.isList⟩
      (by rw [List.size_toArray]; omega) (by rw [List.size_toArray]; omega) (by rw [List.size_toArray]; omega) (by rw [List.size_toArray, List.size_toArray, List.size_toArray]; omega)
      fun h' tk hk => ⟨rfl, I.turnedL (t' := tk) (ch := [z, TI, TO, i1, i2, i3]) (fun c o hb e =>
        hk c o (fun q' => hb (by simp [q'])) (fun q' => hb (by simp [q'])) (fun q' => hb (by simp [q'])) (fun q' => hb (by simp [q'])) (fun q' => hb (by simp [q'])) e) hf⟩
  self := fun A i s Q E st h => wpAny_pyIter_zip st.1 h
theorem sep3 (I a b c : Nat) (h1 : a < I) (h2 : b < I) (h3 : c < I) : ZipSep3 (I + 5) (I + 3) (I + 4) I (I + 1) (I + 2) [I, a] [I + 1, b] [I + 2, c] := by
  constructor <;> first
    | (refine PySem.W.neN ?_; omega)
    | exact List.mem_cons_self
    | (intro h
       rcases List.mem_cons.mp h with h | h
       · have : (_ : Nat) = _ := h
         omega
       · have : (_ : Nat) = _ := List.mem_singleton.mp h
         omega)
def iZip3 (K : PySem.W.Frag) (ta : TA) : TI := fun σ H R => ta σ H fun vs H1 => ∃ a b c xs ys zs, vs = [.ref a, .ref b, .ref c] ∧ SqT K H1 a xs ∧ SqT K H1 b ys ∧ SqL K H1 c zs ∧ R (Itz3 K a b c) H1
theorem pi_zip3 {X : Cx} {e e2 e3 : Expr} {ta : TA} {p pos tpos : Pos} {elts : List Expr} {kk : Nat} (hg : Gl X "zip") (hm : X.mg "zip" = none) (ha : PA X [e, e2, e3] ta)
    (hs : starEach [e, e2, e3] X.env = (false, eval e X.env) :: starEach [e2, e3] X.env) (hpl : (backTo pos (starEach [e2, e3] X.env)).any (·.1) = false) :
    PI X (.Tuple elts kk tpos) (.Call (.Name "zip" p) [e, e2, e3] [] pos) (iZip3 X.K ta) := by
  refine ⟨fun pins s σ H R I h => ?_⟩
  refine Call_ (ld_blt I hg hm PyProof.Rows.boot_zip (PyProof.Rows.callWith_type1 (thn (ha.run pos pins s σ H _ I h) fun us s1 ⟨vs, H1, I1, r1, q1⟩ => ?_) hs hpl))
  obtain ⟨a, b, c, xs, ys, zs, ex, hqx, hqy, hqz, q⟩ := q1
  subst ex
  cases r1 with
  | cons r rr =>
    cases rr with
    | cons r' rr =>
      cases rr with
      | cons r'' rr =>
        cases rr
        cases r
        cases r'
        cases r''
        obtain ⟨its, rv, p1, _⟩ := I1.tuple hqx
        obtain ⟨its2, rv2, p2, _⟩ := I1.tuple hqy
        obtain ⟨its3, rv3, p3, _⟩ := I1.list hqz
        obtain ⟨o1, ho1, _⟩ := id p1
        obtain ⟨o2, ho2, _⟩ := id p2
        have la : a < s1.heap.objs.size := Heap.lt_size ho1
        have lb : b < s1.heap.objs.size := Heap.lt_size ho2
        have lc : c < s1.heap.objs.size := p3.lt
        refine zip_begins3 (begins_tuple a its.toArray) (begins_tuple b its2.toArray) (begins_list c its3.toArray) p1 p2 p3.isList fun h' hz hTI hTO h1 h2 h3 hsz hk => wpAny_pyIter_zip hz ?_
        have I2 : Inv X pins σ H1 { s1 with heap := h' } := I1.kept (t' := s1.toks) hk
        refine ⟨s1.heap.objs.size + 5, [s1.heap.objs.size + 5, s1.heap.objs.size + 3, s1.heap.objs.size + 4, s1.heap.objs.size, s1.heap.objs.size + 1, s1.heap.objs.size + 2], _, _, H1, rfl, I2, turn_zip3 (sep3 s1.heap.objs.size a b c la lb lc) (Nat.ne_of_lt la) (Nat.ne_of_lt (Nat.lt_of_lt_of_le lb (Nat.le_add_right _ _))) (Nat.ne_of_lt (Nat.lt_of_lt_of_le lc (Nat.le_add_right _ _))), ⟨hz, hTI, ⟨_, _, _, hTO⟩, ⟨_, h1, rfl, rfl⟩, ⟨_, h2, rfl, rfl⟩, ⟨_, h3, rfl, rfl⟩⟩, fun d hcm => ?_, q⟩
        have e' : d = s1.heap.objs.size + 5 ∨ d = s1.heap.objs.size + 3 ∨ d = s1.heap.objs.size + 4 ∨ d = s1.heap.objs.size ∨ d = s1.heap.objs.size + 1 ∨ d = s1.heap.objs.size + 2 := by simpa using hcm
        have hle : s1.heap.objs.size ≤ d := by
          rcases e' with z | z | z | z | z | z
          · rw [z]; exact Nat.le_add_right _ _
          · rw [z]; exact Nat.le_add_right _ _
          · rw [z]; exact Nat.le_add_right _ _
          · rw [z]; exact Nat.le_refl _
          · rw [z]; exact Nat.le_add_right _ _
          · rw [z]; exact Nat.le_add_right _ _
        exact I1.fpOk hle (I1.hok.fresh hle)
end Li

/-! walks, targets, comprehensions -/
namespace Li
open PySem PySem.Spec L2
open PyProof.Rows hiding St
/-- what a walk hands out: data, or a pair that is taken apart at once -/
def RepI (K : PySem.W.Frag) (pr : Bool) (av : Av) (H : Hp) (v : V) (d : D) : Prop := Rep K av H v d ∨ (pr = true ∧ ∃ a xs ds, v = .ref a ∧ d = .tup ds ∧ SqT K H a xs ∧ Reps K av H xs ds)
def prI : Itx → Bool
  | .enum _ _ _ => true
  | .zip _ _ _ _ => true
  | .zip3 _ _ _ _ _ => true
  | _ => false
structure WalkD (K : PySem.W.Frag) (pr : Bool) (avS avI : Av) (J : It) (ds : List D) (G : Hp → Prop) : Prop where
  go : ∀ i H, i < ds.length → G H → J.go i H
  stop : ∀ H, G H → J.stop ds.length H
  yld : ∀ i H x H', G H → J.yld i H x H' → Same H H' ∧ ∀ d, ds[i]? = some d → ∀ av, (∀ a, av a → avI a) → Dom av H → RepI K pr av H' x d
  stab : ∀ H H', G H → Ext avS H H' → G H'
/-- the slots whose list is walked itself -/
def alv : Itx → List Nat
  | .seq e => al e
  | .rng1 _ _ _ => []
  | .rng2 _ _ _ _ => []
  | .rngd _ _ _ _ _ _ _ => []
  | .enum e _ _ => al e
  | .zip a b _ _ => al a ++ al b
  | .zip3 a b c _ _ => al a ++ (al b ++ al c)
theorem ali_alv (it : Itx) : ∀ i, i ∈ ali it → i ∈ alv it := by
  intro i h
  cases it with
  | seq e => exact alI_sub e i h
  | rng1 => exact h
  | rng2 => exact h
  | rngd => exact h
  | enum e => exact alI_sub e i h
  | zip a b =>
    rcases List.mem_append.mp h with h | h
    · exact List.mem_append_left _ (alI_sub a i h)
    · exact List.mem_append_right _ (alI_sub b i h)
  | zip3 a b c =>
    rcases List.mem_append.mp h with h | h
    · exact List.mem_append_left _ (alI_sub a i h)
    · rcases List.mem_append.mp h with h | h
      · exact List.mem_append_right _ (List.mem_append_left _ (alI_sub b i h))
      · exact List.mem_append_right _ (List.mem_append_right _ (alI_sub c i h))
def tI (K : PySem.W.Frag) (ec : Nat → Value) (C : List D) (cf : Nat → List D → Res D) (W : WX) (it : Itx) : TI := fun σ H R => ∃ avC ow env, ER K avC ow env σ H ∧
  OUT ec W σ H (evi C cf it env) fun ds => ∀ J H1 G, Same H H1 → WalkD K (prI it) (Wid (AV avC (drp ow (alv it))) H1) (Wid (AV avC (drp ow (ali it))) H1) J ds G → G H1 → R J H1
theorem piImp {X : Cx} {tg it : Expr} {w w' : TI} (h : PI X tg it w) (k : ∀ σ H R, w' σ H R → w σ H R) : PI X tg it w' := ⟨fun pins s σ H R I q => h.run pins s σ H R I (k σ H R q)⟩
theorem piOr {X : Cx} {tg it : Expr} {w w' : TI} (h : PI X tg it w) (h' : PI X tg it w') : PI X tg it (fun σ H R => w σ H R ∨ w' σ H R) :=
  ⟨fun pins s σ H R I q => q.elim (h.run pins s σ H R I) (h'.run pins s σ H R I)⟩
theorem Ext.wid {av av' : Av} {H1 H H' : Hp} (h : ∀ a, av a → av' a) (e : Ext (Wid av H1) H H') : Ext (Wid av' H1) H H' := fun a o n q => e a o (fun z => n (z.elim (fun z => .inl (h a z)) .inr)) q
section
variable {K : PySem.W.Frag}
theorem wk_list {av av' : Av} {H1 : Hp} {a : Addr} {xs : List V} {ds : List D} (hs : ∀ a, av a → av' a) (h : H1 a = some (.lst xs)) (n : ¬ av a) (r : Reps K av' H1 xs ds) :
    WalkD K false (Wid av H1) (Wid av' H1) (Itl K a) ds (fun H => H a = some (.lst xs) ∧ Reps K (Wid av' H1) H xs ds) ∧ (H1 a = some (.lst xs) ∧ Reps K (Wid av' H1) H1 xs ds) := by
  have hl := r.length
  refine ⟨⟨fun i H hi g => ⟨xs, xs[i]'(by omega), SqL.of g.1, by simp⟩, fun H g => ⟨xs, SqL.of g.1, by omega⟩, fun i H x H' g y => ?_, fun H H' g e => ⟨e a _ (fun z => z.elim n fun z => by rw [h] at z; cases z) g.1, g.2.ext (e.wid hs)⟩⟩, h, r.wid⟩
  obtain ⟨rfl, y⟩ := y
  refine ⟨Same.refl _, fun d hd av2 h2 dm => ?_⟩
  obtain ⟨d', e, r'⟩ := g.2.get (y xs (SqL.of g.1))
  rw [hd] at e
  cases e
  exact .inl (r'.mono h2)
theorem wk_tup {av av' : Av} {H1 : Hp} {a : Addr} {xs : List V} {ds : List D} (hs : ∀ a, av a → av' a) (h : TupAt K av H1 a xs) (r : Reps K av' H1 xs ds) :
    WalkD K false (Wid av H1) (Wid av' H1) (Itt K a) ds (fun H => TupAt K (Wid av H1) H a xs ∧ Reps K (Wid av' H1) H xs ds) ∧ (TupAt K (Wid av H1) H1 a xs ∧ Reps K (Wid av' H1) H1 xs ds) := by
  have hl := r.length
  have h' : TupAt K (Wid av H1) H1 a xs := by
    rcases h with ⟨h, n⟩ | h
    · exact .inl ⟨h, fun z => z.elim n (ct_some h)⟩
    · exact .inr h
  refine ⟨⟨fun i H hi g => ⟨xs, xs[i]'(by omega), g.1.sq, by simp⟩, fun H g => ⟨xs, g.1.sq, by omega⟩, fun i H x H' g y => ?_, fun H H' g e => ⟨g.1.ext e, g.2.ext (e.wid hs)⟩⟩, h', r.wid⟩
  obtain ⟨rfl, y⟩ := y
  refine ⟨Same.refl _, fun d hd av2 h2 dm => ?_⟩
  obtain ⟨d', e, r'⟩ := g.2.get (y xs g.1.sq)
  rw [hd] at e
  cases e
  exact .inl (r'.mono h2)
theorem wk_str {av av' : Av} (z : Str) : WalkD K false av av' (Its z) (chS z) (fun _ => True) := by
  have hl : (chS z).length = z.cps.size := by unfold chS; rw [List.length_map, Array.length_toList]
  refine ⟨fun i H hi _ => by rw [hl] at hi; exact hi, fun H _ => by rw [hl]; exact Nat.le_refl _, fun i H x H' _ y => ?_, fun H H' _ _ => trivial⟩
  obtain ⟨rfl, c, hc, rfl⟩ := y
  refine ⟨Same.refl _, fun d hd av2 h2 dm => ?_⟩
  unfold chS at hd
  rw [List.getElem?_map, Array.getElem?_toList, hc] at hd
  cases hd
  exact .inl (.str _)
theorem rngL_get (lo hi : Int) (i : Nat) (d : D) (h : (rngL lo hi)[i]? = some d) : d = .int (lo + (i : Nat)) := by
  unfold rngL at h
  rw [List.getElem?_map] at h
  cases e : (List.range (hi - lo).toNat)[i]? with
  | none => rw [e] at h; cases h
  | some j =>
    rw [e] at h
    have : j = i := by
      obtain ⟨h1, h2⟩ := List.getElem?_eq_some_iff.mp e
      rw [← h2, List.getElem_range]
    subst this
    exact (Option.some.inj h).symm
theorem wk_rng {av av' : Av} (lo hi : Int) : WalkD K false av av' (Itr lo (hi - lo).toNat) (rngL lo hi) (fun _ => True) := by
  have hl : (rngL lo hi).length = (hi - lo).toNat := by unfold rngL; simp
  refine ⟨fun i H hi _ => by show i < _; omega, fun H _ => by show _ ≤ _; omega, fun i H x H' _ y => ?_, fun _ _ _ _ => trivial⟩
  obtain ⟨rfl, rfl⟩ := y
  refine ⟨Same.refl _, fun d hd av2 h2 dm => ?_⟩
  rw [rngL_get lo hi i d hd]
  exact .inl (.int _)
theorem wk_rnd {av av' : Av} (lo hi : Int) : WalkD K false av av' (Itc lo (-1) (lo - hi).toNat) (rndL lo hi) (fun _ => True) := by
  have hl : (rndL lo hi).length = (lo - hi).toNat := by unfold rndL; simp
  refine ⟨fun i H hi _ => by show i < _; omega, fun H _ => by show _ ≤ _; omega, fun i H x H' _ y => ?_, fun _ _ _ _ => trivial⟩
  obtain ⟨rfl, rfl⟩ := y
  refine ⟨Same.refl _, fun d hd av2 h2 dm => ?_⟩
  have e : d = .int (lo + (i : Nat) * (-1)) := by
    unfold rndL at hd
    rw [List.getElem?_map] at hd
    by_cases c : i < (lo - hi).toNat
    · rw [List.getElem?_range c] at hd
      exact (Option.some.inj hd).symm
    · rw [List.getElem?_eq_none (by rw [List.length_range]; omega)] at hd
      cases hd
  rw [e]
  exact .inl (.int _)
theorem enum_get : ∀ (l : List D) (k i : Nat), (enumFrom' k l)[i]? = l[i]?.map fun d => .tup [.int ((k + i : Nat) : Int), d]
  | [], _, _ => by simp [enumFrom']
  | d :: l, k, 0 => by simp [enumFrom']
  | d :: l, k, i + 1 => by
    simp only [enumFrom', List.getElem?_cons_succ]
    rw [enum_get l (k + 1) i]
    have : k + 1 + i = k + (i + 1) := by omega
    rw [this]
theorem enum_len : ∀ (l : List D) (k : Nat), (enumFrom' k l).length = l.length
  | [], _ => rfl
  | d :: l, k => by simp only [enumFrom', List.length_cons, enum_len l (k + 1)]
theorem zip_get : ∀ (l r : List D) (i : Nat), (zipD l r)[i]? = match l[i]?, r[i]? with | some a, some b => some (.tup [a, b]) | _, _ => none
  | [], _, _ => by simp [zipD]
  | _ :: _, [], _ => by
    simp only [zipD, List.getElem?_nil]
    split <;> simp_all
  | a :: l, b :: r, 0 => by simp [zipD]
  | a :: l, b :: r, i + 1 => by simp only [zipD, List.getElem?_cons_succ]; exact zip_get l r i
theorem zip_len : ∀ (l r : List D), (zipD l r).length = min l.length r.length
  | [], _ => by simp [zipD]
  | _ :: _, [] => by simp [zipD]
  | a :: l, b :: r => by simp only [zipD, List.length_cons, zip_len l r]; omega
theorem zip3_get : ∀ (l r q : List D) (i : Nat) (a b c : D), l[i]? = some a → r[i]? = some b → q[i]? = some c → (zip3D l r q)[i]? = some (.tup [a, b, c])
  | [], _, _, _, _, _, _, h, _, _ => by simp at h
  | _ :: _, [], _, _, _, _, _, _, h, _ => by simp at h
  | _ :: _, _ :: _, [], _, _, _, _, _, _, h => by simp at h
  | x :: l, y :: r, z :: q, 0, a, b, c, h1, h2, h3 => by
    simp only [List.getElem?_cons_zero, Option.some.injEq] at h1 h2 h3
    subst h1 h2 h3
    simp [zip3D]
  | x :: l, y :: r, z :: q, i + 1, a, b, c, h1, h2, h3 => by
    simp only [List.getElem?_cons_succ] at h1 h2 h3
    simp only [zip3D, List.getElem?_cons_succ]
    exact zip3_get l r q i a b c h1 h2 h3
theorem zip3_len : ∀ (l r q : List D), (zip3D l r q).length = min (min l.length r.length) q.length
  | [], _, _ => by simp [zip3D]
  | _ :: _, [], _ => by simp [zip3D]
  | _ :: _, _ :: _, [] => by simp [zip3D]
  | x :: l, y :: r, z :: q => by simp only [zip3D, List.length_cons, zip3_len l r q]; omega
theorem rep_tri {av : Av} {H : Hp} {T : Addr} {x y z : V} {d e f : D} (dm : Dom av H) (hT : H T = none) (r1 : Rep K av H x d) (r2 : Rep K av H y e) (r3 : Rep K av H z f) : RepI K true av (upd H T (.tup [x, y, z])) (.ref T) (.tup [d, e, f]) :=
  .inr ⟨rfl, T, [x, y, z], [d, e, f], rfl, rfl, .inl (.inl upd_same), Reps.ext (Same.upd hT).ext (.cons r1 (.cons r2 (.cons r3 .nil)))⟩
theorem rep_pair {av : Av} {H : Hp} {T : Addr} {x y : V} {d e : D} (dm : Dom av H) (hT : H T = none) (r1 : Rep K av H x d) (r2 : Rep K av H y e) : RepI K true av (upd H T (.tup [x, y])) (.ref T) (.tup [d, e]) :=
  .inr ⟨rfl, T, [x, y], [d, e], rfl, rfl, .inl (.inl upd_same), Reps.ext (Same.upd hT).ext (.cons r1 (.cons r2 .nil))⟩
theorem wk_enum {av av' : Av} {H1 : Hp} {a : Addr} {xs : List V} {ds : List D} (hs : ∀ a, av a → av' a) (h : H1 a = some (.lst xs)) (n : ¬ av a) (r : Reps K av' H1 xs ds) :
    WalkD K true (Wid av H1) (Wid av' H1) (Ite K a) (enumFrom' 0 ds) (fun H => H a = some (.lst xs) ∧ Reps K (Wid av' H1) H xs ds) ∧ (H1 a = some (.lst xs) ∧ Reps K (Wid av' H1) H1 xs ds) := by
  have hl := r.length
  have hl2 := enum_len ds 0
  refine ⟨⟨fun i H hi g => ⟨xs, xs[i]'(by omega), SqL.of g.1, by simp⟩, fun H g => ⟨xs, SqL.of g.1, by omega⟩, fun i H x H' g y => ?_, fun H H' g e => ⟨e a _ (fun z => z.elim n fun z => by rw [h] at z; cases z) g.1, g.2.ext (e.wid hs)⟩⟩, h, r.wid⟩
  obtain ⟨T, x', rfl, hT, rfl, y⟩ := y
  refine ⟨Same.upd hT, fun d hd av2 h2 dm => ?_⟩
  obtain ⟨d', e, r'⟩ := g.2.get (y xs (SqL.of g.1))
  rw [enum_get, e] at hd
  cases hd
  have e0 : ((0 + i : Nat) : Int) = (i : Nat) := by simp
  rw [e0]
  exact rep_pair dm hT (.int _) (r'.mono h2)
theorem wk_zip {av av' : Av} {H1 : Hp} {a b : Addr} {xs ys : List V} {ds es : List D} (hs : ∀ a, av a → av' a) (h : H1 a = some (.lst xs)) (n : ¬ av a) (r : Reps K av' H1 xs ds) (h2 : H1 b = some (.lst ys)) (n2 : ¬ av b) (r2 : Reps K av' H1 ys es) :
    WalkD K true (Wid av H1) (Wid av' H1) (Itz K a b) (zipD ds es) (fun H => (H a = some (.lst xs) ∧ Reps K (Wid av' H1) H xs ds) ∧ (H b = some (.lst ys) ∧ Reps K (Wid av' H1) H ys es)) ∧
      ((H1 a = some (.lst xs) ∧ Reps K (Wid av' H1) H1 xs ds) ∧ (H1 b = some (.lst ys) ∧ Reps K (Wid av' H1) H1 ys es)) := by
  have hl := r.length
  have hl2 := r2.length
  have hz := zip_len ds es
  have W := walk_zip (K := K) (a := a) (b := b) (xs := xs) (ys := ys) rfl
  refine ⟨⟨fun i H hi g => W.goes i H (by omega) ⟨SqL.of g.1.1, SqL.of g.2.1⟩, fun H g => ?_, fun i H x H' g y => ?_, fun H H' g e => ⟨⟨e a _ (fun z => z.elim n fun z => by rw [h] at z; cases z) g.1.1, g.1.2.ext (e.wid hs)⟩, ⟨e b _ (fun z => z.elim n2 fun z => by rw [h2] at z; cases z) g.2.1, g.2.2.ext (e.wid hs)⟩⟩⟩, ⟨h, r.wid⟩, ⟨h2, r2.wid⟩⟩
  · have := W.stops H ⟨SqL.of g.1.1, SqL.of g.2.1⟩
    rw [hl, hl2, ← hz] at this
    exact this
  · obtain ⟨T, x', y', rfl, hT, rfl, k1, k2⟩ := y
    refine ⟨Same.upd hT, fun d hd av2 h3 dm => ?_⟩
    obtain ⟨d1, e1, r1'⟩ := g.1.2.get (k1 xs (SqL.of g.1.1))
    obtain ⟨d2, e2, r2'⟩ := g.2.2.get (k2 ys (SqL.of g.2.1))
    rw [zip_get, e1, e2] at hd
    cases hd
    exact rep_pair dm hT (r1'.mono h3) (r2'.mono h3)
theorem wid_tup {av : Av} {H1 : Hp} {a : Addr} {xs : List V} (h : TupAt K av H1 a xs) : TupAt K (Wid av H1) H1 a xs := by
  rcases h with ⟨h, n⟩ | h
  · exact .inl ⟨h, fun z => z.elim n (ct_some h)⟩
  · exact .inr h
theorem wk_zipT {av av' : Av} {H1 : Hp} {a b : Addr} {xs ys : List V} {ds es : List D} (hs : ∀ a, av a → av' a) (h : TupAt K av H1 a xs) (r : Reps K av' H1 xs ds) (h2 : TupAt K av H1 b ys) (r2 : Reps K av' H1 ys es) :
    WalkD K true (Wid av H1) (Wid av' H1) (RZ.ItzT K a b) (zipD ds es) (fun H => (TupAt K (Wid av H1) H a xs ∧ Reps K (Wid av' H1) H xs ds) ∧ (TupAt K (Wid av H1) H b ys ∧ Reps K (Wid av' H1) H ys es)) ∧
      ((TupAt K (Wid av H1) H1 a xs ∧ Reps K (Wid av' H1) H1 xs ds) ∧ (TupAt K (Wid av H1) H1 b ys ∧ Reps K (Wid av' H1) H1 ys es)) := by
  have hl := r.length
  have hl2 := r2.length
  have hz := zip_len ds es
  refine ⟨⟨fun i H hi g => ⟨xs, ys, xs[i]'(by omega), ys[i]'(by omega), g.1.1.sq, g.2.1.sq, by simp, by simp⟩, fun H g => ⟨xs, ys, g.1.1.sq, g.2.1.sq, by omega⟩, fun i H x H' g y => ?_, fun H H' g e => ⟨⟨g.1.1.ext e, g.1.2.ext (e.wid hs)⟩, ⟨g.2.1.ext e, g.2.2.ext (e.wid hs)⟩⟩⟩, ⟨wid_tup h, r.wid⟩, ⟨wid_tup h2, r2.wid⟩⟩
  obtain ⟨T, x', y', rfl, hT, rfl, k1, k2⟩ := y
  refine ⟨Same.upd hT, fun d hd av2 h3 dm => ?_⟩
  obtain ⟨d1, e1, r1'⟩ := g.1.2.get (k1 xs g.1.1.sq)
  obtain ⟨d2, e2, r2'⟩ := g.2.2.get (k2 ys g.2.1.sq)
  rw [zip_get, e1, e2] at hd
  cases hd
  exact rep_pair dm hT (r1'.mono h3) (r2'.mono h3)
theorem wk_zip3 {av av' : Av} {H1 : Hp} {a b c : Addr} {xs ys zs : List V} {ds es fs : List D} (hs : ∀ a, av a → av' a) (h : TupAt K av H1 a xs) (r : Reps K av' H1 xs ds) (h2 : TupAt K av H1 b ys) (r2 : Reps K av' H1 ys es) (h3 : H1 c = some (.lst zs)) (n3 : ¬ av c) (r3 : Reps K av' H1 zs fs) :
    WalkD K true (Wid av H1) (Wid av' H1) (Itz3 K a b c) (zip3D ds es fs) (fun H => (TupAt K (Wid av H1) H a xs ∧ Reps K (Wid av' H1) H xs ds) ∧ (TupAt K (Wid av H1) H b ys ∧ Reps K (Wid av' H1) H ys es) ∧ (H c = some (.lst zs) ∧ Reps K (Wid av' H1) H zs fs)) ∧
      ((TupAt K (Wid av H1) H1 a xs ∧ Reps K (Wid av' H1) H1 xs ds) ∧ (TupAt K (Wid av H1) H1 b ys ∧ Reps K (Wid av' H1) H1 ys es) ∧ (H1 c = some (.lst zs) ∧ Reps K (Wid av' H1) H1 zs fs)) := by
  have hl := r.length
  have hl2 := r2.length
  have hl3 := r3.length
  have hz := zip3_len ds es fs
  refine ⟨⟨fun i H hi g => ⟨xs, ys, zs, xs[i]'(by omega), ys[i]'(by omega), zs[i]'(by omega), g.1.1.sq, g.2.1.1.sq, SqL.of g.2.2.1, by simp, by simp, by simp⟩, fun H g => ⟨xs, ys, zs, g.1.1.sq, g.2.1.1.sq, SqL.of g.2.2.1, by omega, by omega, by omega, by omega⟩, fun i H x H' g y => ?_, fun H H' g e => ⟨⟨g.1.1.ext e, g.1.2.ext (e.wid hs)⟩, ⟨g.2.1.1.ext e, g.2.1.2.ext (e.wid hs)⟩, ⟨e c _ (fun z => z.elim n3 fun z => by rw [h3] at z; cases z) g.2.2.1, g.2.2.2.ext (e.wid hs)⟩⟩⟩, ⟨wid_tup h, r.wid⟩, ⟨wid_tup h2, r2.wid⟩, ⟨h3, r3.wid⟩⟩
  obtain ⟨T, x', y', z', rfl, hT, rfl, k1, k2, k3⟩ := y
  refine ⟨Same.upd hT, fun d hd av2 h4 dm => ?_⟩
  obtain ⟨d1, e1, r1'⟩ := g.1.2.get (k1 xs g.1.1.sq)
  obtain ⟨d2, e2, r2'⟩ := g.2.1.2.get (k2 ys g.2.1.1.sq)
  obtain ⟨d3, e3, r3'⟩ := g.2.2.2.get (k3 zs (SqL.of g.2.2.1))
  rw [zip3_get _ _ _ _ _ _ _ e1 e2 e3] at hd
  cases hd
  exact rep_tri dm hT (r1'.mono h4) (r2'.mono h4) (r3'.mono h4)

end
section
variable {K : PySem.W.Frag} {ec : Nat → Value} {C : List D} {cf : Nat → List D → Res D} {W : WX} {X : Cx}
theorem s_seq {e : Ex} {tg : Expr} (hK : X.K = K) (he : PE X e.py (tE K ec C cf W e)) : PI X tg (Itx.seq e).py (tI K ec C cf W (.seq e)) := by
  subst hK
  refine piImp (piOr (piOr (pi_list he) (pi_tup he)) (pi_str he)) ?_
  rintro σ H R ⟨avC, ow, env, er, h⟩
  simp only [evi] at h
  have hsub : ∀ a, AV avC (drp ow (al e)) a → AV avC (drp ow (alI e)) a := AV.sub (alI_sub e)
  cases e1 : ev C cf e env with
  | ok d =>
    rw [e1] at h
    cases d with
    | lst ds =>
      refine .inl (.inl ⟨avC, ow, env, er, ?_⟩)
      rw [e1]
      intro v H1 s1 w r
      obtain ⟨a, xs, rfl, ha, ra⟩ := repW_lst w
      obtain ⟨a', xs', e2, ha', na, _⟩ := rep_lst r
      cases e2
      obtain ⟨wk, g⟩ := wk_list hsub ha na ra
      exact ⟨a, rfl, ⟨xs, SqL.of ha⟩, h _ H1 _ s1 wk g⟩
    | tup ds =>
      refine .inl (.inr ⟨avC, ow, env, er, ?_⟩)
      rw [e1]
      intro v H1 s1 w r
      obtain ⟨a, xs, rfl, ha, ra⟩ := repW_tup w
      obtain ⟨wk, g⟩ := wk_tup hsub (ha.mono hsub) ra
      exact ⟨a, rfl, ⟨_, ha.sq⟩, h _ H1 _ s1 wk g⟩
    | str z =>
      refine .inr ⟨avC, ow, env, er, ?_⟩
      rw [e1]
      intro v H1 s1 w r
      cases w
      exact ⟨z, rfl, h _ H1 _ s1 (wk_str z) trivial⟩
    | _ => exact (show False from h).elim
  | ex c =>
    rw [e1] at h
    exact .inl (.inl ⟨avC, ow, env, er, by rw [e1]; exact h⟩)
  | no => rw [e1] at h; exact (show False from h).elim

theorem star1 (a : Ex) (env : Env) : starEach [a.py] env = [(false, eval a.py env)] := star_ok a [] env
theorem s_rng1 {a : Ex} {tg : Expr} {pf p : Pos} (hg : Gl X "range") (hm : X.mg "range" = none) (ha : PE X a.py (tE K ec C cf W a)) : PI X tg (Itx.rng1 a pf p).py (tI K ec C cf W (.rng1 a pf p)) := by
  refine piImp (pi_range1 hg hm (pa_cons ha pa_nil (star_ok _ _ _)) (star1 _ _)) ?_
  rintro σ H R ⟨avC, ow, env, er, h⟩
  simp only [evi] at h
  refine ⟨avC, ow, env, er, (OUT.bind h).mono fun d h v H1 s1 w _ => ?_⟩
  cases w with
  | int j =>
    have h : OUT ec W σ H (rngR 0 j) _ := h
    unfold rngR at h
    by_cases hb : -1000000000 ≤ (0 : Int) ∧ (0 : Int) ≤ 1000000000 ∧ -1000000000 ≤ j ∧ j ≤ 1000000000
    · rw [if_pos hb] at h
      refine ⟨j, rfl, by omega, by omega, ?_⟩
      have := h (Itr 0 (j - 0).toNat) H1 _ s1 (wk_rng 0 j) trivial
      rw [Int.sub_zero] at this
      exact this
    · rw [if_neg hb] at h
      exact (show False from h).elim
  | _ => exact (show False from h).elim
theorem s_rng2 {a b : Ex} {tg : Expr} {pf p : Pos} (hg : Gl X "range") (hm : X.mg "range" = none) (ha : PE X a.py (tE K ec C cf W a)) (hb : PE X b.py (tE K ec C cf W b)) : PI X tg (Itx.rng2 a b pf p).py (tI K ec C cf W (.rng2 a b pf p)) := by
  have e2 : ∀ env, starEach [a.py, b.py] env = [(false, eval a.py env), (false, eval b.py env)] := fun env => by rw [star_ok, star1]
  refine piImp (pi_range2 hg hm (pa_cons ha (pa_cons hb pa_nil (star_ok _ _ _)) (star_ok _ _ _)) (e2 _) (star1 _ _)) ?_
  rintro σ H R ⟨avC, ow, env, er, h⟩
  simp only [evi] at h
  refine ⟨avC, ow, env, er, (OUT.bind h).mono fun d h v H1 s1 w _ => ?_⟩
  refine ⟨avC, ow, env, er.same s1, ((OUT.bind h).same s1).mono fun d2 h v2 H2 s2 w2 _ => ?_⟩
  cases w with
  | int i =>
    cases w2 with
    | int j =>
      have h : OUT ec W σ H (rngR i j) _ := h
      unfold rngR at h
      by_cases hb : -1000000000 ≤ i ∧ i ≤ 1000000000 ∧ -1000000000 ≤ j ∧ j ≤ 1000000000
      · rw [if_pos hb] at h
        exact ⟨i, j, rfl, by omega, h (Itr i (j - i).toNat) H2 _ (s1.trans s2) (wk_rng i j) trivial⟩
      · rw [if_neg hb] at h
        exact (show False from h).elim
    | _ => exact (show False from h).elim
  | _ => cases w2 <;> exact (show False from h).elim
theorem s_rngd {a b : Ex} {tg : Expr} {k : Nat} {pc pn pf p : Pos} (hg : Gl X "range") (hm : X.mg "range" = none) (ha : PE X a.py (tE K ec C cf W a)) (hb : PE X b.py (tE K ec C cf W b)) : PI X tg (Itx.rngd a b k pc pn pf p).py (tI K ec C cf W (.rngd a b k pc pn pf p)) := by
  have hc : PE X (.UnaryOp .USub (.Constant (.int 1) k pc) pn) (tUn (rU fun i => .int (-i)) (tC (.int 1))) := pe_un un_neg pe_int
  refine piImp (pi_range3 hg hm (pa_cons ha (pa_cons hb (pa_cons hc pa_nil rfl) (star_ok _ _ _)) (star_ok _ _ _)) (star_ok _ _ _) (by rw [star_ok]; rfl)) ?_
  rintro σ H R ⟨avC, ow, env, er, h⟩
  simp only [evi] at h
  refine ⟨avC, ow, env, er, (OUT.bind h).mono fun d h v H1 s1 w _ => ?_⟩
  refine ⟨avC, ow, env, er.same s1, ((OUT.bind h).same s1).mono fun d2 h v2 H2 s2 w2 _ => ?_⟩
  cases w with
  | int i =>
    cases w2 with
    | int j =>
      have h : OUT ec W σ H (rndR i j) _ := h
      unfold rndR at h
      by_cases hb : -1000000000 ≤ i ∧ i ≤ 1000000000 ∧ -1000000000 ≤ j ∧ j ≤ 1000000000
      · rw [if_pos hb] at h
        exact ⟨1, rfl, i, j, -1, (i - j).toNat, rfl, RgC.neg (by omega) (by omega) (by omega) (by omega), h (Itc i (-1) (i - j).toNat) H2 _ (s1.trans s2) (wk_rnd i j) trivial⟩
      · rw [if_neg hb] at h
        exact (show False from h).elim
    | _ => exact (show False from h).elim
  | _ => cases w2 <;> exact (show False from h).elim
theorem s_zip {a b : Ex} {elts : List Expr} {kk : Nat} {tpos pf p : Pos} (hK : X.K = K) (hg : Gl X "zip") (hm : X.mg "zip" = none) (ha : PE X a.py (tE K ec C cf W a)) (hb : PE X b.py (tE K ec C cf W b)) :
    PI X (.Tuple elts kk tpos) (Itx.zip a b pf p).py (tI K ec C cf W (.zip a b pf p)) := by
  subst hK
  have e2 : ∀ env, starEach [a.py, b.py] env = [(false, eval a.py env), (false, eval b.py env)] := fun env => by rw [star_ok, star1]
  refine piImp (RZ.pi_zipA hg hm (pa_cons ha (pa_cons hb pa_nil (star_ok _ _ _)) (star_ok _ _ _)) (star_ok _ _ _) (star_any p X.env (.cons b .nil))) ?_
  rintro σ H R ⟨avC, ow, env, er, h⟩
  simp only [evi] at h
  refine ⟨avC, ow, env, er, (OUT.bind h).mono fun d h v H1 s1 w r => ?_⟩
  refine ⟨avC, ow, env, er.same s1, ((OUT.bind h).same s1).mono fun d2 h v2 H2 s2 w2 r2 => ?_⟩
  have hsub : ∀ z, AV avC (drp ow (al a ++ al b)) z → AV avC (drp ow (alI a ++ alI b)) z := AV.sub (ali_alv (.zip a b pf p))
  have w := (w.same s2).mono (AV.sub (avC := avC) (ow := ow) (l := alI a ++ alI b) fun i hi => List.mem_append_left _ hi)
  have w2 := w2.mono (AV.sub (avC := avC) (ow := ow) (l := alI a ++ alI b) fun i hi => List.mem_append_right _ hi)
  have r := (r.ext s2.ext).mono (AV.sub (avC := avC) (ow := ow) (l := al a ++ al b) fun i hi => List.mem_append_left _ hi)
  have r2 := r2.mono (AV.sub (avC := avC) (ow := ow) (l := al a ++ al b) fun i hi => List.mem_append_right _ hi)
  cases d with
  | lst ds =>
    cases d2 with
    | lst es =>
      obtain ⟨a1, xs, rfl, h1, k1⟩ := repW_lst w
      obtain ⟨a2, ys, rfl, h2, k2⟩ := repW_lst w2
      obtain ⟨_, _, e3, _, n1, _⟩ := rep_lst r
      cases e3
      obtain ⟨_, _, e3, _, n2, _⟩ := rep_lst r2
      cases e3
      obtain ⟨wk, g⟩ := wk_zip hsub h1 n1 k1 h2 n2 k2
      exact ⟨a1, a2, xs, ys, rfl, .inl ⟨SqL.of h1, SqL.of h2, h _ H2 _ (s1.trans s2) wk g⟩⟩
    | _ => exact (show False from h).elim
  | tup ds =>
    cases d2 with
    | tup es =>
      obtain ⟨a1, xs, rfl, h1, k1⟩ := repW_tup w
      obtain ⟨a2, ys, rfl, h2, k2⟩ := repW_tup w2
      obtain ⟨wk, g⟩ := wk_zipT hsub (h1.mono hsub) k1 (h2.mono hsub) k2
      exact ⟨a1, a2, xs, ys, rfl, .inr ⟨h1.sq, h2.sq, h _ H2 _ (s1.trans s2) wk g⟩⟩
    | _ => exact (show False from h).elim
  | _ => cases d2 <;> exact (show False from h).elim
theorem s_zip3 {a b c : Ex} {elts : List Expr} {kk : Nat} {tpos pf p : Pos} (hK : X.K = K) (hg : Gl X "zip") (hm : X.mg "zip" = none) (ha : PE X a.py (tE K ec C cf W a)) (hb : PE X b.py (tE K ec C cf W b)) (hc : PE X c.py (tE K ec C cf W c)) :
    PI X (.Tuple elts kk tpos) (Itx.zip3 a b c pf p).py (tI K ec C cf W (.zip3 a b c pf p)) := by
  subst hK
  refine piImp (pi_zip3 hg hm (pa_cons ha (pa_cons hb (pa_cons hc pa_nil (star_ok _ _ _)) (star_ok _ _ _)) (star_ok _ _ _)) (star_ok _ _ _) (star_any p X.env (.cons b (.cons c .nil)))) ?_
  rintro σ H R ⟨avC, ow, env, er, h⟩
  simp only [evi] at h
  refine ⟨avC, ow, env, er, (OUT.bind h).mono fun d h v H1 s1 w r => ?_⟩
  refine ⟨avC, ow, env, er.same s1, ((OUT.bind h).same s1).mono fun d2 h v2 H2 s2 w2 r2 => ?_⟩
  refine ⟨avC, ow, env, er.same (s1.trans s2), ((OUT.bind h).same (s1.trans s2)).mono fun d3 h v3 H3 s3 w3 r3 => ?_⟩
  have hsub : ∀ z, AV avC (drp ow (al a ++ (al b ++ al c))) z → AV avC (drp ow (alI a ++ (alI b ++ alI c))) z := AV.sub (ali_alv (.zip3 a b c pf p))
  have w := (w.same (s2.trans s3)).mono (AV.sub (avC := avC) (ow := ow) (l := alI a ++ (alI b ++ alI c)) fun i hi => List.mem_append_left _ hi)
  have w2 := (w2.same s3).mono (AV.sub (avC := avC) (ow := ow) (l := alI a ++ (alI b ++ alI c)) fun i hi => List.mem_append_right _ (List.mem_append_left _ hi))
  have w3 := w3.mono (AV.sub (avC := avC) (ow := ow) (l := alI a ++ (alI b ++ alI c)) fun i hi => List.mem_append_right _ (List.mem_append_right _ hi))
  have r3 := r3.mono (AV.sub (avC := avC) (ow := ow) (l := al a ++ (al b ++ al c)) fun i hi => List.mem_append_right _ (List.mem_append_right _ hi))
  cases d with
  | tup ds =>
    cases d2 with
    | tup es =>
      cases d3 with
      | lst fs =>
        obtain ⟨a1, xs, rfl, h1, k1⟩ := repW_tup w
        obtain ⟨a2, ys, rfl, h2, k2⟩ := repW_tup w2
        obtain ⟨a3, zs, rfl, h3, k3⟩ := repW_lst w3
        obtain ⟨_, _, e3, _, n3, _⟩ := rep_lst r3
        cases e3
        obtain ⟨wk, g⟩ := wk_zip3 hsub (h1.mono hsub) k1 (h2.mono hsub) k2 h3 n3 k3
        exact ⟨a1, a2, a3, xs, ys, zs, rfl, h1.sq, h2.sq, SqL.of h3, h _ H3 _ ((s1.trans s2).trans s3) wk g⟩
      | _ => exact (show False from h).elim
    | _ => cases d3 <;> exact (show False from h).elim
  | _ => cases d2 <;> cases d3 <;> exact (show False from h).elim
theorem wk_enumT {av av' : Av} {H1 : Hp} {a : Addr} {xs : List V} {ds : List D} (hs : ∀ a, av a → av' a) (h : TupAt K av H1 a xs) (r : Reps K av' H1 xs ds) :
    WalkD K true (Wid av H1) (Wid av' H1) (IteT K a) (enumFrom' 0 ds) (fun H => TupAt K (Wid av H1) H a xs ∧ Reps K (Wid av' H1) H xs ds) ∧ (TupAt K (Wid av H1) H1 a xs ∧ Reps K (Wid av' H1) H1 xs ds) := by
  have hl := r.length
  have hl2 := enum_len ds 0
  refine ⟨⟨fun i H hi g => ⟨xs, xs[i]'(by omega), g.1.sq, by simp⟩, fun H g => ⟨xs, g.1.sq, by omega⟩, fun i H x H' g y => ?_, fun H H' g e => ⟨g.1.ext e, g.2.ext (e.wid hs)⟩⟩, wid_tup h, r.wid⟩
  obtain ⟨T, x', rfl, hT, rfl, y⟩ := y
  refine ⟨Same.upd hT, fun d hd av2 h2 dm => ?_⟩
  obtain ⟨d', e, r'⟩ := g.2.get (y xs g.1.sq)
  rw [enum_get, e] at hd
  cases hd
  have e0 : ((0 + i : Nat) : Int) = (i : Nat) := by simp
  rw [e0]
  exact rep_pair dm hT (.int _) (r'.mono h2)
theorem s_enum {e : Ex} {elts : List Expr} {kk : Nat} {tpos pf p : Pos} (hK : X.K = K) (hg : Gl X "enumerate") (hm : X.mg "enumerate" = none) (he : PE X e.py (tE K ec C cf W e)) :
    PI X (.Tuple elts kk tpos) (Itx.enum e pf p).py (tI K ec C cf W (.enum e pf p)) := by
  subst hK
  refine piImp (piOr (pi_enum hg hm (pa_cons he pa_nil (star_ok _ _ _)) (star1 _ _)) (pi_enumT hg hm (pa_cons he pa_nil (star_ok _ _ _)) (star1 _ _))) ?_
  rintro σ H R ⟨avC, ow, env, er, h⟩
  simp only [evi] at h
  have hsub : ∀ a, AV avC (drp ow (al e)) a → AV avC (drp ow (alI e)) a := AV.sub (alI_sub e)
  cases e1 : ev C cf e env with
  | ok d =>
    rw [e1] at h
    cases d with
    | lst ds =>
      refine .inl ⟨avC, ow, env, er, ?_⟩
      rw [e1]
      intro v H1 s1 w r
      obtain ⟨a, xs, rfl, ha, ra⟩ := repW_lst w
      obtain ⟨a', xs', e2, ha', na, _⟩ := rep_lst r
      cases e2
      obtain ⟨wk, g⟩ := wk_enum hsub ha na ra
      exact ⟨a, xs, rfl, SqL.of ha, h _ H1 _ s1 wk g⟩
    | tup ds =>
      refine .inr ⟨avC, ow, env, er, ?_⟩
      rw [e1]
      intro v H1 s1 w r
      obtain ⟨a, xs, rfl, ha, ra⟩ := repW_tup w
      obtain ⟨wk, g⟩ := wk_enumT hsub (ha.mono hsub) ra
      exact ⟨a, xs, rfl, ha.sq, h _ H1 _ s1 wk g⟩
    | _ => exact (show False from h).elim
  | ex c =>
    rw [e1] at h
    exact .inl ⟨avC, ow, env, er, by rw [e1]; exact h⟩
  | no => rw [e1] at h; exact (show False from h).elim
/-! ### targets -/
def setV : List Vn → List V → L2.St → L2.St
  | v :: vs, x :: xs, σ => setV vs xs (σ.set v.i (some x))
  | _, _, σ => σ
def tG (K : PySem.W.Frag) : Tg → TG
  | .name v => gName v.i
  | .tup vs _ _ => fun x σ H Q => ∃ a xs, x = .ref a ∧ (SqT K H a xs ∨ SqL K H a xs) ∧ xs.length = vs.length ∧ Q (setV vs xs σ) H
theorem pgImp {e : Expr} {t t' : TG} (h : PG X e t) (k : ∀ v σ H Q, t' v σ H Q → t v σ H Q) : PG X e t' := ⟨fun pins s σ H v u Q I r q => h.run pins s σ H v u Q I r (k v σ H Q q)⟩
theorem asg_each (env : Env) : ∀ vs : List Vn, (assignEach (vs.map Vn.py) env).length = vs.length ∧ (assignEach (vs.map Vn.py) env).findIdx? (·.1) = none
  | [] => ⟨rfl, rfl⟩
  | v :: vs => by
    obtain ⟨h1, h2⟩ := asg_each env vs
    have e : assignEach ((v :: vs).map Vn.py) env = (false, assign v.py env) :: assignEach (vs.map Vn.py) env := rfl
    rw [e]
    exact ⟨by rw [List.length_cons, h1]; rfl, by rw [List.findIdx?_cons, h2]; rfl⟩
theorem pgs_names (hN : X.N.Nodup) : ∀ vs : List Vn, (∀ v ∈ vs, X.N[v.i]? = some v.x ∧ Loc X.env.scope v.x ∧ (X.fn v.x = true ∨ X.env.scope.names.lookup v.x = some .local)) →
    PGs X (vs.map Vn.py) (fun xs σ H Q => xs.length = vs.length ∧ Q (setV vs xs σ) H)
  | [], _ => by
    refine ⟨fun pins s σ H vs us Q I r h => pgs_nil.run pins s σ H vs us Q I r ?_⟩
    obtain ⟨h1, h2⟩ := h
    have e : vs = [] := List.length_eq_zero_iff.mp h1
    subst e
    exact ⟨rfl, h2⟩
  | v :: vs, h => by
    obtain ⟨k1, k2, k3⟩ := h v List.mem_cons_self
    have ih := pgs_names hN vs fun u hu => h u (List.mem_cons_of_mem _ hu)
    refine ⟨fun pins s σ H ws us Q I r h => (pgs_cons (pg_name (pos := v.p) hN k1 k2 k3) ih).run pins s σ H ws us Q I r ?_⟩
    obtain ⟨h1, h2⟩ := h
    cases ws with
    | nil => cases h1
    | cons x xs => exact ⟨x, xs, rfl, by simpa using h1, h2⟩
theorem s_tg {tg : Tg} (hK : X.K = K) (hc : X.calm = true) (hN : X.N.Nodup) (ok : ∀ v, (match tg with | .name u => v = u | .tup vs _ _ => v ∈ vs) → X.N[v.i]? = some v.x ∧ Loc X.env.scope v.x ∧ (X.fn v.x = true ∨ X.env.scope.names.lookup v.x = some .local)) :
    PG X tg.py (tG K tg) := by
  subst hK
  cases tg with
  | name v =>
    obtain ⟨k1, k2, k3⟩ := ok v rfl
    exact pg_name hN k1 k2 k3
  | tup vs k p =>
    obtain ⟨h1, h2⟩ := asg_each X.env vs
    have p1 := pg_tup (pos := p) (k := k) hc (pgs_names hN vs fun v hv => ok v hv) h1 h2
    have p2 := pg_unl (pos := p) (k := k) hc (pgs_names hN vs fun v hv => ok v hv) h1 h2
    refine ⟨fun pins s σ H v u Q I r q => ?_⟩
    obtain ⟨a, xs, e, hq, hl, q⟩ := q
    rcases hq with hq | hq
    · exact p1.run pins s σ H v u Q I r ⟨a, xs, e, hq, hl, hl, q⟩
    · exact p2.run pins s σ H v u Q I r ⟨a, xs, e, hq, hl, hl, q⟩
/-! ### the frame, changed -/
theorem ER.set1 {avC : Av} {ow : Nat → Option Addr} {env : En} {σ : L2.St} {H : Hp} {i : Nat} {v : V} {d : D} (e : ER K avC ow env σ H) (r : Rep K (AV avC ow) H v d) : ER K avC ow (env.set i (some d)) (σ.set i (some v)) H := by
  refine ⟨e.dom, by rw [List.length_set, List.length_set]; exact e.len, fun j d' hj => ?_⟩
  by_cases hji : i = j
  · subst hji
    by_cases hi : i < env.length
    · rw [List.getElem?_set_self hi] at hj
      cases hj
      exact ⟨v, by rw [List.getElem?_set_self (by rw [← e.len]; exact hi)], r.w, r.mono AV.all⟩
    · rw [List.getElem?_eq_none (by rw [List.length_set]; omega)] at hj
      cases hj
  · rw [List.getElem?_set_ne hji] at hj
    obtain ⟨v', h1, h2, h3⟩ := e.slot j d' hj
    exact ⟨v', by rw [List.getElem?_set_ne hji]; exact h1, h2, h3⟩
theorem ER.setAll {avC : Av} {ow : Nat → Option Addr} {H : Hp} : ∀ {vs : List Vn} {xs : List V} {ds : List D} {env env' : En} {σ : L2.St}, ER K avC ow env σ H → Reps K (AV avC ow) H xs ds → setAll vs ds env = some env' → ER K avC ow env' (setV vs xs σ) H ∧ xs.length = vs.length
  | [], _, _, _, _, _, e, .nil, h => by simp only [Li.setAll] at h; cases h; exact ⟨e, rfl⟩
  | [], _, _, _, _, _, _, .cons _ _, h => by simp [Li.setAll] at h
  | _ :: _, _, _, _, _, _, _, .nil, h => by simp [Li.setAll] at h
  | v :: vs, _, _, _, _, _, e, .cons r rs, h => by
    simp only [Li.setAll] at h
    obtain ⟨h1, h2⟩ := ER.setAll (e.set1 (i := v.i) r) rs h
    exact ⟨h1, by rw [List.length_cons, List.length_cons, h2]⟩
theorem rep_lst' {K : PySem.W.Frag} {av : Av} {H : Hp} {v : V} {ds : List D} (r : Rep K av H v (.lst ds)) : ∃ a xs, v = .ref a ∧ H a = some (.lst xs) ∧ ¬ av a ∧ Reps K av H xs ds := by
  cases r with
  | lst h n r => exact ⟨_, _, rfl, h, n, r⟩
/-- a target is bound -/
theorem ER.bindI {avC : Av} {ow : Nat → Option Addr} {env env' : En} {σ : L2.St} {H : Hp} {tg : Tg} {it : Itx} {v : V} {d : D} {Q : L2.St → Hp → Prop} (e : ER K avC ow env σ H) (hn : needT tg it = true) (ri : RepI K (prI it) (AV avC ow) H v d) (h : bindT tg d env = some env')
    (q : ∀ σ', ER K avC ow env' σ' H → (∀ vs, (∀ i ∈ tgIx tg, i ∈ vs) → wipe σ' vs = wipe σ vs) → (∀ i, i ∉ tgIx tg → σ'[i]? = σ[i]?) → Q σ' H) : tG K tg v σ H Q := by
  have wset : ∀ (vs : List Nat) (σ : L2.St) (i : Nat) (o : Option V), i ∈ vs → wipe (σ.set i o) vs = wipe σ vs := by
    intro vs
    induction vs with
    | nil => intro σ i o h; cases h
    | cons w vs ih =>
      intro σ i o h
      unfold wipe
      by_cases hw : i ∈ vs
      · rw [ih σ i o hw]
      · have : i = w := by rcases List.mem_cons.mp h with z | z; exact z; exact absurd z hw
        subst this
        have out : ∀ vs : List Nat, i ∉ vs → wipe (σ.set i o) vs = (wipe σ vs).set i o := by
          intro vs
          induction vs with
          | nil => intro _; rfl
          | cons u vs ih2 =>
            intro hn
            unfold wipe
            rw [ih2 fun z => hn (List.mem_cons_of_mem _ z), List.set_comm]
            rintro rfl
            exact hn List.mem_cons_self
        rw [out vs hw, List.set_set]
  cases tg with
  | name u =>
    simp only [bindT] at h
    cases h
    have r : Rep K (AV avC ow) H v d := ri.elim id fun z => by
      cases it <;> first | exact absurd z.1 Bool.false_ne_true | cases hn
    exact q _ (e.set1 r) (fun vs hv => wset vs σ u.i _ (hv u.i (by simp [tgIx]))) fun i hi => by rw [List.getElem?_set_ne (fun z => hi (by simp [tgIx, z]))]
  | tup us k p =>
    cases d with
    | tup ds =>
      have hp : ∃ a xs, v = .ref a ∧ SqT K H a xs ∧ Reps K (AV avC ow) H xs ds := by
        rcases ri with r | ⟨_, a, xs, ds', e1, e2, e3, e4⟩
        · obtain ⟨a, xs, e, ha, ra⟩ := rep_tup r
          exact ⟨a, xs, e, ha.sq, ra⟩
        · cases e2
          exact ⟨a, xs, e1, e3, e4⟩
      obtain ⟨a, xs, rfl, ha, ra⟩ := hp
      have h : Li.setAll us ds env = some env' := h
      obtain ⟨h1, h2⟩ := ER.setAll e ra h
      refine ⟨a, xs, rfl, .inl ha, h2, q _ h1 (fun vs hv => ?_) fun i hi => ?_⟩
      · have all : ∀ (us : List Vn) (xs : List V) (σ : L2.St), (∀ u ∈ us, u.i ∈ vs) → wipe (setV us xs σ) vs = wipe σ vs := by
          intro us
          induction us with
          | nil => intro xs σ _; rfl
          | cons u us ih =>
            intro xs σ hu
            cases xs with
            | nil => rfl
            | cons x xs =>
              show wipe (setV us xs (σ.set u.i (some x))) vs = _
              rw [ih xs _ fun w hw => hu w (List.mem_cons_of_mem _ hw), wset vs σ u.i _ (hu u List.mem_cons_self)]
        exact all us xs σ fun u hu => hv u.i (by simp only [tgIx]; exact List.mem_map_of_mem hu)
      · have all : ∀ (us : List Vn) (xs : List V) (σ : L2.St), i ∉ us.map (·.i) → (setV us xs σ)[i]? = σ[i]? := by
          intro us
          induction us with
          | nil => intro xs σ _; rfl
          | cons u us ih =>
            intro xs σ hu
            cases xs with
            | nil => rfl
            | cons x xs =>
              show (setV us xs (σ.set u.i (some x)))[i]? = _
              rw [ih xs _ fun z => hu (by rw [List.map_cons]; exact List.mem_cons_of_mem _ z), List.getElem?_set_ne]
              intro z
              exact hu (by rw [List.map_cons, z]; exact List.mem_cons_self)
        exact all us xs σ hi
    | lst ds =>
      have r : Rep K (AV avC ow) H v (.lst ds) := ri.elim id fun ⟨_, _, _, _, _, e2, _⟩ => by cases e2
      obtain ⟨a, xs, rfl, ha, _, ra⟩ := rep_lst' r
      have h : Li.setAll us ds env = some env' := h
      obtain ⟨h1, h2⟩ := ER.setAll e ra h
      refine ⟨a, xs, rfl, .inr (SqL.of ha), h2, q _ h1 (fun vs hv => ?_) fun i hi => ?_⟩
      · have all : ∀ (us : List Vn) (xs : List V) (σ : L2.St), (∀ u ∈ us, u.i ∈ vs) → wipe (setV us xs σ) vs = wipe σ vs := by
          intro us
          induction us with
          | nil => intro xs σ _; rfl
          | cons u us ih =>
            intro xs σ hu
            cases xs with
            | nil => rfl
            | cons x xs =>
              show wipe (setV us xs (σ.set u.i (some x))) vs = _
              rw [ih xs _ fun w hw => hu w (List.mem_cons_of_mem _ hw), wset vs σ u.i _ (hu u List.mem_cons_self)]
        exact all us xs σ fun u hu => hv u.i (by simp only [tgIx]; exact List.mem_map_of_mem hu)
      · have all : ∀ (us : List Vn) (xs : List V) (σ : L2.St), i ∉ us.map (·.i) → (setV us xs σ)[i]? = σ[i]? := by
          intro us
          induction us with
          | nil => intro xs σ _; rfl
          | cons u us ih =>
            intro xs σ hu
            cases xs with
            | nil => rfl
            | cons x xs =>
              show (setV us xs (σ.set u.i (some x)))[i]? = _
              rw [ih xs _ fun z => hu (by rw [List.map_cons]; exact List.mem_cons_of_mem _ z), List.getElem?_set_ne]
              intro z
              exact hu (by rw [List.map_cons, z]; exact List.mem_cons_self)
        exact all us xs σ hi
    | _ => simp [bindT] at h
theorem ER.bind {avC : Av} {ow : Nat → Option Addr} {env env' : En} {σ : L2.St} {H : Hp} {tg : Tg} {v : V} {d : D} {Q : L2.St → Hp → Prop} (e : ER K avC ow env σ H) (r : Rep K (AV avC ow) H v d) (h : bindT tg d env = some env')
    (q : ∀ σ', ER K avC ow env' σ' H → (∀ vs, (∀ i ∈ tgIx tg, i ∈ vs) → wipe σ' vs = wipe σ vs) → (∀ i, i ∉ tgIx tg → σ'[i]? = σ[i]?) → Q σ' H) : tG K tg v σ H Q :=
  ER.bindI (it := .seq (.var ⟨0, "", default⟩)) e (by cases tg <;> rfl) (.inl r) h q
end
end Li

/-! comprehensions -/
namespace Li
open PySem PySem.Spec L2
open PyProof.Rows hiding St
section
variable {K : PySem.W.Frag} {ec : Nat → Value} {C : List D} {cf : Nat → List D → Res D} {W : WX} {X : Cx} {avC : Av} {ow : Nat → Option Addr} {env : En} {σ : L2.St} {H : Hp}
theorem drp_drp {ow : Nat → Option Addr} {l m : List Nat} {a : Addr} {avC : Av} (h : AV avC (drp (drp ow l) m) a) : AV avC (drp ow m) a := by
  rcases h with h | ⟨i, h⟩
  · exact .inl h
  · refine .inr ⟨i, ?_⟩
    unfold drp at h ⊢
    split at h
    · cases h
    · rename_i hm
      split at h
      · cases h
      · rw [if_neg hm]; exact h
theorem ER.drop (e : ER K avC ow env σ H) (l : List Nat) : ER K avC (drp ow l) env σ H :=
  ⟨e.dom' l, e.len, fun i d h => by
    obtain ⟨v, h1, h2, h3⟩ := e.slot i d h
    exact ⟨v, h1, h2.mono AV.all, h3.mono fun a z => drp_drp z⟩⟩
theorem ER.addNew {H' : Hp} {p : Addr} (e : ER K avC ow env σ H) (hp : H p = none) (s : Same H H') (hp' : H' p ≠ none) : ER K (fun a => avC a ∨ a = p) ow env σ H' := by
  have sub : ∀ (ow : Nat → Option Addr) a, AV (fun a => avC a ∨ a = p) ow a → Wid (AV avC ow) H a := fun ow a z => by
    rcases z with (z | z) | z
    · exact .inl (.inl z)
    · exact .inr (by rw [z]; exact hp)
    · exact .inl (.inr z)
  refine ⟨fun a z => ?_, e.len, fun i d h => ?_⟩
  · rcases z with (z | z) | z
    · exact e.dom.same s a (.inl z)
    · rw [z]; exact hp'
    · exact e.dom.same s a (.inr z)
  · obtain ⟨v, h1, h2, h3⟩ := e.slot i d h
    clear h
    refine ⟨v, h1, ?_, (h3.wid.mono (sub _)).ext s.ext⟩
    refine RepW.same s ?_
    cases h2 with
    | non => exact .non
    | bl b => exact .bl b
    | int i => exact .int i
    | str x => exact .str x
    | lst h r => exact .lst h (r.wid.mono (sub _))
    | scr h => exact .scr h
    | dic h => exact .dic h
    | tup h r =>
      refine .tup ?_ (r.wid.mono (sub _))
      exact (wid_tup h).mono (sub _)
def avW (avC : Av) (ow : Nat → Option Addr) (vs : List Nat) : Av := fun a => avC a ∨ ∃ i, i ∈ vs ∧ ow i = some a
theorem AV.ofW {vs : List Nat} {a : Addr} (h : AV (avW avC ow vs) (drp ow vs) a) : AV avC ow a := by
  rcases h with (h | ⟨i, _, h⟩) | ⟨i, h⟩
  · exact .inl h
  · exact .inr ⟨i, h⟩
  · exact AV.all a (.inr ⟨i, h⟩)
theorem wipeD_some {env : En} {i : Nat} {x : D} : ∀ {vs : List Nat}, (wipeD env vs)[i]? = some (some x) → env[i]? = some (some x) ∧ i ∉ vs
  | [], h => ⟨h, by simp⟩
  | v :: vs, h => by
    unfold wipeD at h
    by_cases hi : v = i
    · subst hi
      by_cases hv : v < (wipeD env vs).length
      · rw [List.getElem?_set_self hv] at h; cases h
      · rw [List.getElem?_eq_none (by simpa using hv)] at h; cases h
    · rw [List.getElem?_set_ne hi] at h
      obtain ⟨h1, h2⟩ := wipeD_some h
      exact ⟨h1, by simp only [List.mem_cons, not_or]; exact ⟨fun e => hi e.symm, h2⟩⟩
theorem wipeD_length (env : En) : ∀ vs : List Nat, (wipeD env vs).length = env.length
  | [] => rfl
  | v :: vs => by unfold wipeD; rw [List.length_set, wipeD_length env vs]
theorem ER.wipe (e : ER K avC ow env σ H) (vs : List Nat) : ER K (avW avC ow vs) (drp ow vs) (wipeD env vs) (L2.wipe σ vs) H := by
  refine ⟨fun a z => e.dom a (AV.ofW z), by rw [wipeD_length, wipe_length]; exact e.len, fun i d h => ?_⟩
  obtain ⟨h0, hn⟩ := wipeD_some h
  obtain ⟨v, h1, h2, h3⟩ := e.slot i d h0
  refine ⟨v, by rw [wipe_out hn]; exact h1, h2.mono fun a z => AV.ofW z, h3.mono fun a z => ?_⟩
  rcases z with (z | ⟨j, hj, z⟩) | ⟨j, z⟩
  · exact .inl z
  · refine .inr ⟨j, ?_⟩
    unfold drp
    rw [if_neg]
    · exact z
    · intro hm
      rw [List.mem_singleton] at hm
      subst hm
      exact hn hj
  · exact drp_drp (.inr ⟨j, z⟩)
theorem fold_set (it : Itx) (env : Env) (x : Value) : foldedSetIterable it.py env x = pure x := by
  cases it with
  | seq e => cases e <;> rfl
  | _ => rfl
abbrev Wf : WX := fun _ _ _ _ => False
/-- what is there already, ahead of the rest's outcome -/
def pre (out : List D) (r : Res (List D)) : Res (List D) := r.bind fun rest => .ok (out ++ rest)
theorem pre_nil (r : Res (List D)) : pre [] r = r := by cases r <;> rfl
theorem lcGo_y {f : D → Res (Option D)} {d y : D} {l out : List D} (h : f d = .ok (some y)) : pre out (lcGo f (d :: l)) = pre (out ++ [y]) (lcGo f l) := by
  simp only [lcGo, h]
  cases lcGo f l with
  | ok r => simp only [pre, Res.bind, List.append_assoc, List.singleton_append]
  | ex c => rfl
  | no => rfl
theorem lcGo_n {f : D → Res (Option D)} {d : D} {l : List D} (h : f d = .ok none) : lcGo f (d :: l) = lcGo f l := by simp only [lcGo, h]
theorem lcGo_e {f : D → Res (Option D)} {d : D} {l : List D} {c : Nat} (h : f d = .ex c) : lcGo f (d :: l) = .ex c := by simp only [lcGo, h]
theorem lcGo_no {f : D → Res (Option D)} {d : D} {l : List D} (h : f d = .no) : lcGo f (d :: l) = .no := by simp only [lcGo, h]
def lcV (C : List D) (cf : Nat → List D → Res D) (elt : Ex) (ifs : Exo) (en : En) : Res (Option D) := match ifs with
  | .none => (ev C cf elt en).bind fun y => .ok (some y)
  | .some c => (asB (ev C cf c en)).bind fun t => if t = true then (ev C cf elt en).bind fun y => .ok (some y) else .ok none
/-- one turn of a comprehension -/
def lcF (C : List D) (cf : Nat → List D → Res D) (elt : Ex) (tg : Tg) (ifs : Exo) (env : En) (vs : List Nat) (d : D) : Res (Option D) := match bindT tg d (wipeD env vs) with
  | some en => (match ifs with
    | .none => (ev C cf elt en).bind fun y => .ok (some y)
    | .some c => (asB (ev C cf c en)).bind fun t => if t = true then (ev C cf elt en).bind fun y => .ok (some y) else .ok none)
  | none => .no
theorem ev_lc (elt : Ex) (tg : Tg) (it : Itx) (ifs : Exo) (scope : Scope) (own : List (Str × Nat)) (p : Pos) (env : En) :
    ev C cf (.lc elt tg it ifs scope own p) env = (evi C cf it env).bind fun ds => need (decide (ds.length ≤ LIM)) ((lcGo (lcF C cf elt tg ifs env (own.map (·.2))) ds).bind fun l => .ok (.lst l)) := by
  simp only [ev]
  congr 1
theorem itt {A B : Prop} (h : A) : if true = true then A else B := h
theorem itf {A B : Prop} (h : B) : if false = true then A else B := by rw [if_neg Bool.false_ne_true]; exact h
def tIfs (K : PySem.W.Frag) (ec : Nat → Value) (C : List D) (cf : Nat → List D → Res D) (W : WX) : Exo → TT
  | .none => tYes
  | .some c => tT K ec C cf W c
theorem lc_key {elt : Ex} {tg : Tg} {it : Itx} {ifs : Exo} {scope : Scope} {own : List (Str × Nat)} {p : Pos} (hnt : needT tg it = true) (hin : ∀ i ∈ tgIx tg, i ∈ own.map (·.2)) (σ : L2.St) (H : Hp) (Q : VK) (h : tF K ec C cf W (.lc elt tg it ifs scope own p) σ H Q) :
    tLcx (tI K ec C cf W it) (tG K tg) (fun σ => tIfs K ec C cf (WB W σ) ifs) (fun σ => tE K ec C cf (WB W σ) elt) (own.map (·.2)) σ H Q := by
  obtain ⟨avC, ow, env, er, h⟩ := h
  rw [ev_lc] at h
  refine ⟨avC, ow, env, er, (OUT.bind h).mono fun ds h J H1 G s1 wk g1 => fun dd hD => ?_⟩
  have hlen : ds.length ≤ LIM := by
    by_cases hn : ds.length ≤ LIM
    · exact hn
    · rw [decide_eq_false hn] at h
      exact (show False from h).elim
  rw [decide_eq_true hlen] at h
  rw [show ∀ r : Res D, need true r = r from fun r => rfl] at h
  generalize el : lcGo (lcF C cf elt tg ifs env (own.map (·.2))) ds = R at h
  have hR : R ≠ .no := fun z => by rw [z] at h; exact h
  have hX : ∀ c, R = .ex c → ∀ H', Same H H' → W (ec c) none σ H' := fun c z => by rw [z] at h; exact h
  have hQ : ∀ l, R = .ok l → ∀ v H', Same H H' → Rep K (AV avC (drp ow (al elt ++ ali it))) H' v (.lst l) → Fr K (AV avC (drp ow (al elt ++ ali it))) H H' v (.lst l) → Q v H' := fun l z => by rw [z] at h; exact h
  clear h
  · have er1 := (er.same s1).drop (ali it)
    have lm := lim
    let avR : Av := fun a => AV avC (drp ow (al elt ++ ali it)) a ∨ a = dd
    have w : Walk J ds.length G (fun i H x H' => Same H H' ∧ ∀ d, ds[i]? = some d → ∀ av, (∀ a, av a → Wid (AV avC (drp ow (ali it))) H1 a) → Dom av H → RepI K (prI it) av H' x d) :=
      ⟨wk.go, wk.stop, fun i H x H' _ g y => wk.yld i H x H' g y⟩
    refine lc_it w (fun i Hc => Same H1 Hc ∧ ∃ acc out, Hc dd = some (.lst acc) ∧ Reps K avR Hc acc out ∧ pre out (lcGo (lcF C cf elt tg ifs env (own.map (·.2))) (ds.drop i)) = R ∧ out.length ≤ i) ?_ ?_ ?_ ?_
    · exact ⟨Same.upd hD, [], [], upd_same, .nil, by rw [List.drop_zero, pre_nil]; exact el, Nat.le_refl _⟩
    · rintro i Hc _ ⟨sc, _⟩
      exact wk.stab H1 Hc g1 sc.ext
    · rintro i x Hc H' hi ⟨sc, acc, out, hacc, racc, hrest, hlo⟩ ⟨s', y⟩
      have hdi : ds[i]? = some ds[i] := List.getElem?_eq_getElem hi
      have hdr : ds.drop i = ds[i] :: ds.drop (i + 1) := List.drop_eq_getElem_cons hi
      rw [hdr] at hrest
      have hD' : H' dd = some (.lst acc) := s' dd _ hacc
      have er2 := er1.addNew hD (sc.trans s') (by rw [hD']; intro z; cases z)
      have er3 := er2.wipe (own.map (·.2))
      have er2c := er1.addNew hD sc (by rw [hacc]; intro z; cases z)
      have rx := y ds[i] hdi (AV (avW (fun a => avC a ∨ a = dd) (drp ow (ali it)) (own.map (·.2))) (drp (drp ow (ali it)) (own.map (·.2)))) (fun a z => by
        rcases AV.ofW z with (z | z) | z
        · exact .inl (.inl z)
        · exact .inr (by rw [z]; exact hD)
        · exact .inl (.inr z)) (fun a z => er2c.dom a (AV.ofW z))
      have hf : ∃ en, bindT tg ds[i] (wipeD env (own.map (·.2))) = some en := by
        cases hb : bindT tg ds[i] (wipeD env (own.map (·.2))) with
        | some en => exact ⟨en, rfl⟩
        | none =>
          have : lcF C cf elt tg ifs env (own.map (·.2)) ds[i] = .no := by unfold lcF; rw [hb]
          rw [lcGo_no this] at hrest
          exact absurd hrest.symm hR
      obtain ⟨en, hb⟩ := hf
      refine ER.bindI er3 hnt rx hb fun σ2 er4 hw _ => ⟨?_, ?_⟩
      · have := hw (own.map (·.2)) hin
        rw [this]
        have idem : ∀ (vs : List Nat) (σ : L2.St), L2.wipe (L2.wipe σ vs) vs = L2.wipe σ vs := by
          intro vs σ
          apply List.ext_getElem?
          intro j
          by_cases hj : j ∈ vs
          · have g : ∀ (τ : L2.St), (L2.wipe τ vs)[j]? = (if j < τ.length then some none else none) := by
              intro τ
              induction vs with
              | nil => cases hj
              | cons u vs ih =>
                unfold L2.wipe
                by_cases hu : u = j
                · subst hu
                  rw [List.getElem?_set, if_pos rfl, wipe_length]
                · rw [List.getElem?_set_ne hu]
                  exact ih (by rcases List.mem_cons.mp hj with z | z; exact absurd z.symm hu; exact z)
            rw [g, g, wipe_length]
          · rw [wipe_out hj]
        exact idem _ _
      · have avRsub : ∀ a, avR a → AV (avW (fun a => avC a ∨ a = dd) (drp ow (ali it)) (own.map (·.2))) (drp (drp (drp ow (ali it)) (own.map (·.2))) (al elt)) a := by
          intro a z
          rcases z with (z | ⟨j, z⟩) | z
          · exact .inl (.inl (.inl z))
          · unfold drp at z
            split at z
            · cases z
            · rename_i hj
              have h1 : j ∉ al elt := fun q => hj (List.mem_append_left _ q)
              have h2 : j ∉ ali it := fun q => hj (List.mem_append_right _ q)
              by_cases h3 : j ∈ own.map (·.2)
              · exact .inl (.inr ⟨j, h3, by unfold drp; rw [if_neg h2]; exact z⟩)
              · exact .inr ⟨j, by unfold drp; rw [if_neg h1, if_neg h3, if_neg h2]; exact z⟩
          · exact .inl (.inl (.inr z))
        have eF : lcF C cf elt tg ifs env (own.map (·.2)) ds[i] = lcV C cf elt ifs en := by
          unfold lcF; rw [hb]; cases ifs <;> rfl
        -- the item's own value
        have stepE : ∀ (H3 : Hp), Same H' H3 → lcF C cf elt tg ifs env (own.map (·.2)) ds[i] = ((ev C cf elt en).bind fun y => .ok (some y)) →
            tE K ec C cf (WB W σ) elt σ2 H3 fun v H4 => ∃ acc, H4 dd = some (.lst acc) ∧ acc.length < sizeLine ∧ (Same H1 (upd H4 dd (.lst (acc ++ [v]))) ∧ ∃ acc' out', upd H4 dd (.lst (acc ++ [v])) dd = some (.lst acc') ∧ Reps K avR (upd H4 dd (.lst (acc ++ [v]))) acc' out' ∧
              pre out' (lcGo (lcF C cf elt tg ifs env (own.map (·.2))) (ds.drop (i + 1))) = R ∧ out'.length ≤ i + 1) := by
          intro H3 s3 eq
          refine ⟨_, _, en, er4.same s3, ?_⟩
          generalize ee : ev C cf elt en = r at eq ⊢
          cases r with
          | ok yv =>
            intro v H4 s4 _ rv
            have sT : Same Hc H4 := s'.trans (s3.trans s4)
            refine ⟨acc, sT dd _ hacc, ?_, ?_, acc ++ [v], out ++ [yv], upd_same, ?_, ?_, ?_⟩
            · rw [racc.length]; omega
            · intro a o e
              rw [upd_ne (ne_of_none e hD)]
              exact sT a o (sc a o e)
            · have ex : Ext avR H4 (upd H4 dd (.lst (acc ++ [v]))) := fun a o n e => by
                rw [upd_ne (fun z => n (.inr z))]; exact e
              exact ((racc.ext sT.ext).snoc (rv.mono avRsub)).ext ex
            · rw [← lcGo_y (l := ds.drop (i + 1)) (out := out) eq]
              exact hrest
            · rw [List.length_append]; simp only [List.length_singleton]; omega
          | ex c =>
            have eq : lcF C cf elt tg ifs env (own.map (·.2)) ds[i] = .ex c := eq
            rw [lcGo_e eq] at hrest
            exact fun H4 s4 => hX c hrest.symm H4 (s1.trans (sc.trans (s'.trans (s3.trans s4))))
          | no =>
            have eq : lcF C cf elt tg ifs env (own.map (·.2)) ds[i] = .no := eq
            rw [lcGo_no eq] at hrest
            exact absurd hrest.symm hR
        cases ifs with
        | none => exact stepE H' (Same.refl _) eF
        | some c =>
          refine ⟨_, _, en, er4, ?_⟩
          have eF : lcF C cf elt tg (.some c) env (own.map (·.2)) ds[i] = (asB (ev C cf c en)).bind fun t => if t = true then (ev C cf elt en).bind fun y => .ok (some y) else .ok none := eF
          generalize ec' : ev C cf c en = r at eF ⊢
          cases r with
          | ok dc =>
            cases dc with
            | bl t =>
              intro H3 s3
              cases t with
              | true => exact stepE H3 s3 eF
              | false =>
                have eF : lcF C cf elt tg (.some c) env (own.map (·.2)) ds[i] = .ok none := eF
                rw [lcGo_n eF] at hrest
                exact ⟨sc.trans (s'.trans s3), acc, out, s3 dd _ hD', racc.ext (s'.trans s3).ext, hrest, by omega⟩
            | _ =>
              have eF : lcF C cf elt tg (.some c) env (own.map (·.2)) ds[i] = .no := eF
              rw [lcGo_no eF] at hrest
              exact absurd hrest.symm hR
          | ex k =>
            have eF : lcF C cf elt tg (.some c) env (own.map (·.2)) ds[i] = .ex k := eF
            rw [lcGo_e eF] at hrest
            exact fun H4 s4 => hX k hrest.symm H4 (s1.trans (sc.trans (s'.trans s4)))
          | no =>
            have eF : lcF C cf elt tg (.some c) env (own.map (·.2)) ds[i] = .no := eF
            rw [lcGo_no eF] at hrest
            exact absurd hrest.symm hR
    · rintro Hc ⟨sc, acc, out, hacc, racc, hrest, hlo⟩
      rw [List.drop_length] at hrest
      have hrest : R = .ok out := by rw [← hrest]; simp only [lcGo, pre, Res.bind, List.append_nil]
      have rD : Rep K (AV avC (drp ow (al elt ++ ali it))) Hc (.ref dd) (.lst out) :=
        .lst hacc (fun z => (er.same s1).dom' _ dd z hD) (racc.mono fun a z => .inl z)
      refine hQ out hrest _ Hc (s1.trans sc) rD fun ds' e => ?_
      cases e
      refine ⟨dd, acc, rfl, ?_, hacc, racc⟩
      cases q : H dd with
      | none => rfl
      | some o => rw [s1 dd o q] at hD; cases hD
theorem s_lc {elt : Ex} {tg : Tg} {it : Itx} {ifs : Exo} {scope : Scope} {own : List (Str × Nat)} {p : Pos} (tk : TkF X W) (hK : X.K = K) (hc : X.calm = true) (hN : X.N.Nodup) (hnt : needT tg it = true) (hi : PI X tg.py it.py (tI K ec C cf W it)) (ok : BlkOk X.N X.env.scope scope own)
    (hin : ∀ i ∈ tgIx tg, i ∈ own.map (·.2))
    (hg : ∀ (s : Shared) (H : Hp) (C' : Addr) (cl : List (Str × Addr)) (fp : List Addr), PG (X.blk s H scope (compEnvC scope cl C' X.env) fp) tg.py (tG K tg))
    (ht : ∀ c, ifs = .some c → InB X W scope fun Y σ => PT Y c.py (tT K ec C cf (WB W σ) c)) (he : InB X W scope fun Y σ => PE Y elt.py (tE K ec C cf (WB W σ) elt)) :
    PE X (Ex.lc elt tg it ifs scope own p).py (tF K ec C cf W (.lc elt tg it ifs scope own p)) := by
  have ht' : InB X W scope fun Y σ => PTs Y ifs.pyl (tIfs K ec C cf (WB W σ) ifs) := by
    intro σ s H C' cl fp xe tk
    cases ifs with
    | none => exact pts_nil
    | some c => exact pts_one (ht c rfl σ s H C' cl fp xe tk)
  exact peImp (pe_lcx tk hc hN hi ok hg ht' he (fold_set it X.env)) (lc_key hnt hin)
theorem s_setLc {v : Vn} {elt : Ex} {tg : Tg} {it : Itx} {ifs : Exo} {scope : Scope} {own : List (Str × Nat)} {p sp : Pos} (tk : TkF X W) (hK : X.K = K) (hc : X.calm = true) (hN : X.N.Nodup) (hnt : needT tg it = true) (hi : PI X tg.py it.py (tI K ec C cf W it)) (ok : BlkOk X.N X.env.scope scope own)
    (hv : X.N[v.i]? = some v.x) (hvl : X.env.scope.names.lookup v.x = some .local) (hk : X.env.scope.kind = .function) (hline : (v.p.line == p.line) = true) (hany : (scope.names.any fun (n, k) => n == v.x && (k == .local || k == .cell)) = false)
    (hin : ∀ i ∈ tgIx tg, i ∈ own.map (·.2))
    (hg : ∀ (s : Shared) (H : Hp) (C' : Addr) (cl : List (Str × Addr)) (fp : List Addr), PG (X.blk s H scope (compEnvC scope cl C' X.env) fp) tg.py (tG K tg))
    (ht : ∀ c, ifs = .some c → InB X W scope fun Y σ => PT Y c.py (tT K ec C cf (WB W σ) c)) (he : InB X W scope fun Y σ => PE Y elt.py (tE K ec C cf (WB W σ) elt)) :
    PS X (.Assign [v.py] (Ex.lc elt tg it ifs scope own p).py sp) (tAsg (tF K ec C cf W (.lc elt tg it ifs scope own p)) (gName v.i)) := by
  have ht' : InB X W scope fun Y σ => PTs Y ifs.pyl (tIfs K ec C cf (WB W σ) ifs) := by
    intro σ s H C' cl fp xe tk
    cases ifs with
    | none => exact pts_nil
    | some c => exact pts_one (ht c rfl σ s H C' cl fp xe tk)
  have q := ps_setLcx (X := X) (i := v.i) (y := v.x) (py := v.p) (spos := sp) (pos := p) tk hc hN hv hvl (sw_true hk hvl hline hany) hi ok hg ht' he (fold_set it X.env)
  exact ⟨fun pins s σ H D I h => q.run pins s σ H D I (lc_key hnt hin σ H _ h)⟩
end
end Li

/-! every expression -/
namespace Li
open PySem PySem.Spec L2
open PyProof.Rows hiding St
section
variable {P : Program} {w : World} {K : PySem.W.Frag} {mg : Str → Option Value} {base : Heap} {CN : List Str} {C : List D} {T : List Fn} {EN : List Str} {ec : Nat → Value} {k : Nat} {cf : Nat → List D → Res D} {N : List Str}
theorem Good.gl {X : Cx} {sc : Scope} {W : WX} (g : Good P w K mg base N k X sc W) {x : Str} (h : glB sc x = true) : Gl X x := by
  show X.env.scope.names.lookup x = some .globalImplicit
  rw [g.hs]
  exact gl_of h
theorem Good.vis {X : Cx} {sc : Scope} {W : WX} (g : Good P w K mg base N k X sc W) {x : Str} (h : visB sc x = true) : Vis X.env.scope x := by
  rw [g.hs]
  exact vis_of h
theorem Good.nod {X : Cx} {sc : Scope} {W : WX} (g : Good P w K mg base N k X sc W) : X.N.Nodup := by rw [g.hN]; exact g.nd
theorem Good.units {X : Cx} {sc : Scope} {W : WX} (g : Good P w K mg base N k X sc W) : X.A.units + 65 < cLine := by have := g.room.un; omega
theorem Top.no (top : Top P w K mg base CN C T EN ec) {x : Str} (h : x ∈ bltNames) {X : Cx} {sc : Scope} {W : WX} (g : Good P w K mg base N k X sc W) : X.mg x = none := by
  rw [g.hm]
  exact top.blt x h
theorem nm_debug {x : Str} (h : nmB x = true) : (x == ("__debug__" : Str)) = false ∧ (x == ("__classdict__" : Str)) = false ∧ x ≠ "__name__" := by
  unfold nmB at h
  simp only [Bool.and_eq_true, Bool.not_eq_true', decide_eq_true_eq] at h
  exact ⟨h.1.1, h.1.2, h.2⟩
theorem Good.blk {X : Cx} {sc : Scope} {W : WX} (g : Good P w K mg base N k X sc W) {scope : Scope} {own : List (Str × Nat)} (ok : BlkOk N sc scope own) (s : Shared) (H : Hp) (C' : Addr) (cl : List (Str × Addr)) (fp : List Addr) :
    Good P w K mg base N k (X.blk s H scope (compEnvC scope cl C' X.env) fp) (relS scope sc) Wf :=
  ⟨g.hP, g.hw, g.hK, g.hm, g.hb, g.hN, g.calm, g.nd, by rw [← g.hs]; rfl, ok.kind, g.room, g.tk.stk, fun _ _ ⟨_, _, _, _, _, _, _, _, _, _, _, _, _, _, _, _, _, _, z⟩ => z.elim⟩
theorem Good.bx {X : Cx} {sc : Scope} {W : WX} (g : Good P w K mg base N k X sc W) {scope : Scope} {own : List (Str × Nat)} (ok : BlkOk N sc scope own) {s : Shared} {H : Hp} {C' : Addr} {cl : List (Str × Addr)} {fp : List Addr} {xe : Value → Shared → Prop} {W' : WX}
    (tk : TkF (bx X s H scope (compEnvC scope cl C' X.env) fp xe) W') : Good P w K mg base N k (Li.bx X s H scope (compEnvC scope cl C' X.env) fp xe) (relS scope sc) W' :=
  ⟨g.hP, g.hw, g.hK, g.hm, g.hb, g.hN, g.calm, g.nd, by rw [← g.hs]; rfl, ok.kind, g.room, tk⟩
theorem tgs_blk {X : Cx} {sc : Scope} {W : WX} (g : Good P w K mg base N k X sc W) {scope : Scope} {own : List (Str × Nat)} (ok : BlkOk N sc scope own) {tg : Tg} (h : okTg N scope tg = true) (s : Shared) (H : Hp) (C' : Addr) (cl : List (Str × Addr)) (fp : List Addr) :
    PG (X.blk s H scope (compEnvC scope cl C' X.env) fp) tg.py (tG K tg) := by
  have gb := g.blk ok s H C' cl fp
  refine s_tg gb.hK gb.calm gb.nod fun v hv => ?_
  have hv' : okT N scope v = true := by
    cases tg with
    | name u => rw [show v = u from hv]; exact h
    | tup vs _ _ => exact List.all_eq_true.mp h v hv
  unfold okT at hv'
  simp only [Bool.and_eq_true, decide_eq_true_eq] at hv'
  have hl := loc_of hv'.1.2
  have es : (X.blk s H scope (compEnvC scope cl C' X.env) fp).env.scope = relS scope sc := gb.hs
  rw [es, gb.hN]
  refine ⟨hv'.1.1, ?_, ?_⟩
  · rcases hl with hl | hl
    · exact .inl (lookup_relS_keep (by decide) hl)
    · exact .inr (lookup_relS_keep (by decide) hl)
  · rcases hl with hl | hl
    · exact .inr (lookup_relS_keep (by decide) hl)
    · refine .inl ?_
      show (scope.names.lookup v.x == some .cell) = true
      rw [hl]
      rfl
theorem isTrue_plain' {e : Ex} (h : match e with | .nott _ _ | .cmp _ _ _ _ | .isn _ _ _ _ _ | .ist _ _ _ _ | .chain _ _ _ _ _ _ | .bool _ _ _ _ | .ife _ _ _ _ => False | _ => True) (env : Env) (whole : Sem Value) :
    isTrue e.py env whole = (do let v ← whole; standAt e.py.pos; holding [v] (truthy v)) := by
  cases e <;> first | exact h.elim | rfl
theorem plainIx (b : Ex) : PlainIx b.py := fun o i => by cases b <;> rfl
theorem behind (op : CmpOp) (b : Ex) : behindInMarks op b.py = false := by cases b <;> rfl
theorem lastM (o1 o2 : CmpOp) (b c : Ex) : lastMarks [o1, o2] [b.py, c.py] = false := by
  show behindInMarks o2 c.py = false
  exact behind o2 c
theorem s_chain {X : Cx} {W : WX} {o1 o2 : Co} {a b c : Ex} {p : Pos} (hK : X.K = K) (hu : X.A.units + 65 < cLine) (ha : PE X a.py (tE K ec C cf W a)) (hb : PE X b.py (tE K ec C cf W b)) (hc : PE X c.py (tE K ec C cf W c)) :
    PE X (Ex.chain o1 o2 a b c p).py (tE K ec C cf W (.chain o1 o2 a b c p)) ∧ PT X (Ex.chain o1 o2 a b c p).py (tT K ec C cf W (.chain o1 o2 a b c p)) := by
  subst hK
  have key : ∀ σ H Q, tE X.K ec C cf W (.chain o1 o2 a b c p) σ H Q → tChain (r2 X.K (cmpR o1)) (r2 X.K (cmpR o2)) (tE X.K ec C cf W a) (tE X.K ec C cf W b) (tE X.K ec C cf W c) σ H Q := by
    rintro σ H Q ⟨avC, ow, env, er, h⟩
    simp only [ev] at h
    refine ⟨avC, ow, env, er, (OUT.bind h).mono fun da h v1 H1 s1 w1 _ => ?_⟩
    refine ⟨avC, ow, env, er.same s1, ((OUT.bind h).same s1).mono fun db h v2 H2 s2 w2 _ => ?_⟩
    have av0 : ∀ z, AV avC (drp ow (alI a ++ (alI b ++ alI c))) z → AV avC (drp ow (alI a)) z := AV.sub fun i hi => List.mem_append_left _ hi
    have av1 : ∀ z, AV avC (drp ow (alI a ++ (alI b ++ alI c))) z → AV avC (drp ow (alI b)) z := AV.sub fun i hi => List.mem_append_right _ (List.mem_append_left _ hi)
    have av2 : ∀ z, AV avC (drp ow (alI a ++ (alI b ++ alI c))) z → AV avC (drp ow (alI c)) z := AV.sub fun i hi => List.mem_append_right _ (List.mem_append_right _ hi)
    refine ⟨AV avC (drp ow (alI a ++ (alI b ++ alI c))), da, db, (er.same (s1.trans s2)).dom' _, (w1.same s2).mono av0, w2.mono av1, ?_⟩
    have h := (OUT.bind h).asB
    generalize hr : cmpR o1 da db = r at h
    cases r with
    | ex c' => exact absurd hr (noex_cmp _ _ _ c')
    | no => exact (show False from h).elim
    | ok d =>
      obtain ⟨t, rfl, h⟩ := h
      intro v3 H3 s3 r3 _
      refine ⟨t, repW_bl r3.w, ?_⟩
      cases t with
      | true =>
        have h : OUT ec W σ H ((ev C cf c env).bind fun z => cmpR o2 db z) _ := h
        show tE X.K ec C cf W c σ H3 _
        refine ⟨avC, ow, env, er.same (s1.trans (s2.trans s3)), ((OUT.bind h).same (s1.trans (s2.trans s3))).mono fun dc h v4 H4 s4 w4 _ => ?_⟩
        refine ⟨AV avC (drp ow (alI a ++ (alI b ++ alI c))), db, dc, (er.same (s1.trans (s2.trans (s3.trans s4)))).dom' _, (w2.same (s3.trans s4)).mono av1, w4.mono av2, ?_⟩
        exact fin_of (e := .chain o1 o2 a b c p) (noex_cmp _ _ _) (s1.trans (s2.trans (s3.trans s4))) rfl h
      | false =>
        show Q (.bl false) H3
        exact h _ H3 (s1.trans (s2.trans s3)) (.bl _) (.bl _)
  exact ⟨peImp (pe_chain (op_cmpR hu o1) (op_cmpR hu o2) ha hb hc (lastM _ _ _ _)) key, ptImp (pt_chain (op_cmpR hu o1) (op_cmpR hu o2) ha hb hc (lastM _ _ _ _)) fun σ H Q h => key σ H _ (tE_of_tT h)⟩
/-! {k: v, ..}.get(a, b) -/
def trsD (ks : List KvD) : List (TE × TE) := ks.map fun k => (tC (.str k.x), tC (.str k.y))
theorem pps_of {X : Cx} {pos : Pos} : ∀ ks : List KvD, PPs X pos (ks.map fun k => some (.Constant (.str k.x) k.k k.p)) (ks.map fun k => .Constant (.str k.y) k.k2 k.p2) (trsD ks)
  | [] => pps_nil
  | k :: ks => pps_cons pe_str pe_str (pps_of ks)
def kvD (ks : List KvD) : List (Key × V) := ks.map fun k => (.inr k.x, V.str k.y)
theorem pairs_of {σ : L2.St} {H : Hp} : ∀ (ks : List KvD) (Q : List (V × V) → Hp → Prop), Q ((kvD ks).map fun kv => (kV kv.1, kv.2)) H → tPairs (trsD ks) σ H Q
  | [], Q, h => h
  | k :: ks, Q, h => pairs_of ks (fun ps H3 => Q ((V.str k.x, V.str k.y) :: ps) H3) h
theorem valV_kvD (x : Str) : ∀ ks : List KvD, valV (kvD ks) (.inr x) = (ks.find? fun k => decide (k.x = x)).map fun k => V.str k.y
  | [] => rfl
  | k :: ks => by
    by_cases h : k.x = x
    · have e : (kvD (k :: ks)) = (.inr k.x, V.str k.y) :: kvD ks := rfl
      rw [e, valV_pos (by rw [h]), List.find?_cons_of_pos (by simpa using h)]
      rfl
    · have e : (kvD (k :: ks)) = (.inr k.x, V.str k.y) :: kvD ks := rfl
      rw [e, valV_neg (fun z => h (Sum.inr.inj z)), List.find?_cons_of_neg (by simpa using h), valV_kvD x ks]
theorem merge_new : ∀ (more acc : List (Key × V)), ((acc ++ more).map (·.1)).Nodup → mergeK acc more = acc ++ more
  | [], acc, _ => by rw [List.append_nil]; rfl
  | p :: r, acc, h => by
    have hv : valV acc p.1 = none := by
      have hn : p.1 ∉ acc.map (·.1) := by
        rw [List.map_append, List.map_cons] at h
        exact fun z => (List.nodup_append.mp h).2.2 p.1 z p.1 List.mem_cons_self rfl
      unfold valV
      rw [Option.map_eq_none_iff, List.find?_eq_none]
      intro q hq z
      exact hn (List.mem_map.mpr ⟨q, hq, of_decide_eq_true z⟩)
    show mergeK (putK acc p.1 p.2) r = _
    rw [putK_new p.2 hv, merge_new r (acc ++ [(p.1, p.2)]) (by rw [List.append_assoc]; exact h), List.append_assoc]
    rfl
theorem s_dget {X : Cx} {W : WX} {ks : List KvD} {pd pa p : Pos} {a b : Ex} (hK : X.K = K) (hu : X.A.units + 65 < cLine) (hnd : (ks.map (·.x)).Nodup) (hl : ks.length ≤ 15) (hne : ks ≠ []) (hln : (pa.endLine == p.line) = true)
    (ha : PE X a.py (tE K ec C cf W a)) (hb : PE X b.py (tE K ec C cf W b)) : PE X (Ex.dget ks pd pa a b p).py (tE K ec C cf W (.dget ks pd pa a b p)) := by
  subst hK
  have hd : PE X (.Dict (ks.map fun k => some (.Constant (.str k.x) k.k k.p)) (ks.map fun k => .Constant (.str k.y) k.k2 k.p2) pd) (tDisp (trsD ks)) :=
    pe_disp (pps_of ks) (by rw [List.all_map]; exact List.all_eq_true.mpr fun _ _ => rfl) (by rw [List.length_map, List.length_map]) (by rw [Ne, List.map_eq_nil_iff]; exact hne) (by rw [List.length_map]; exact hl)
  have m : M2 X (.Dict (ks.map fun k => some (.Constant (.str k.x) k.k k.p)) (ks.map fun k => .Constant (.str k.y) k.k2 k.p2) pd) "get" pa a.py b.py p := by
    refine ⟨rfl, ?_, hln, ?_⟩
    · rw [star_ok, star_ok]
      rfl
    · rw [star_ok, star_ok]
      rfl
  refine peImp (pe_dget2 (by omega) hd ha hb m) ?_
  rintro σ H Q ⟨avC, ow, env, er, h⟩
  simp only [ev] at h
  intro q hq
  refine pairs_of ks _ ⟨upd_same, kvD ks, rfl, by unfold kvD; rw [List.length_map]; exact hl, ?_⟩
  have hm : mergeK [] (kvD ks) = kvD ks := merge_new (kvD ks) [] (by
    rw [List.nil_append]
    unfold kvD
    rw [List.map_map]
    have hnd2 : ks.Pairwise fun a b => a.x ≠ b.x := List.pairwise_map.mp hnd
    exact List.pairwise_map.mpr (hnd2.imp fun {a b} z e => z (Sum.inr.inj e)))
  rw [hm, upd_upd]
  have s0 : Same H (upd H q (.dK (kvD ks))) := Same.upd hq
  refine ⟨q, rfl, .inl ⟨_, .inl upd_same⟩, ?_⟩
  refine ⟨avC, ow, env, er.same s0, ((OUT.bind h).same s0).mono fun d h v H1 s1 w1 r1 => ?_⟩
  have s01 := s0.trans s1
  refine ⟨avC, ow, env, er.same s01, ((OUT.bind h).same s01).mono fun e h v2 H2 s2 w2 r2 => ?_⟩
  cases d with
  | str x =>
    cases w1
    have hH2 : H2 q = some (.dK (kvD ks)) := s2 q _ (s1 q _ upd_same)
    refine ⟨valV (kvD ks) (.inr x), DGet.k (k := .inr x) hH2, ?_⟩
    rw [valV_kvD]
    have h : ∀ v H', Same H H' → RepW X.K (AV avC (drp ow (alI (.dget ks pd pa a b p)))) H' v _ → Rep X.K (AV avC (drp ow (al (.dget ks pd pa a b p)))) H' v _ → Q v H' := h
    cases e1 : ks.find? fun k => decide (k.x = x) with
    | none =>
      rw [e1] at h
      exact h _ H2 (s01.trans s2) r2.w r2
    | some k =>
      rw [e1] at h
      exact h _ H2 (s01.trans s2) (.str k.y) (.str k.y)
  | _ => exact (show False from h).elim
/-! {k: v, ..} and d[x] -/
theorem dic_kv (ks : List KvD) : ((ks.map fun k => (k.x, k.y)).map fun p : Str × Str => ((.inr p.1 : Key), V.str p.2)) = kvD ks := by
  unfold kvD
  rw [List.map_map]
  rfl
theorem valV_dic (x : Str) : ∀ l : List (Str × Str), valV (l.map fun p => ((.inr p.1 : Key), V.str p.2)) (.inr x) = (l.find? fun p => decide (p.1 = x)).map fun p => V.str p.2
  | [] => rfl
  | p :: l => by
    by_cases h : p.1 = x
    · rw [List.map_cons, valV_pos (by rw [h]), List.find?_cons_of_pos (by simpa using h)]
      rfl
    · rw [List.map_cons, valV_neg (fun z => h (Sum.inr.inj z)), List.find?_cons_of_neg (by simpa using h), valV_dic x l]
theorem s_dict {X : Cx} {W : WX} {ks : List KvD} {p : Pos} (hK : X.K = K) (hnd : (ks.map (·.x)).Nodup) (hl : ks.length ≤ 15) (hne : ks ≠ []) : PE X (Ex.dict ks p).py (tE K ec C cf W (.dict ks p)) := by
  subst hK
  have hd : PE X (.Dict (ks.map fun k => some (.Constant (.str k.x) k.k k.p)) (ks.map fun k => .Constant (.str k.y) k.k2 k.p2) p) (tDisp (trsD ks)) :=
    pe_disp (pps_of ks) (by rw [List.all_map]; exact List.all_eq_true.mpr fun _ _ => rfl) (by rw [List.length_map, List.length_map]) (by rw [Ne, List.map_eq_nil_iff]; exact hne) (by rw [List.length_map]; exact hl)
  refine peImp hd ?_
  rintro σ H Q ⟨avC, ow, env, er, h⟩
  simp only [ev] at h
  intro q hq
  refine pairs_of ks _ ⟨upd_same, kvD ks, rfl, by unfold kvD; rw [List.length_map]; exact hl, ?_⟩
  have hm : mergeK [] (kvD ks) = kvD ks := merge_new (kvD ks) [] (by
    rw [List.nil_append]
    unfold kvD
    rw [List.map_map]
    have hnd2 : ks.Pairwise fun a b => a.x ≠ b.x := List.pairwise_map.mp hnd
    exact List.pairwise_map.mpr (hnd2.imp fun {a b} z e => z (Sum.inr.inj e)))
  rw [hm, upd_upd, ← dic_kv]
  have h : ∀ v H', Same H H' → RepW X.K (AV avC (drp ow (alI (.dict ks p)))) H' v _ → Rep X.K (AV avC (drp ow (al (.dict ks p)))) H' v _ → Q v H' := h
  exact h _ _ (Same.upd hq) (.dic upd_same) (.dic upd_same ((er.dom' _).new hq))
theorem s_dix {X : Cx} {W : WX} {o i : Ex} {p : Pos} (hK : X.K = K) (hu : X.A.units + 65 < cLine) (ho : PE X o.py (tE K ec C cf W o)) (hi : PE X i.py (tE K ec C cf W i)) : PE X (Ex.dix o i p).py (tE K ec C cf W (.dix o i p)) := by
  subst hK
  refine peImp (pe_dget (pos := p) (by omega) ho hi (plainIx i)) ?_
  rintro σ H Q ⟨avC, ow, env, er, h⟩
  simp only [ev] at h
  refine ⟨avC, ow, env, er, (OUT.bind h).mono fun d h v H1 s1 w1 r1 => ?_⟩
  refine ⟨avC, ow, env, er.same s1, ((OUT.bind h).same s1).mono fun e h v2 H2 s2 w2 r2 => ?_⟩
  cases d with
  | dic l =>
    cases e with
    | str x =>
      cases w1 with
      | @dic a _ hH =>
        cases w2
        have h : OUT ec W σ H (match l.find? fun p => decide (p.1 = x) with | some p => Res.ok (D.str p.2) | none => .no) _ := h
        cases e1 : l.find? fun p => decide (p.1 = x) with
        | none => rw [e1] at h; exact h.elim
        | some q =>
          rw [e1] at h
          refine ⟨a, .str q.2, rfl, ?_, ?_⟩
          · have := DGet.k (k := .inr x) (s2 a _ hH)
            rw [valV_dic, e1] at this
            exact this
          · have h : ∀ v H', Same H H' → RepW X.K (AV avC (drp ow (alI (.dix o i p)))) H' v _ → Rep X.K (AV avC (drp ow (al (.dix o i p)))) H' v _ → Q v H' := h
            exact h _ H2 (s1.trans s2) (.str q.2) (.str q.2)
    | _ => exact (show False from h).elim
  | _ => exact (show False from h).elim
/-! [f, g][i](a, ..) -/
def FOk (X : Cx) (k : Nat) (ec : Nat → Value) (cf : Nat → List D → Res D) (ar n : Nat) (v : V) : Prop := ∃ (f : Addr) (fd : FuncData) (ps : List Str), v = .ref f ∧ ps.length = ar ∧ FnOk X.prog X.w X.K X.mg X.base (L2N.CX X.prog X.w) k f fd ps (spF X.K ec cf ps.length n) ∧ PySem.W.keepIn X.K (.ref f) = true ∧ Binds X.K fd ps []
theorem pa_names {X : Cx} {ar : Nat} : ∀ (fs : List (Nat × Str × Pos)), (∀ f ∈ fs, ∃ v, FOk X k ec cf ar f.1 v ∧ PE X (.Name f.2.1 f.2.2) (tC v)) →
    ∃ vs : List V, vs.length = fs.length ∧ (∀ (j : Nat) n x p, fs[j]? = some (n, x, p) → ∃ v, vs[j]? = some v ∧ FOk X k ec cf ar n v) ∧ PA X (fs.map fun f => .Name f.2.1 f.2.2) (fun σ H Q => Q vs H)
  | [], _ => ⟨[], rfl, fun j n x p h => by simp at h, paImp pa_nil fun σ H Q h => h⟩
  | f :: fs, h => by
    obtain ⟨v, hv, pv⟩ := h f List.mem_cons_self
    obtain ⟨vs, h1, h2, h3⟩ := pa_names fs fun g hg => h g (List.mem_cons_of_mem _ hg)
    refine ⟨v :: vs, by rw [List.length_cons, List.length_cons, h1], fun j n x p hj => ?_, paImp (pa_cons pv h3 rfl) fun σ H Q h => h⟩
    cases j with
    | zero =>
      obtain rfl : f = (n, x, p) := by simpa using hj
      exact ⟨v, rfl, hv⟩
    | succ j => exact h2 j n x p (by simpa using hj)
theorem pe_sel {X : Cx} {fe e : Expr} {es : List Expr} {tf : TE} {t : TA} {W : WX} {pos : Pos} (hf : PE X fe tf) (hr : Room k X.A) (tk : TkF X W) (ha : PA X (e :: es) t)
    (ht : eval (.Call fe (e :: es) [] pos) X.env = (do callWith pos (← eval fe X.env) [] (backTo pos (starEach (e :: es) X.env)) (backToKw pos (keywordEach [] X.env))))
    (he : starEach (e :: es) X.env = (false, eval e X.env) :: starEach es X.env) (hpl : (backTo pos (starEach es X.env)).any (·.1) = false) :
    PE X (.Call fe (e :: es) [] pos) (fun σ H Q => tf σ H fun y H1 => ∃ (f : Addr) (fd : FuncData) (ps : List Str) (sp : Sp), y = V.ref f ∧ FnOk X.prog X.w X.K X.mg X.base (L2N.CX X.prog X.w) k f fd ps sp ∧ PySem.W.keepIn X.K (.ref f) = true ∧ Binds X.K fd ps [] ∧ t σ H1 fun vs H2 => sp vs H2 Q (WE W σ)) := by
  refine ⟨fun pins s σ H Q I h => ?_⟩
  refine Call_ (thn (hf.run pins s σ H _ I h) fun u s1 ⟨y, H1, I1, ry, f, fd, ps, sp, ey, F, hk, hb, q⟩ => ?_) ht
  subst ey
  obtain rfl : u = Value.ref f := ry
  refine PySem.W.callWith_K (h₀ := X.base) I1.ok.mod.kin hk (thn (ha.run pos pins s1 σ H1 _ I1 q) fun us s2 ⟨vs, H2, I2, r, q2⟩ => ⟨I2.kIn, ?_⟩) he hpl
  exact run_fnS (E := WE W) F hr hb (passF tk σ) I2 r q2
theorem s_sel {X : Cx} {W : WX} {fs : List (Nat × Str × Pos)} {pl ps p : Pos} {i a : Ex} {es : Exs} (hK : X.K = K) (hr : Room k X.A) (tk : TkF X W) (hl : fs.length ≤ 100)
    (hfs : ∀ f ∈ fs, ∃ v, FOk X k ec cf (es.len + 1) f.1 v ∧ PE X (.Name f.2.1 f.2.2) (tC v)) (hi : PE X i.py (tE K ec C cf W i)) (ha : PE X a.py (tE K ec C cf W a)) (hes : PA X es.py (tAs K ec C cf W es)) :
    PE X (Ex.sel fs pl i ps a es p).py (tE K ec C cf W (.sel fs pl i ps a es p)) := by
  subst hK
  obtain ⟨vs, hlen, hv, pn⟩ := pa_names fs hfs
  have plst := pe_lst (pos := pl) pn
  have pix := pe_ix (pos := ps) (ix_list (X := X)) plst hi (plainIx i)
  refine peImp (pe_sel (pos := p) pix hr tk (pa_cons ha hes (star_ok _ _ _)) rfl (star_ok _ _ _) (star_any _ _ _)) ?_
  rintro σ H Q ⟨avC, ow, env, er, h⟩
  simp only [ev] at h
  have lm : 10000 ≤ sizeLine := by rw [sizeLine_eq]; decide
  refine ⟨by rw [hlen]; omega, fun q hq => ?_⟩
  have s0 : Same H (upd H q (.lst vs)) := Same.upd hq
  refine ⟨avC, ow, env, er.same s0, ((OUT.bind h).same s0).mono fun d h v H1 s1 w1 r1 => ?_⟩
  have s01 := s0.trans s1
  cases d with
  | int z =>
    cases w1
    by_cases hz : 0 ≤ z
    · cases ej : fs[z.toNat]? with
      | none => simp only [selN, if_pos hz, ej, Option.map_none] at h; exact h.elim
      | some g =>
        obtain ⟨n, x, pp⟩ := g
        simp only [selN, if_pos hz, ej, Option.map_some] at h
        obtain ⟨v, e1, f, fd, pns, rfl, e3, e4, e5, e6⟩ := hv z.toNat n x pp ej
        have hat : atI vs z = some (.ref f) := by
          have hlt : z.toNat < vs.length := (List.getElem?_eq_some_iff.mp e1).1
          unfold atI ixN
          rw [if_pos hz, if_pos (by omega)]
          exact e1
        refine ⟨q, vs, z, .ref f, rfl, rfl, SqL.of (s1 q _ upd_same), hat, f, fd, pns, _, rfl, e4, e5, e6, ?_⟩
        refine ⟨avC, ow, env, er.same s01, ((OUT.bind h).same s01).mono fun d h v H2 s2 w2 r2 => ?_⟩
        refine ⟨avC, ow, env, er.same (s01.trans s2), ?_⟩
        have h := (OUT.bind h).same (s01.trans s2)
        generalize e : evs C cf es env = r at h ⊢
        cases r with
        | ok ds =>
          intro us H3 s3 rs
          have h : OUT ec W σ H (cf n (d :: ds)) _ := h
          have h := OUT.same h ((s01.trans s2).trans s3)
          have el := evs_len es env ds e
          have rl := rs.length
          refine ⟨by rw [List.length_cons]; omega, AV avC (drp ow (al a ++ als es)), d :: ds, (er.same ((s01.trans s2).trans s3)).dom' _, .cons ((r2.ext s3.ext).mono (AV.sub fun i hi => List.mem_append_left _ hi)) (rs.mono (AV.sub fun i hi => List.mem_append_right _ hi)), ?_⟩
          generalize cf n (d :: ds) = z at h ⊢
          cases z with
          | ok y => exact fun v H' s r => h v H' (((s01.trans s2).trans s3).trans s) r.w r
          | ex c => exact h
          | no => exact h
        | ex c => exact h
        | no => exact h
    · simp only [selN, if_neg hz] at h; exact h.elim
  | _ => simp only [selN] at h; exact h.elim
theorem s_call0 {X : Cx} {W : WX} {n : Nat} {x : Str} {f : Addr} {fd : FuncData} {ps : List Str} {pf p : Pos} (F : FnOk X.prog X.w X.K X.mg X.base (L2N.CX X.prog X.w) k f fd ps (spF X.K ec cf ps.length n)) (hK : X.K = K) (hr : Room k X.A) (hg : Gl X x) (hm : X.mg x = some (.ref f))
    (hk : PySem.W.keepIn X.K (.ref f) = true) (hb : Binds X.K fd ps []) (tk : TkF X W) (hd : (x == ("__debug__" : Str)) = false) (hlen : ps.length = 0) :
    PE X (Ex.call0 n x pf p).py (tE K ec C cf W (.call0 n x pf p)) := by
  subst hK
  refine ⟨fun pins s σ H Q I h => ?_⟩
  obtain ⟨avC, ow, env, er, h⟩ := h
  simp only [ev] at h
  refine wpAny_Call_Name_kw (ld_glob I hg hm ?_ hd)
  refine PySem.W.callWith_K0 I.kIn hk (run_fnS (us := []) (vs := []) (E := WE W) F hr hb (passF tk σ) I .nil ?_)
  refine ⟨by rw [hlen]; rfl, AV avC (drp ow (al (.call0 n x pf p))), [], er.dom' _, .nil, ?_⟩
  generalize cf n [] = r at h
  cases r with
  | ok d => exact fun v H' s' r => h v H' s' r.w r
  | ex c => exact h
  | no => exact h
theorem sqT_same {K : PySem.W.Frag} {H H' : Hp} {a : Addr} {xs : List V} (s : Same H H') (h : SqT K H a xs) : SqT K H' a xs := by
  rcases h with (h | ⟨o, h⟩) | h
  · exact .inl (.inl (s a _ h))
  · exact .inl (.inr ⟨o, s a _ h⟩)
  · exact .inr h
/-! ### sets of tuples of ints -/
def onceL (l : List (List Int)) : List (List Int) := l.foldl (fun acc x => if x ∈ acc then acc else acc ++ [x]) []
theorem inD_uT (x : List Int) (acc : List (List Int)) : inD (uT x) (acc.map uT) = decide (x ∈ acc) := by
  unfold inD
  rw [List.any_map]
  have e : ∀ y : List Int, ((fun y => eqD y (uT x)) ∘ uT) y = decide (y = x) := fun y => eqDs_ints y x
  by_cases h : x ∈ acc
  · rw [decide_eq_true h]
    exact List.any_eq_true.mpr ⟨x, h, by rw [e]; exact decide_eq_true rfl⟩
  · rw [decide_eq_false h, List.any_eq_false]
    intro y hy
    rw [e]
    intro z
    exact h (of_decide_eq_true z ▸ hy)
theorem onceD_fold : ∀ (l acc : List (List Int)), (l.map uT).foldl (fun acc x => if inD x acc = true then acc else acc ++ [x]) (acc.map uT) = (l.foldl (fun acc x => if x ∈ acc then acc else acc ++ [x]) acc).map uT
  | [], _ => rfl
  | x :: l, acc => by
    rw [List.map_cons, List.foldl_cons, List.foldl_cons, inD_uT]
    by_cases h : x ∈ acc
    · rw [decide_eq_true h, if_pos rfl, if_pos h]
      exact onceD_fold l acc
    · rw [decide_eq_false h, if_neg (by decide), if_neg h, ← onceD_fold l (acc ++ [x]), List.map_append]
      rfl
theorem onceD_uT (l : List (List Int)) : onceD (l.map uT) = (onceL l).map uT := onceD_fold l []
theorem onceL_fold : ∀ (l acc : List (List Int)), acc.Nodup → (l.foldl (fun acc x => if x ∈ acc then acc else acc ++ [x]) acc).Nodup ∧ ∀ x, x ∈ l.foldl (fun acc x => if x ∈ acc then acc else acc ++ [x]) acc ↔ x ∈ acc ∨ x ∈ l
  | [], acc, h => ⟨h, fun x => by simp⟩
  | y :: l, acc, h => by
    rw [List.foldl_cons]
    by_cases hy : y ∈ acc
    · rw [if_pos hy]
      obtain ⟨h1, h2⟩ := onceL_fold l acc h
      refine ⟨h1, fun x => ?_⟩
      rw [h2 x, List.mem_cons]
      constructor
      · rintro (z | z)
        · exact .inl z
        · exact .inr (.inr z)
      · rintro (z | z | z)
        · exact .inl z
        · subst z; exact .inl hy
        · exact .inr z
    · rw [if_neg hy]
      have hn : (acc ++ [y]).Nodup := by
        rw [List.nodup_append]
        exact ⟨h, List.nodup_cons.mpr ⟨List.not_mem_nil, List.nodup_nil⟩, fun a ha b hb => by rw [List.mem_singleton.mp hb]; rintro rfl; exact hy ha⟩
      obtain ⟨h1, h2⟩ := onceL_fold l (acc ++ [y]) hn
      refine ⟨h1, fun x => ?_⟩
      rw [h2 x, List.mem_append, List.mem_singleton, List.mem_cons, or_assoc]
theorem onceL_nodup (l : List (List Int)) : (onceL l).Nodup := (onceL_fold l [] List.nodup_nil).1
theorem mem_onceL (l : List (List Int)) (x : List Int) : x ∈ onceL l ↔ x ∈ l := by
  rw [onceL, (onceL_fold l [] List.nodup_nil).2 x]
  simp
/-- the tuples of a list, by where they stand -/
theorem reps_ks {K : PySem.W.Frag} {av : Av} {H : Hp} : ∀ {xs : List V} {ds : List D}, Reps K av H xs ds → ds.all isTI = true → ∃ ks : List (Addr × List Int), xs = ks.map (fun p => V.ref p.1) ∧ ds = ks.map (fun p => uT p.2) ∧ ∀ p ∈ ks, SqT K H p.1 (p.2.map V.int) ∧ Rep K av H (.ref p.1) (uT p.2)
  | _, _, .nil, _ => ⟨[], rfl, rfl, fun _ h => nomatch h⟩
  | _, _, .cons (d := d) r rs, h => by
    rw [List.all_cons, Bool.and_eq_true] at h
    obtain ⟨ks, h1, h2, h3⟩ := reps_ks rs h.2
    cases d with
    | tup l =>
      have hl : l.all isInt = true := h.1
      obtain ⟨a, xs, rfl, ha, ra⟩ := rep_tup r
      have el := all_ints hl
      rw [el] at ra
      have ex := reps_of_ints ra
      subst ex
      refine ⟨(a, l.map toI) :: ks, by rw [h1]; rfl, ?_, fun p hp => ?_⟩
      · rw [h2, List.map_cons]
        show D.tup l :: _ = D.tup ((l.map toI).map D.int) :: _
        rw [← el]
      · rcases List.mem_cons.mp hp with rfl | hp
        · refine ⟨ha.sq, ?_⟩
          show Rep K av H _ (.tup ((l.map toI).map D.int))
          rw [← el]
          exact r
        · exact h3 p hp
    | _ => cases h.1
theorem isTI1_TI {d : D} (h : isTI1 d = true) : isTI d = true := by
  unfold isTI1 at h
  split at h
  · exact h
  · cases h
theorem keys_perm {ks L : List (Addr × List Int)} (h1 : ∀ p ∈ L, p ∈ ks) (h2 : ∀ p ∈ ks, p.2 ∈ L.map (·.2)) (nd : (L.map (·.2)).Nodup) : (L.map (·.2)).Perm (onceL (ks.map (·.2))) := by
  refine (List.perm_ext_iff_of_nodup nd (onceL_nodup _)).mpr fun x => ?_
  rw [mem_onceL]
  constructor
  · intro h
    obtain ⟨p, hp, rfl⟩ := List.mem_map.mp h
    exact List.mem_map.mpr ⟨p, h1 p hp, rfl⟩
  · intro h
    obtain ⟨p, hp, rfl⟩ := List.mem_map.mp h
    exact h2 p hp
def rLenL (P : Program) (w : World) (K : PySem.W.Frag) : List V → Hp → VK → Prop := fun vs H Q => ∃ (a : Addr) (L : List (Addr × List Int)), vs = [V.ref a] ∧ H a = some (SetTO P w a L) ∧ (∀ p ∈ L, SqT K H p.1 (p.2.map V.int)) ∧ ((L.map (·.2)).Nodup → Q (.int L.length) H)
theorem cr_lenL {X : Cx} : CallR X (.builtin "len") (rLenL X.prog X.w X.K) := by
  intro pins s σ H vs us Q I r h
  obtain ⟨a, L, rfl, ha, hk, q⟩ := h
  have R0 : SetT0 X.prog X.w s.heap a L := (I.hok a _ ha).1
  obtain ⟨es, ep, t, R⟩ := R0.full fun p hp => I.isT (hk p hp)
  rw [Vals.ref1 r]
  obtain ⟨o, ho, hex, hd⟩ := R.ob
  have hsz := R.size
  have hfew := R.few
  have e : es.size = L.length := by omega
  exact call_len_set ho hex hd R.fits (by rw [e]; omega) ⟨.int L.length, H, I.tok _, ⟨_, by rw [e]⟩, q R.nd⟩
theorem nd_len {α : Type} [DecidableEq α] : ∀ {l m : List α}, l.Nodup → (∀ x ∈ l, x ∈ m) → l.length ≤ m.length
  | [], _, _, _ => Nat.zero_le _
  | x :: l, m, nd, h => by
    obtain ⟨h1, h2⟩ := List.nodup_cons.mp nd
    have hx := h x List.mem_cons_self
    have := nd_len h2 (m := m.erase x) fun y hy => (List.mem_erase_of_ne (a := y) (b := x) (fun e => h1 (by rw [← e]; exact hy))).mpr (h y (List.mem_cons_of_mem _ hy))
    rw [List.length_erase_of_mem hx] at this
    have := List.length_pos_of_mem hx
    rw [List.length_cons]
    omega
theorem s_srtset {X : Cx} {W : WX} {s : Bool} {a : Ex} {ps pc pf p : Pos} (hK : X.K = K) (hc : X.calm = true) (hu : X.A.units + 65 < cLine) (hg : Gl X (if s then "sorted" else "len")) (hm : X.mg (if s then "sorted" else "len") = none) (hg2 : Gl X "set") (hm2 : X.mg "set" = none) (ha : PE X a.py (tE K ec C cf W a)) :
    PE X (Ex.srtset s a ps pc pf p).py (tF K ec C cf W (.srtset s a ps pc pf p)) := by
  subst hK
  have ps1 := pe_callTy (p := ps) (pos := pc) (crOr (cr_setTT hc (by omega)) (cr_setI hc)) hg2 hm2 (by decide +kernel) (pa_cons ha pa_nil (star_ok a [] X.env)) (by decide) (by decide) (star_ok a [] X.env) rfl
  have ps2 := pe_callTy (p := ps) (pos := pc) (crOr (crOr (cr_setTT hc (by omega)) (cr_setI hc)) (cr_setM hc (by omega))) hg2 hm2 (by decide +kernel) (pa_cons ha pa_nil (star_ok a [] X.env)) (by decide) (by decide) (star_ok a [] X.env) rfl
  cases s with
  | true =>
    refine peImp (pe_callB (p := pf) (pos := p) (crOr (crOr (cr_sortedL hc hu) (cr_sortedSI hc)) (cr_sortedM hc hu)) hg hm (by decide +kernel) (pa_cons ps2 pa_nil rfl) (by decide) (by decide) rfl rfl) ?_
    rintro σ H Q ⟨avC, ow, env, er, h⟩
    simp only [ev, if_true] at h
    refine ⟨avC, ow, env, er, (OUT.bind h).mono fun d h v H1 s1 w1 r1 => ?_⟩
    have q : ∀ H2, Same H1 H2 → OKV X.K (AV avC (drp ow (alI a))) H2 Q (srtSetR d) := fun H2 s2 => finF_of (e := .srtset true a ps pc pf p) (noex_srt true d) (s1.trans s2) h
    have dm := (er.same s1).dom' (alI a)
    cases d with
    | lst ds =>
      obtain ⟨hs0, _⟩ := OKV.need (q H1 (Same.refl _))
      have hs : (ds.all isTI1 = true ∧ (ds.length < 64 ∨ (onceD ds).length < 63 ∨ ds.length < 300)) ∨ (ds.all isInt = true ∧ decide (ds.length < 64) = true) := by
        rw [Bool.or_eq_true, Bool.or_eq_true, Bool.and_eq_true, Bool.or_eq_true, Bool.and_eq_true, Bool.and_eq_true] at hs0
        rcases hs0 with (⟨hs | hs, hl⟩ | ⟨hs, hl⟩) | ⟨hs, hl⟩
        · exact .inl ⟨hs, .inl (of_decide_eq_true hl)⟩
        · exact .inr ⟨hs, hl⟩
        · exact .inl ⟨hs, .inr (.inl (of_decide_eq_true hl))⟩
        · exact .inl ⟨hs, .inr (.inr (of_decide_eq_true hl))⟩
      obtain ⟨l, xs, rfl, hH, rs⟩ := repW_lst w1
      rcases hs with ⟨hs, hlen⟩ | ⟨hs, hl⟩
      rotate_left
      · have e := all_ints hs
        rw [e] at rs
        have e2 := reps_of_ints rs
        subst e2
        have hl' : (ds.map toI).length < 64 := by
          rw [List.length_map]
          exact of_decide_eq_true hl
        refine .inl (.inr ⟨l, ds.map toI, rfl, SqL.of hH, hl', fun a' c hn hle => .inl (.inr ?_)⟩)
        have sm : Same H1 (upd H1 a' (SetIO X.w a' (fun j => decide (j ∈ ds.map toI)) c)) := Same.upd hn
        refine ⟨a', _, c, rfl, upd_same, by omega, fun ms p' pw hmem hp' => ?_⟩
        obtain ⟨_, q2⟩ := OKV.need (q _ sm)
        obtain ⟨ms', e3, pw', hmem'⟩ := srtOnce_int (ds.map toI)
        have e4 : ms = ms' := srt_int_uniq pw pw' fun k => by
          rw [hmem k, hmem' k]
          simp
        have e5 : sortD (onceD ds) = ms.map D.int := (congrArg (fun x => sortD (onceD x)) e).trans (by rw [e4]; exact e3)
        rw [e5] at q2
        exact OKV.lst q2 (dm.same sm) (reps_ints ms) p' hp'
      obtain ⟨ks, rfl, rfl, hk⟩ := reps_ks rs (List.all_eq_true.mpr fun d hd => isTI1_TI (List.all_eq_true.mp hs d hd))
      have hne : ∀ p ∈ ks, p.2 ≠ [] := fun p hp e => by
        have := List.all_eq_true.mp hs (uT p.2) (List.mem_map.mpr ⟨p, hp, rfl⟩)
        rw [e] at this
        cases this
      rcases (show ks.length < 300 ∨ (onceD (ks.map fun p => uT p.2)).length < 63 from by
          rcases hlen with hl | hl | hl
          · exact .inl (by have : ks.length < 64 := by simpa using hl
                           omega)
          · exact .inr hl
          · exact .inl (by simpa using hl)) with h300 | hl
      · refine .inr ⟨l, ks, rfl, SqL.of hH, fun p hp => (hk p hp).1, h300, fun a' L hn hsub hall => .inr ?_⟩
        have sm : Same H1 (upd H1 a' (SetMO X.prog X.w a' L)) := Same.upd hn
        refine ⟨a', L, rfl, upd_same, fun p hp => sqT_same sm (hk p (hsub p hp)).1, fun p hp => hne p (hsub p hp), fun L' p' pm nd srt hp' => ?_⟩
        have q2 := q _ sm
        obtain ⟨_, q2⟩ := OKV.need q2
        have e1 : sortD (onceD (ks.map fun p => uT p.2)) = L'.map fun p => uT p.2 := by
          have e2 : (ks.map fun p => uT p.2) = (ks.map (·.2)).map uT := by rw [List.map_map]; rfl
          have nL : (L.map (·.2)).Nodup := ((pm.map (·.2)).nodup_iff).mp nd
          have e3 : L'.map (·.2) = sortL (onceL (ks.map (·.2))) := srtL_uniq srt (sortL_srt _) ((pm.map (·.2)).trans ((keys_perm hsub hall nL).trans (sortL_perm _).symm))
          have e4 : (L'.map fun p => uT p.2) = (L'.map (·.2)).map uT := by rw [List.map_map]; rfl
          rw [e2, onceD_uT, sortD_map ltD_uT fun _ _ => trivial, e4, e3]
        rw [e1] at q2
        refine OKV.lst q2 (dm.same sm) ?_ p' hp'
        have reps : ∀ M : List (Addr × List Int), (∀ p ∈ M, p ∈ ks) → Reps X.K (AV avC (drp ow (alI a))) (upd H1 a' (SetMO X.prog X.w a' L)) (M.map fun p => V.ref p.1) (M.map fun p => uT p.2) := by
          intro M hM
          induction M with
          | nil => exact .nil
          | cons p M ih => exact .cons ((hk p (hM p List.mem_cons_self)).2.ext sm.ext) (ih fun x hx => hM x (List.mem_cons_of_mem _ hx))
        exact reps L' fun p hp => hsub p (pm.mem_iff.mp hp)
      · have hfew : ks.length < 64 ∨ (FewT ks ∧ SqL X.K H1 l (ks.map fun p => V.ref p.1)) := by
          refine .inr ⟨fun M nd sub => ?_, SqL.of hH⟩
          have e2 : (ks.map fun p => uT p.2) = (ks.map (·.2)).map uT := by rw [List.map_map]; rfl
          rw [e2, onceD_uT, List.length_map] at hl
          have := nd_len nd (m := onceL (ks.map (·.2))) fun x hx => by
            obtain ⟨p, hp, rfl⟩ := List.mem_map.mp hx
            exact (mem_onceL _ _).mpr (List.mem_map.mpr ⟨p, sub p hp, rfl⟩)
          rw [List.length_map] at this
          omega
        refine .inl (.inl ⟨l, ks, rfl, .inl (SqL.of hH), fun p hp => (hk p hp).1, hfew, fun a' L hn hsub hall => .inl (.inl ?_)⟩)
        have sm : Same H1 (upd H1 a' (SetTO X.prog X.w a' L)) := Same.upd hn
        refine ⟨a', L, rfl, upd_same, fun p hp => sqT_same sm (hk p (hsub p hp)).1, fun p hp => hne p (hsub p hp), fun L' p' pm nd srt hp' => ?_⟩
        have q2 := q _ sm
        obtain ⟨_, q2⟩ := OKV.need q2
        have e1 : sortD (onceD (ks.map fun p => uT p.2)) = L'.map fun p => uT p.2 := by
          have e2 : (ks.map fun p => uT p.2) = (ks.map (·.2)).map uT := by rw [List.map_map]; rfl
          have nL : (L.map (·.2)).Nodup := ((pm.map (·.2)).nodup_iff).mp nd
          have e3 : L'.map (·.2) = sortL (onceL (ks.map (·.2))) := srtL_uniq srt (sortL_srt _) ((pm.map (·.2)).trans ((keys_perm hsub hall nL).trans (sortL_perm _).symm))
          have e4 : (L'.map fun p => uT p.2) = (L'.map (·.2)).map uT := by rw [List.map_map]; rfl
          rw [e2, onceD_uT, sortD_map ltD_uT fun _ _ => trivial, e4, e3]
        rw [e1] at q2
        refine OKV.lst q2 (dm.same sm) ?_ p' hp'
        have reps : ∀ M : List (Addr × List Int), (∀ p ∈ M, p ∈ ks) → Reps X.K (AV avC (drp ow (alI a))) (upd H1 a' (SetTO X.prog X.w a' L)) (M.map fun p => V.ref p.1) (M.map fun p => uT p.2) := by
          intro M hM
          induction M with
          | nil => exact .nil
          | cons p M ih => exact .cons ((hk p (hM p List.mem_cons_self)).2.ext sm.ext) (ih fun x hx => hM x (List.mem_cons_of_mem _ hx))
        exact reps L' fun p hp => hsub p (pm.mem_iff.mp hp)
    | tup ds =>
      obtain ⟨hs, _⟩ := OKV.need (q H1 (Same.refl _))
      obtain ⟨hs, hl⟩ := shand hs
      obtain ⟨l, xs, rfl, hH, rs⟩ := repW_tup w1
      obtain ⟨ks, rfl, rfl, hk⟩ := reps_ks rs (List.all_eq_true.mpr fun d hd => isTI1_TI (List.all_eq_true.mp hs d hd))
      have hne : ∀ p ∈ ks, p.2 ≠ [] := fun p hp e => by
        have := List.all_eq_true.mp hs (uT p.2) (List.mem_map.mpr ⟨p, hp, rfl⟩)
        rw [e] at this
        cases this
      refine .inl (.inl ⟨l, ks, rfl, .inr hH.sq, fun p hp => (hk p hp).1, .inl (by simpa using of_decide_eq_true hl), fun a' L hn hsub hall => .inl (.inl ?_)⟩)
      have sm : Same H1 (upd H1 a' (SetTO X.prog X.w a' L)) := Same.upd hn
      refine ⟨a', L, rfl, upd_same, fun p hp => sqT_same sm (hk p (hsub p hp)).1, fun p hp => hne p (hsub p hp), fun L' p' pm nd srt hp' => ?_⟩
      have q2 := q _ sm
      obtain ⟨_, q2⟩ := OKV.need q2
      have e1 : sortD (onceD (ks.map fun p => uT p.2)) = L'.map fun p => uT p.2 := by
        have e2 : (ks.map fun p => uT p.2) = (ks.map (·.2)).map uT := by rw [List.map_map]; rfl
        have nL : (L.map (·.2)).Nodup := ((pm.map (·.2)).nodup_iff).mp nd
        have e3 : L'.map (·.2) = sortL (onceL (ks.map (·.2))) := srtL_uniq srt (sortL_srt _) ((pm.map (·.2)).trans ((keys_perm hsub hall nL).trans (sortL_perm _).symm))
        have e4 : (L'.map fun p => uT p.2) = (L'.map (·.2)).map uT := by rw [List.map_map]; rfl
        rw [e2, onceD_uT, sortD_map ltD_uT fun _ _ => trivial, e4, e3]
      rw [e1] at q2
      refine OKV.lst q2 (dm.same sm) ?_ p' hp'
      have reps : ∀ M : List (Addr × List Int), (∀ p ∈ M, p ∈ ks) → Reps X.K (AV avC (drp ow (alI a))) (upd H1 a' (SetTO X.prog X.w a' L)) (M.map fun p => V.ref p.1) (M.map fun p => uT p.2) := by
        intro M hM
        induction M with
        | nil => exact .nil
        | cons p M ih => exact .cons ((hk p (hM p List.mem_cons_self)).2.ext sm.ext) (ih fun x hx => hM x (List.mem_cons_of_mem _ hx))
      exact reps L' fun p hp => hsub p (pm.mem_iff.mp hp)
    | _ => exact (show False from q H1 (Same.refl _)).elim
  | false =>
    refine peImp (pe_callB (p := pf) (pos := p) cr_lenL hg hm (by decide +kernel) (pa_cons ps1 pa_nil rfl) (by decide) (by decide) rfl rfl) ?_
    rintro σ H Q ⟨avC, ow, env, er, h⟩
    simp only [ev] at h
    refine ⟨avC, ow, env, er, (OUT.bind h).mono fun d h v H1 s1 w1 r1 => ?_⟩
    have q : ∀ H2, Same H1 H2 → OKV X.K (AV avC (drp ow (alI a))) H2 Q (lenSetR d) := fun H2 s2 => finF_of (e := .srtset false a ps pc pf p) (noex_srt false d) (s1.trans s2) h
    cases d with
    | lst ds =>
      obtain ⟨hs, _⟩ := OKV.need (q H1 (Same.refl _))
      obtain ⟨hs, hl⟩ := shand hs
      obtain ⟨l, xs, rfl, hH, rs⟩ := repW_lst w1
      obtain ⟨ks, rfl, rfl, hk⟩ := reps_ks rs hs
      refine .inl ⟨l, ks, rfl, .inl (SqL.of hH), fun p hp => (hk p hp).1, .inl (by simpa using of_decide_eq_true hl), fun a' L hn hsub hall => ?_⟩
      have sm : Same H1 (upd H1 a' (SetTO X.prog X.w a' L)) := Same.upd hn
      refine ⟨a', L, rfl, upd_same, fun p hp => sqT_same sm (hk p (hsub p hp)).1, fun nd => ?_⟩
      obtain ⟨_, q2⟩ := OKV.need (q _ sm)
      have e1 : (onceD (ks.map fun p => uT p.2)).length = L.length := by
        have e2 : (ks.map fun p => uT p.2) = (ks.map (·.2)).map uT := by rw [List.map_map]; rfl
        rw [e2, onceD_uT, List.length_map, ← (keys_perm hsub hall nd).length_eq, List.length_map]
      rw [e1] at q2
      exact OKV.int q2
    | tup ds =>
      obtain ⟨hs, _⟩ := OKV.need (q H1 (Same.refl _))
      obtain ⟨hs, hl⟩ := shand hs
      obtain ⟨l, xs, rfl, hH, rs⟩ := repW_tup w1
      obtain ⟨ks, rfl, rfl, hk⟩ := reps_ks rs hs
      refine .inl ⟨l, ks, rfl, .inr hH.sq, fun p hp => (hk p hp).1, .inl (by simpa using of_decide_eq_true hl), fun a' L hn hsub hall => ?_⟩
      have sm : Same H1 (upd H1 a' (SetTO X.prog X.w a' L)) := Same.upd hn
      refine ⟨a', L, rfl, upd_same, fun p hp => sqT_same sm (hk p (hsub p hp)).1, fun nd => ?_⟩
      obtain ⟨_, q2⟩ := OKV.need (q _ sm)
      have e1 : (onceD (ks.map fun p => uT p.2)).length = L.length := by
        have e2 : (ks.map fun p => uT p.2) = (ks.map (·.2)).map uT := by rw [List.map_map]; rfl
        rw [e2, onceD_uT, List.length_map, ← (keys_perm hsub hall nd).length_eq, List.length_map]
      rw [e1] at q2
      exact OKV.int q2
    | _ => exact (show False from q H1 (Same.refl _)).elim
/-- whose lists are new ones -/
def fresh : Ex → Bool
  | .bin _ _ _ _ => true
  | .lst _ _ => true
  | .blt _ _ _ _ _ => true
  | .srtset _ _ _ _ _ _ => true
  | .lrng _ _ _ _ _ _ _ => true
  | .slc _ _ _ _ _ => true
  | .rev _ _ _ _ _ _ => true
  | .split _ _ _ _ => true
  | .lc _ _ _ _ _ _ _ => true
  | _ => false
theorem wand {a b : Bool} (h : (a && b) = true) : a = true ∧ b = true := by simpa using h
mutual
theorem sound_e (top : Top P w K mg base CN C T EN ec) (fns : Fns P w K mg base T ec k cf) : ∀ (e : Ex) (X : Cx) (sc : Scope) (W : WX), Good P w K mg base N k X sc W → wf CN (T.map fun F => (F.nm, F.ps.length)) N sc e = true →
    PE X e.py (tE K ec C cf W e) ∧ PT X e.py (tT K ec C cf W e) ∧ (fresh e = true → PE X e.py (tF K ec C cf W e))
  | .var v, X, sc, W, g, h => by
    have fin : PE X (Ex.var v).py (tE K ec C cf W (.var v)) := by
      simp only [wf, okV] at h
      obtain ⟨h1, h3⟩ := wand h
      obtain ⟨h1, h2⟩ := wand h1
      obtain ⟨n1, n2, n3⟩ := nm_debug h3
      refine peImp (pe_var (i := v.i) (by rw [g.hN]; exact of_decide_eq_true h1) (g.vis h2) n1 n2) ?_
      rintro σ H Q ⟨avC, ow, env, er, h⟩
      simp only [ev, En.get] at h
      cases e : env[v.i]? with
      | none => rw [e] at h; exact (show False from h).elim
      | some o =>
        rw [e] at h
        cases o with
        | none => exact (show False from h).elim
        | some d =>
          obtain ⟨v', h1, h2, h3⟩ := er.slot v.i d e
          exact ⟨v', h1, h v' H (Same.refl H) (by show RepW K (AV avC (drp ow [])) H v' d; rw [drp_nil]; exact h2) h3⟩
    exact ⟨fin, pt_of fin (isTrue_plain' trivial X.env), fun z => by cases z⟩
  | .con c kk p, X, sc, W, g, h => by
    have fin : PE X (Ex.con c kk p).py (tE K ec C cf W (.con c kk p)) := by
      cases c with
      | non => exact peImp pe_non fun σ H Q ⟨avC, ow, env, er, h⟩ => h _ H (Same.refl H) .non .non
      | bl b => exact peImp pe_bl fun σ H Q ⟨avC, ow, env, er, h⟩ => h _ H (Same.refl H) (.bl b) (.bl b)
      | int i => exact peImp pe_int fun σ H Q ⟨avC, ow, env, er, h⟩ => h _ H (Same.refl H) (.int i) (.int i)
      | str x => exact peImp pe_str fun σ H Q ⟨avC, ow, env, er, h⟩ => h _ H (Same.refl H) (.str x) (.str x)
    exact ⟨fin, pt_of fin (isTrue_plain' trivial X.env), fun z => by cases z⟩
  | .glob n x p, X, sc, W, g, h => by
    have fin : PE X (Ex.glob n x p).py (tE K ec C cf W (.glob n x p)) := by
      simp only [wf] at h
      obtain ⟨h1, h3⟩ := wand h
      obtain ⟨h1, h2⟩ := wand h1
      obtain ⟨n1, n2, n3⟩ := nm_debug h3
      cases e : C[n]? with
      | none =>
        refine ⟨fun pins s σ H Q I q => ?_⟩
        obtain ⟨avC, ow, env, er, q⟩ := q
        simp only [ev, e] at q
        exact (show False from q).elim
      | some d =>
        obtain ⟨v, u, hm, r, hr⟩ := top.con n x d (of_decide_eq_true h1) e
        refine peImp (pe_glob (g.gl h2) (by rw [g.hm]; exact hm) r n1) ?_
        rintro σ H Q ⟨avC, ow, env, er, q⟩
        simp only [ev, e] at q
        exact q v H (Same.refl H) (hr _ H).w (hr _ H)
    exact ⟨fin, pt_of fin (isTrue_plain' trivial X.env), fun z => by cases z⟩
  | .bin op a b p, X, sc, W, g, h => by
    have finF : PE X (Ex.bin op a b p).py (tF K ec C cf W (.bin op a b p)) := by
      simp only [wf] at h
      obtain ⟨h1, h2⟩ := wand h
      have ho : OpR X (binaryOp op.py) (r2 K (binR op)) := by rw [← g.hK]; exact op_binR op
      exact peImp (pe_op ho (sound_e top fns a X sc W g h1).1 (sound_e top fns b X sc W g h2).1) (op2f (noex_bin op) (fun _ => by simp only [ev]) rfl)
    have fin := peImp finF (tF_of rfl)
    exact ⟨fin, pt_of fin (isTrue_plain' trivial X.env), fun _ => finF⟩
  | .neg a p, X, sc, W, g, h => by
    have fin : PE X (Ex.neg a p).py (tE K ec C cf W (.neg a p)) := by
      simp only [wf] at h
      have ho : UnR X (unaryOp .USub) (r1D K negR) := by rw [← g.hK]; exact un_negR
      exact peImp (pe_un ho (sound_e top fns a X sc W g h).1) (op1 noex_neg (fun _ => by simp only [ev]) rfl rfl)
    exact ⟨fin, pt_of fin (isTrue_plain' trivial X.env), fun z => by cases z⟩
  | .nott a p, X, sc, W, g, h => by
    simp only [wf] at h
    obtain ⟨k1, k2, _⟩ := sound_e top fns a X sc W g h
    obtain ⟨r1, r2⟩ := s_not (p := p) k1 k2
    exact ⟨r1, r2, fun z => by cases z⟩
  | .cmp op a b p, X, sc, W, g, h => by
    simp only [wf] at h
    obtain ⟨h1, h2⟩ := wand h
    have ho : OpR X (compareOp op.py) (r2 K (cmpR op)) := by rw [← g.hK]; exact op_cmpR g.units op
    have ka := (sound_e top fns a X sc W g h1).1
    have kb := (sound_e top fns b X sc W g h2).1
    have key := op2 (K := K) (ec := ec) (W := W) (e := .cmp op a b p) (noex_cmp op) (fun env => by simp only [ev]) (cf := cf) (C := C) rfl rfl
    exact ⟨peImp (pe_cmpR ho ka kb (behind _ _)) key, ptImp (pt_cmpR ho ka kb (behind _ _)) fun σ H Q q => key σ H _ (tE_of_tT q), fun z => by cases z⟩
  | .isn pol a kk pc p, X, sc, W, g, h => by
    simp only [wf] at h
    obtain ⟨r1, r2⟩ := s_isn (pol := pol) (k := kk) (pc := pc) (p := p) (sound_e top fns a X sc W g h).1
    exact ⟨r1, r2, fun z => by cases z⟩
  | .ist a kk pc p, X, sc, W, g, h => by
    simp only [wf] at h
    obtain ⟨r1, r2⟩ := s_ist (k := kk) (pc := pc) (p := p) (sound_e top fns a X sc W g h).1
    exact ⟨r1, r2, fun z => by cases z⟩
  | .chain o1 o2 a b c p, X, sc, W, g, h => by
    simp only [wf] at h
    obtain ⟨h1, h3⟩ := wand h
    obtain ⟨h1, h2⟩ := wand h1
    obtain ⟨r1, r2⟩ := s_chain (o1 := o1) (o2 := o2) (p := p) g.hK g.units (sound_e top fns a X sc W g h1).1 (sound_e top fns b X sc W g h2).1 (sound_e top fns c X sc W g h3).1
    exact ⟨r1, r2, fun z => by cases z⟩
  | .bool an a es p, X, sc, W, g, h => by
    simp only [wf] at h
    obtain ⟨h1, h2⟩ := wand h
    obtain ⟨k1, k2, _⟩ := sound_e top fns a X sc W g h1
    obtain ⟨r1, r2⟩ := s_bool an p es a k1 k2 (sound_2 top fns es X sc W g h2)
    exact ⟨r1, r2.pt, fun z => by cases z⟩
  | .ife c a b p, X, sc, W, g, h => by
    simp only [wf] at h
    obtain ⟨h1, h3⟩ := wand h
    obtain ⟨h1, h2⟩ := wand h1
    obtain ⟨a1, a2, _⟩ := sound_e top fns a X sc W g h2
    obtain ⟨b1, b2, _⟩ := sound_e top fns b X sc W g h3
    obtain ⟨r1, r2⟩ := s_ife (p := p) (sound_e top fns c X sc W g h1).2.1 a1 a2 b1 b2
    exact ⟨r1, r2, fun z => by cases z⟩
  | .tup es kk p, X, sc, W, g, h => by
    have fin : PE X (Ex.tup es kk p).py (tE K ec C cf W (.tup es kk p)) := by
      simp only [wf] at h
      obtain ⟨h1, h2⟩ := wand h
      have h1 := of_decide_eq_true h1
      have lm : 10000 ≤ sizeLine := by rw [sizeLine_eq]; decide
      exact s_tup (sound_s top fns es X sc W g h2) fun env ds e => by have := evs_len es env ds e; omega
    exact ⟨fin, pt_of fin (isTrue_plain' trivial X.env), fun z => by cases z⟩
  | .lst es p, X, sc, W, g, h => by
    have finF : PE X (Ex.lst es p).py (tF K ec C cf W (.lst es p)) := by
      simp only [wf] at h
      obtain ⟨h1, h2⟩ := wand h
      have h1 := of_decide_eq_true h1
      have lm : 10000 ≤ sizeLine := by rw [sizeLine_eq]; decide
      exact s_lst (sound_s top fns es X sc W g h2) fun env ds e => by have := evs_len es env ds e; omega
    have fin := peImp finF (tF_of rfl)
    exact ⟨fin, pt_of fin (isTrue_plain' trivial X.env), fun _ => finF⟩
  | .call n f a es pf p, X, sc, W, g, h => by
    have fin : PE X (Ex.call n f a es pf p).py (tE K ec C cf W (.call n f a es pf p)) := by
      simp only [wf] at h
      obtain ⟨h1, h5⟩ := wand h
      obtain ⟨h1, h4⟩ := wand h1
      obtain ⟨h1, h3⟩ := wand h1
      obtain ⟨h1, h2⟩ := wand h1
      have h1 := of_decide_eq_true h1
      rw [List.getElem?_map] at h1
      obtain ⟨n1, n2, n3⟩ := nm_debug h3
      cases e : T[n]? with
      | none => rw [e] at h1; cases h1
      | some F =>
        rw [e] at h1
        have h1 : (F.nm, F.ps.length) = (f, es.len + 1) := Option.some.inj h1
        injection h1 with e1 e2
        obtain ⟨fa, fd, m1, m2, m3, m4⟩ := fns n F e
        subst e1
        have m4' : FnOk X.prog X.w X.K X.mg X.base (L2N.CX X.prog X.w) k fa fd F.ps (spF X.K ec cf F.ps.length n) := by rw [g.hP, g.hw, g.hK, g.hm, g.hb]; exact m4
        exact s_call m4' g.hK g.room (g.gl h2) (by rw [g.hm]; exact m1) (by rw [g.hK]; exact m2) (by rw [g.hK]; exact m3) g.tk n1 e2.symm (sound_e top fns a X sc W g h4).1 (sound_s top fns es X sc W g h5)
    exact ⟨fin, pt_of fin (isTrue_plain' trivial X.env), fun z => by cases z⟩
  | .call0 n f pf p, X, sc, W, g, h => by
    have fin : PE X (Ex.call0 n f pf p).py (tE K ec C cf W (.call0 n f pf p)) := by
      simp only [wf] at h
      obtain ⟨h1, h3⟩ := wand h
      obtain ⟨h1, h2⟩ := wand h1
      have h1 := of_decide_eq_true h1
      rw [List.getElem?_map] at h1
      obtain ⟨n1, n2, n3⟩ := nm_debug h3
      cases e : T[n]? with
      | none => rw [e] at h1; cases h1
      | some F =>
        rw [e] at h1
        have h1 : (F.nm, F.ps.length) = (f, 0) := Option.some.inj h1
        injection h1 with e1 e2
        obtain ⟨fa, fd, m1, m2, m3, m4⟩ := fns n F e
        subst e1
        have m4' : FnOk X.prog X.w X.K X.mg X.base (L2N.CX X.prog X.w) k fa fd F.ps (spF X.K ec cf F.ps.length n) := by rw [g.hP, g.hw, g.hK, g.hm, g.hb]; exact m4
        exact s_call0 m4' g.hK g.room (g.gl h2) (by rw [g.hm]; exact m1) (by rw [g.hK]; exact m2) (by rw [g.hK]; exact m3) g.tk n1 e2
    exact ⟨fin, pt_of fin (isTrue_plain' trivial X.env), fun z => by cases z⟩
  | .dict ks p, X, sc, W, g, h => by
    have fin : PE X (Ex.dict ks p).py (tE K ec C cf W (.dict ks p)) := by
      simp only [wf] at h
      obtain ⟨h1, h3⟩ := wand h
      obtain ⟨h1, h2⟩ := wand h1
      exact s_dict g.hK (of_decide_eq_true h1) (of_decide_eq_true h2) (by intro z; rw [z] at h3; cases h3)
    exact ⟨fin, pt_of fin (isTrue_plain' trivial X.env), fun z => by cases z⟩
  | .dix o i p, X, sc, W, g, h => by
    have fin : PE X (Ex.dix o i p).py (tE K ec C cf W (.dix o i p)) := by
      simp only [wf] at h
      obtain ⟨h1, h2⟩ := wand h
      exact s_dix g.hK g.units (sound_e top fns o X sc W g h1).1 (sound_e top fns i X sc W g h2).1
    exact ⟨fin, pt_of fin (isTrue_plain' trivial X.env), fun z => by cases z⟩
  | .dget ks pd pa a b p, X, sc, W, g, h => by
    have fin : PE X (Ex.dget ks pd pa a b p).py (tE K ec C cf W (.dget ks pd pa a b p)) := by
      simp only [wf] at h
      obtain ⟨h1, h6⟩ := wand h
      obtain ⟨h1, h5⟩ := wand h1
      obtain ⟨h1, h4⟩ := wand h1
      obtain ⟨h1, h3⟩ := wand h1
      obtain ⟨h1, h2⟩ := wand h1
      exact s_dget g.hK g.units (of_decide_eq_true h1) (of_decide_eq_true h2) (by intro z; rw [z] at h3; cases h3) h4 (sound_e top fns a X sc W g h5).1 (sound_e top fns b X sc W g h6).1
    exact ⟨fin, pt_of fin (isTrue_plain' trivial X.env), fun z => by cases z⟩
  | .sel fs pl i ps a es p, X, sc, W, g, h => by
    have fin : PE X (Ex.sel fs pl i ps a es p).py (tE K ec C cf W (.sel fs pl i ps a es p)) := by
      simp only [wf] at h
      obtain ⟨h1, h5⟩ := wand h
      obtain ⟨h1, h4⟩ := wand h1
      obtain ⟨h1, h3⟩ := wand h1
      obtain ⟨h1, h2⟩ := wand h1
      refine s_sel g.hK g.room g.tk (of_decide_eq_true h2) (fun f hf => ?_) (sound_e top fns i X sc W g h3).1 (sound_e top fns a X sc W g h4).1 (sound_s top fns es X sc W g h5)
      have h1 := List.all_eq_true.mp h1 f hf
      obtain ⟨n, x, pp⟩ := f
      obtain ⟨h1, q3⟩ := wand h1
      obtain ⟨h1, q2⟩ := wand h1
      have h1 := of_decide_eq_true h1
      rw [List.getElem?_map] at h1
      obtain ⟨n1, n2, n3⟩ := nm_debug q3
      cases e : T[n]? with
      | none => rw [e] at h1; cases h1
      | some F =>
        rw [e] at h1
        have h1 : (F.nm, F.ps.length) = (x, es.len + 1) := Option.some.inj h1
        injection h1 with e1 e2
        obtain ⟨fa, fd, m1, m2, m3, m4⟩ := fns n F e
        subst e1
        have m4' : FnOk X.prog X.w X.K X.mg X.base (L2N.CX X.prog X.w) k fa fd F.ps (spF X.K ec cf F.ps.length n) := by rw [g.hP, g.hw, g.hK, g.hm, g.hb]; exact m4
        exact ⟨.ref fa, ⟨fa, fd, F.ps, rfl, e2, m4', by rw [g.hK]; exact m2, by rw [g.hK]; exact m3⟩, pe_glob (g.gl q2) (by rw [g.hm]; exact m1) rfl n1⟩
    exact ⟨fin, pt_of fin (isTrue_plain' trivial X.env), fun z => by cases z⟩
  | .blt f a es pf p, X, sc, W, g, h => by
    have finF : PE X (Ex.blt f a es pf p).py (tF K ec C cf W (.blt f a es pf p)) := by
      simp only [wf] at h
      obtain ⟨h1, h3⟩ := wand h
      obtain ⟨h1, h2⟩ := wand h1
      exact s_blt g.hK g.calm g.units (g.gl h1) (top.no (by cases f <;> decide) g) (sound_e top fns a X sc W g h2).1 (sound_s top fns es X sc W g h3)
    have fin := peImp finF (tF_of rfl)
    exact ⟨fin, pt_of fin (isTrue_plain' trivial X.env), fun _ => finF⟩
  | .isi a t pt pf p, X, sc, W, g, h => by
    have fin : PE X (Ex.isi a t pt pf p).py (tE K ec C cf W (.isi a t pt pf p)) := by
      simp only [wf] at h
      obtain ⟨h1, h3⟩ := wand h
      obtain ⟨h1, h2⟩ := wand h1
      exact s_isi g.hK (g.gl h1) (top.no (by decide) g) (g.gl h2) (top.no (by cases t <;> decide) g) (sound_e top fns a X sc W g h3).1
    exact ⟨fin, pt_of fin (isTrue_plain' trivial X.env), fun z => by cases z⟩
  | .isi2 a kk p1 p2 pt pf p, X, sc, W, g, h => by
    have fin : PE X (Ex.isi2 a kk p1 p2 pt pf p).py (tE K ec C cf W (.isi2 a kk p1 p2 pt pf p)) := by
      simp only [wf] at h
      obtain ⟨h1, h4⟩ := wand h
      obtain ⟨h1, h3⟩ := wand h1
      obtain ⟨h1, h2⟩ := wand h1
      exact s_isi2 g.hK (g.gl h1) (top.no (by decide) g) (g.gl h2) (top.no (by decide) g) (g.gl h3) (top.no (by decide) g) (sound_e top fns a X sc W g h4).1
    exact ⟨fin, pt_of fin (isTrue_plain' trivial X.env), fun z => by cases z⟩
  | .srtset s a ps pc pf p, X, sc, W, g, h => by
    have finF : PE X (Ex.srtset s a ps pc pf p).py (tF K ec C cf W (.srtset s a ps pc pf p)) := by
      simp only [wf] at h
      obtain ⟨h1, h3⟩ := wand h
      obtain ⟨h1, h2⟩ := wand h1
      exact s_srtset g.hK g.calm g.units (g.gl h1) (top.no (by cases s <;> decide) g) (g.gl h2) (top.no (by decide) g) (sound_e top fns a X sc W g h3).1
    have fin := peImp finF (tF_of rfl)
    exact ⟨fin, pt_of fin (isTrue_plain' trivial X.env), fun _ => finF⟩
  | .ix a b p, X, sc, W, g, h => by
    have fin : PE X (Ex.ix a b p).py (tE K ec C cf W (.ix a b p)) := by
      simp only [wf] at h
      obtain ⟨h1, h2⟩ := wand h
      have ho : IxR X (r2w K ixR) := by rw [← g.hK]; exact ix_R
      exact peImp (pe_ix ho (sound_e top fns a X sc W g h1).1 (sound_e top fns b X sc W g h2).1 (plainIx b)) (op2w noex_ix (fun _ => by simp only [ev]) rfl rfl)
    exact ⟨fin, pt_of fin (isTrue_plain' trivial X.env), fun z => by cases z⟩
  | .slc a lo hi ps p, X, sc, W, g, h => by
    have finF : PE X (Ex.slc a lo hi ps p).py (tF K ec C cf W (.slc a lo hi ps p)) := by
      simp only [wf] at h
      obtain ⟨h1, h3⟩ := wand h
      obtain ⟨h1, h2⟩ := wand h1
      exact s_slc g.hK (sound_e top fns a X sc W g h1).1 (fun b e => (sound_o top fns lo X sc W g h2 b e).1) (fun b e => (sound_o top fns hi X sc W g h3 b e).1)
    have fin := peImp finF (tF_of rfl)
    exact ⟨fin, pt_of fin (isTrue_plain' trivial X.env), fun _ => finF⟩
  | .rev a kk pc pn ps p, X, sc, W, g, h => by
    have finF : PE X (Ex.rev a kk pc pn ps p).py (tF K ec C cf W (.rev a kk pc pn ps p)) := by
      simp only [wf] at h
      have key := op1f (K := K) (ec := ec) (W := W) (e := .rev a kk pc pn ps p) noex_rev (fun env => by simp only [ev]) (cf := cf) (C := C) rfl
      have := pe_revR (X := X) (k := kk) (p1 := pc) (p2 := pn) (p3 := ps) (pos := p) (sound_e top fns a X sc W g h).1
      rw [g.hK] at this
      exact peImp this key
    have fin := peImp finF (tF_of rfl)
    exact ⟨fin, pt_of fin (isTrue_plain' trivial X.env), fun _ => finF⟩
  | .meth m o a pa p, X, sc, W, g, h => by
    have fin : PE X (Ex.meth m o a pa p).py (tE K ec C cf W (.meth m o a pa p)) := by
      simp only [wf] at h
      obtain ⟨h1, h2⟩ := wand h
      obtain ⟨h0, h1⟩ := wand h1
      obtain ⟨hv, h0⟩ := wand h0
      exact s_meth g.hK g.units hv h0 (sound_e top fns o X sc W g h1).1 (sound_e top fns a X sc W g h2).1
    exact ⟨fin, pt_of fin (isTrue_plain' trivial X.env), fun z => by cases z⟩
  | .lrng t a b pr pc pf p, X, sc, W, g, h => by
    have finF : PE X (Ex.lrng t a b pr pc pf p).py (tF K ec C cf W (.lrng t a b pr pc pf p)) := by
      simp only [wf] at h
      obtain ⟨h1, h4⟩ := wand h
      obtain ⟨h1, h3⟩ := wand h1
      obtain ⟨h1, h2⟩ := wand h1
      exact s_lrng g.calm (g.gl h1) (top.no (by cases t <;> decide) g) (g.gl h2) (top.no (by decide) g) (sound_e top fns a X sc W g h3).1 fun e he => (sound_o top fns b X sc W g h4 e he).1
    have fin := peImp finF (tF_of rfl)
    exact ⟨fin, pt_of fin (isTrue_plain' trivial X.env), fun _ => finF⟩
  | .mxd m a d pk pf p, X, sc, W, g, h => by
    have fin : PE X (Ex.mxd m a d pk pf p).py (tE K ec C cf W (.mxd m a d pk pf p)) := by
      simp only [wf] at h
      obtain ⟨h1, h3⟩ := wand h
      obtain ⟨h1, h2⟩ := wand h1
      exact s_mxd g.hK g.calm g.units (g.gl h1) (top.no (by cases m <;> decide) g) (sound_e top fns a X sc W g h2).1 (sound_e top fns d X sc W g h3).1
    exact ⟨fin, pt_of fin (isTrue_plain' trivial X.env), fun z => by cases z⟩
  | .join x kk px pa a p, X, sc, W, g, h => by
    have fin : PE X (Ex.join x kk px pa a p).py (tE K ec C cf W (.join x kk px pa a p)) := by
      simp only [wf] at h
      obtain ⟨h1, h2⟩ := wand h
      exact s_join g.hK h1 (sound_e top fns a X sc W g h2).1
    exact ⟨fin, pt_of fin (isTrue_plain' trivial X.env), fun z => by cases z⟩
  | .split o a pa p, X, sc, W, g, h => by
    have finF : PE X (Ex.split o a pa p).py (tF K ec C cf W (.split o a pa p)) := by
      simp only [wf] at h
      obtain ⟨h1, h4⟩ := wand h
      obtain ⟨h1, h3⟩ := wand h1
      obtain ⟨h1, h2⟩ := wand h1
      exact s_split g.hK h2 h1 (sound_e top fns o X sc W g h3).1 (sound_e top fns a X sc W g h4).1
    have fin := peImp finF (tF_of rfl)
    exact ⟨fin, pt_of fin (isTrue_plain' trivial X.env), fun _ => finF⟩
  | .step a lo kk pc ps p, X, sc, W, g, h => by
    have fin : PE X (Ex.step a lo kk pc ps p).py (tE K ec C cf W (.step a lo kk pc ps p)) := by
      simp only [wf] at h
      obtain ⟨h1, h2⟩ := wand h
      exact s_step g.hK (sound_e top fns a X sc W g h1).1 (fun b e => (sound_o top fns lo X sc W g h2 b e).1)
    exact ⟨fin, pt_of fin (isTrue_plain' trivial X.env), fun z => by cases z⟩
  | .lc elt tg it ifs scope own p, X, sc, W, g, h => by
    have finF : PE X (Ex.lc elt tg it ifs scope own p).py (tF K ec C cf W (.lc elt tg it ifs scope own p)) := by
      simp only [wf] at h
      obtain ⟨h1, h7⟩ := wand h
      obtain ⟨h1, h6⟩ := wand h1
      obtain ⟨h1, h5⟩ := wand h1
      obtain ⟨h1, h4⟩ := wand h1
      obtain ⟨h1, h3⟩ := wand h1
      obtain ⟨h1, h2⟩ := wand h1
      have ok := blkOk_by h1
      refine s_lc g.tk g.hK g.calm g.nod h3 (sound_i top fns it X sc W g h7 tg h3) (by rw [g.hN, g.hs]; exact ok) (fun i hi => of_decide_eq_true (List.all_eq_true.mp h4 i hi))
        (tgs_blk g ok h2) (fun c e σ s H C' cl fp xe tk => (sound_o top fns ifs _ _ _ (g.bx ok tk) h6 c e).2) (fun σ s H C' cl fp xe tk => (sound_e top fns elt _ _ _ (g.bx ok tk) h5).1)
    have fin := peImp finF (tF_of rfl)
    exact ⟨fin, pt_of fin (isTrue_plain' trivial X.env), fun _ => finF⟩
theorem sound_2 (top : Top P w K mg base CN C T EN ec) (fns : Fns P w K mg base T ec k cf) : ∀ (es : Exs) (X : Cx) (sc : Scope) (W : WX), Good P w K mg base N k X sc W → wfs CN (T.map fun F => (F.nm, F.ps.length)) N sc es = true → All2 X K ec C cf W es
  | .nil, _, _, _, _, _ => .nil
  | .cons a es, X, sc, W, g, h => by
    simp only [wfs] at h
    obtain ⟨h1, h2⟩ := wand h
    exact .cons (sound_e top fns a X sc W g h1).1 (sound_e top fns a X sc W g h1).2.1 (sound_2 top fns es X sc W g h2)
theorem sound_s (top : Top P w K mg base CN C T EN ec) (fns : Fns P w K mg base T ec k cf) : ∀ (es : Exs) (X : Cx) (sc : Scope) (W : WX), Good P w K mg base N k X sc W → wfs CN (T.map fun F => (F.nm, F.ps.length)) N sc es = true → PA X es.py (tAs K ec C cf W es)
  | .nil, X, sc, W, g, h => s_nil
  | .cons a es, X, sc, W, g, h => by
    simp only [wfs] at h
    obtain ⟨h1, h2⟩ := wand h
    exact s_cons (sound_e top fns a X sc W g h1).1 (sound_s top fns es X sc W g h2)
theorem sound_o (top : Top P w K mg base CN C T EN ec) (fns : Fns P w K mg base T ec k cf) : ∀ (o : Exo) (X : Cx) (sc : Scope) (W : WX), Good P w K mg base N k X sc W → wfo CN (T.map fun F => (F.nm, F.ps.length)) N sc o = true → ∀ a, o = .some a → PE X a.py (tE K ec C cf W a) ∧ PT X a.py (tT K ec C cf W a)
  | .none, _, _, _, _, _, _, e => by cases e
  | .some a, X, sc, W, g, h, b, e => by
    cases e
    simp only [wfo] at h
    exact ⟨(sound_e top fns a X sc W g h).1, (sound_e top fns a X sc W g h).2.1⟩
theorem sound_i (top : Top P w K mg base CN C T EN ec) (fns : Fns P w K mg base T ec k cf) : ∀ (it : Itx) (X : Cx) (sc : Scope) (W : WX), Good P w K mg base N k X sc W → wfi CN (T.map fun F => (F.nm, F.ps.length)) N sc it = true → ∀ tg : Tg, needT tg it = true → PI X tg.py it.py (tI K ec C cf W it)
  | .seq e, X, sc, W, g, h, tg, _ => by
    simp only [wfi] at h
    exact s_seq g.hK (sound_e top fns e X sc W g h).1
  | .rng1 a pf p, X, sc, W, g, h, tg, _ => by
    simp only [wfi] at h
    obtain ⟨h1, h2⟩ := wand h
    exact s_rng1 (g.gl h1) (top.no (by decide) g) (sound_e top fns a X sc W g h2).1
  | .rng2 a b pf p, X, sc, W, g, h, tg, _ => by
    simp only [wfi] at h
    obtain ⟨h1, h3⟩ := wand h
    obtain ⟨h1, h2⟩ := wand h1
    exact s_rng2 (g.gl h1) (top.no (by decide) g) (sound_e top fns a X sc W g h2).1 (sound_e top fns b X sc W g h3).1
  | .rngd a b kk pc pn pf p, X, sc, W, g, h, tg, _ => by
    simp only [wfi] at h
    obtain ⟨h1, h3⟩ := wand h
    obtain ⟨h1, h2⟩ := wand h1
    exact s_rngd (g.gl h1) (top.no (by decide) g) (sound_e top fns a X sc W g h2).1 (sound_e top fns b X sc W g h3).1
  | .enum e pf p, X, sc, W, g, h, tg, ht => by
    simp only [wfi] at h
    obtain ⟨h1, h2⟩ := wand h
    cases tg with
    | name v => cases ht
    | tup vs kk pp => exact s_enum g.hK (g.gl h1) (top.no (by decide) g) (sound_e top fns e X sc W g h2).1
  | .zip a b pf p, X, sc, W, g, h, tg, ht => by
    simp only [wfi] at h
    obtain ⟨h1, h3⟩ := wand h
    obtain ⟨h1, h2⟩ := wand h1
    cases tg with
    | name v => cases ht
    | tup vs kk pp => exact s_zip g.hK (g.gl h1) (top.no (by decide) g) (sound_e top fns a X sc W g h2).1 (sound_e top fns b X sc W g h3).1
  | .zip3 a b c pf p, X, sc, W, g, h, tg, ht => by
    simp only [wfi] at h
    obtain ⟨h1, h4⟩ := wand h
    obtain ⟨h1, h3⟩ := wand h1
    obtain ⟨h1, h2⟩ := wand h1
    cases tg with
    | name v => cases ht
    | tup vs kk pp => exact s_zip3 g.hK (g.gl h1) (top.no (by decide) g) (sound_e top fns a X sc W g h2).1 (sound_e top fns b X sc W g h3).1 (sound_e top fns c X sc W g h4).1
end
end
end Li

/-! the frame of a def, and how statements change it -/
namespace Li
open PySem PySem.Spec L2
open PyProof.Rows hiding St
abbrev Ow := Nat → Option Addr
structure FR (K : PySem.W.Frag) (avC : Av) (H0 : Hp) (ow : Ow) (env : En) (σ : L2.St) (H : Hp) : Prop where
  er : ER K avC ow env σ H
  same : Same H0 H
  dom0 : Dom avC H0
  own0 : ∀ i a, ow i = some a → H0 a = none
  inj : ∀ i j a, ow i = some a → ow j = some a → i = j
  held : ∀ i a, ow i = some a → σ[i]? = some (some (.ref a))
def FlOk (fl : List Nat) (ow : Ow) (env : En) : Prop := ∀ i ∈ fl, ∀ ds, env[i]? = some (some (.lst ds)) → ∃ a, ow i = some a
structure Step (ow : Ow) (H : Hp) (ow' : Ow) (H' : Hp) : Prop where
  grow : ∀ i a, ow' i = some a → ow i = some a ∨ H a = none
  keep : ∀ a o, H a = some o → (∀ i, ow i ≠ some a) → H' a = some o
  dom : ∀ a, H' a = none → H a = none
theorem Step.refl (ow : Ow) (H : Hp) : Step ow H ow H := ⟨fun _ _ h => .inl h, fun _ _ h _ => h, fun _ h => h⟩
theorem Step.trans {o1 o2 o3 : Ow} {H1 H2 H3 : Hp} (a : Step o1 H1 o2 H2) (b : Step o2 H2 o3 H3) : Step o1 H1 o3 H3 := by
  refine ⟨fun i x h => ?_, fun x o h n => ?_, fun x h => a.dom x (b.dom x h)⟩
  · rcases b.grow i x h with h | h
    · exact a.grow i x h
    · exact .inr (a.dom x h)
  · refine b.keep x o (a.keep x o h n) fun i e => ?_
    rcases a.grow i x e with e | e
    · exact n i e
    · rw [h] at e; cases e
theorem Step.same {ow : Ow} {H H' : Hp} (s : Same H H') : Step ow H ow H' := ⟨fun _ _ h => .inl h, fun a o h _ => s a o h, fun a h => by
  cases e : H a with
  | none => rfl
  | some o => rw [s a o e] at h; cases h⟩
theorem drp_some {ow : Ow} {l : List Nat} {i : Nat} {a : Addr} (h : drp ow l i = some a) : ow i = some a ∧ i ∉ l := by
  unfold drp at h
  by_cases hl : i ∈ l
  · rw [if_pos hl] at h; cases h
  · rw [if_neg hl] at h; exact ⟨h, hl⟩
theorem drp_in {ow : Ow} {l : List Nat} {i : Nat} (h : i ∉ l) : drp ow l i = ow i := if_neg h
theorem Step.drp (ow : Ow) (l : List Nat) (H : Hp) : Step ow H (drp ow l) H := ⟨fun _ _ h => .inl (drp_some h).1, fun _ _ h _ => h, fun _ h => h⟩
section
variable {K : PySem.W.Frag} {avC : Av} {H0 : Hp} {ow : Ow} {env : En} {σ : L2.St} {H : Hp}
theorem FR.to {H' : Hp} (f : FR K avC H0 ow env σ H) (s : Same H H') : FR K avC H0 ow env σ H' := ⟨f.er.same s, f.same.trans s, f.dom0, f.own0, f.inj, f.held⟩
theorem FR.drop (f : FR K avC H0 ow env σ H) (l : List Nat) : FR K avC H0 (drp ow l) env σ H :=
  ⟨f.er.drop l, f.same, f.dom0, fun i a h => f.own0 i a (drp_some h).1, fun i j a h g => f.inj i j a (drp_some h).1 (drp_some g).1, fun i a h => f.held i a (drp_some h).1⟩
theorem FR.asg {l : List Nat} {i : Nat} {v : V} {d : D} (f : FR K avC H0 ow env σ H) (hi : i ∈ l) (r : Rep K (AV avC (drp ow l)) H v d) : FR K avC H0 (drp ow l) (env.set i (some d)) (σ.set i (some v)) H := by
  have g := f.drop l
  refine ⟨g.er.set1 r, g.same, g.dom0, g.own0, g.inj, fun j a h => ?_⟩
  rw [List.getElem?_set_ne]
  · exact g.held j a h
  · rintro rfl
    exact (drp_some h).2 hi
/-- a new list goes into a slot -/
def owNew (ow : Ow) (l : List Nat) (i : Nat) (p : Addr) : Ow := fun j => if j = i then some p else drp ow (i :: l) j
theorem AV.new {l : List Nat} {i : Nat} {p : Addr} {a : Addr} (h : AV avC (owNew ow l i p) a) : AV avC (drp ow l) a ∨ a = p := by
  rcases h with h | ⟨j, h⟩
  · exact .inl (.inl h)
  · unfold owNew at h
    by_cases e : j = i
    · rw [if_pos e] at h; cases h; exact .inr rfl
    · rw [if_neg e] at h
      obtain ⟨h1, h2⟩ := drp_some h
      exact .inl (.inr ⟨j, by rw [drp_in fun z => h2 (List.mem_cons_of_mem _ z)]; exact h1⟩)
theorem FR.asgNew {H' : Hp} {l : List Nat} {i : Nat} {p : Addr} {xs : List V} {ds : List D} (f : FR K avC H0 ow env σ H) (hi : i < env.length) (s : Same H H') (hp : H p = none) (hp' : H' p = some (.lst xs)) (r : Reps K (fun a => AV avC (drp ow l) a ∨ a = p) H' xs ds) :
    FR K avC H0 (owNew ow l i p) (env.set i (some (.lst ds))) (σ.set i (some (.ref p))) H' ∧ Step ow H (owNew ow l i p) H' := by
  have hown : ∀ j a, owNew ow l i p j = some a → (j = i ∧ a = p) ∨ (j ≠ i ∧ j ∉ l ∧ ow j = some a) := by
    intro j a h
    unfold owNew at h
    by_cases e : j = i
    · rw [if_pos e] at h; cases h; exact .inl ⟨e, rfl⟩
    · rw [if_neg e] at h
      obtain ⟨h1, h2⟩ := drp_some h
      exact .inr ⟨e, fun z => h2 (List.mem_cons_of_mem _ z), h1⟩
  have h0p : H0 p = none := by
    cases e : H0 p with
    | none => rfl
    | some o => rw [f.same p o e] at hp; cases hp
  have nav : ¬ AV avC ow p := fun z => f.er.dom p z hp
  have er2 := f.er.addNew hp s (by rw [hp']; intro z; cases z)
  refine ⟨⟨⟨?_, ?_, ?_⟩, f.same.trans s, f.dom0, ?_, ?_, ?_⟩, ?_⟩
  · intro a h
    rcases AV.new h with h | rfl
    · exact (f.er.dom.same s) a (AV.all a h)
    · rw [hp']; intro z; cases z
  · rw [List.length_set, List.length_set]; exact f.er.len
  · intro j d hj
    by_cases e : i = j
    · subst e
      rw [List.getElem?_set_self hi] at hj
      cases hj
      refine ⟨.ref p, by rw [List.getElem?_set_self (by rw [← f.er.len]; exact hi)], .lst hp' (r.mono fun a h => AV.new h), .lst hp' ?_ (r.mono fun a h => AV.new (AV.all a h))⟩
      rintro (h | ⟨j, h⟩)
      · exact nav (.inl h)
      · obtain ⟨h1, h2⟩ := drp_some h
        rcases hown j p h1 with ⟨h, _⟩ | ⟨_, _, h⟩
        · exact h2 (by rw [h]; exact List.mem_cons_self)
        · exact nav (.inr ⟨j, h⟩)
    · rw [List.getElem?_set_ne e] at hj
      obtain ⟨v, h1, h2, h3⟩ := er2.slot j d hj
      refine ⟨v, by rw [List.getElem?_set_ne e]; exact h1, h2.mono fun a h => ?_, h3.mono fun a h => ?_⟩
      · rcases h with h | ⟨q, h⟩
        · exact .inl (.inl h)
        · rcases hown q a h with ⟨_, rfl⟩ | ⟨_, _, h⟩
          · exact .inl (.inr rfl)
          · exact .inr ⟨q, h⟩
      · rcases h with h | ⟨q, h⟩
        · exact .inl (.inl h)
        · obtain ⟨h, hn⟩ := drp_some h
          rcases hown q a h with ⟨_, rfl⟩ | ⟨_, _, h⟩
          · exact .inl (.inr rfl)
          · exact .inr ⟨q, by rw [drp_in hn]; exact h⟩
  · intro j a h
    rcases hown j a h with ⟨_, rfl⟩ | ⟨_, _, h⟩
    · exact h0p
    · exact f.own0 j a h
  · intro j q a h g
    rcases hown j a h with ⟨e1, e2⟩ | ⟨_, _, h⟩ <;> rcases hown q a g with ⟨e3, e4⟩ | ⟨_, _, g⟩
    · rw [e1, e3]
    · exact absurd (.inr ⟨q, by rw [e2] at g; exact g⟩) nav
    · exact absurd (.inr ⟨j, by rw [e4] at h; exact h⟩) nav
    · exact f.inj j q a h g
  · intro j a h
    rcases hown j a h with ⟨rfl, rfl⟩ | ⟨n, _, h⟩
    · rw [List.getElem?_set_self (by rw [← f.er.len]; exact hi)]
    · rw [List.getElem?_set_ne (Ne.symm n)]; exact f.held j a h
  · refine ⟨fun j a h => ?_, fun a o h _ => s a o h, fun a h => ?_⟩
    · rcases hown j a h with ⟨_, rfl⟩ | ⟨_, _, h⟩
      · exact .inr hp
      · exact .inl h
    · cases e : H a with
      | none => rfl
      | some o => rw [s a o e] at h; cases h
theorem RepW.extR {av av' : Av} {H' : Hp} {v : V} {d : D} (e : Ext av H H') (e' : Ext av' H H') (w : RepW K av H v d) (r : Rep K av' H v d) : RepW K av H' v d := by
  cases w with
  | non => exact .non
  | bl b => exact .bl b
  | int i => exact .int i
  | str x => exact .str x
  | lst h q =>
    cases r with
    | lst h' n _ => exact .lst (e' _ _ n h) (q.ext e)
  | scr h =>
    cases r with
    | scr h' => exact .scr (h'.ext e').sq
  | dic h =>
    cases r with
    | dic h' n => exact .dic (e' _ _ n h)
  | tup h q => exact .tup (h.ext e) (q.ext e)
theorem Ext.at {av : Av} {a : Addr} {o : HO} (h : av a) : Ext av H (upd H a o) := fun b u n e => by
  rw [upd_ne]
  · exact e
  · rintro rfl; exact n h
/-- a list that a slot holds alone changes -/
theorem FR.chg {l : List Nat} {i : Nat} {a : Addr} {xs' : List V} {ds' : List D} (f : FR K avC H0 ow env σ H) (hi : i < env.length) (ha : ow i = some a) (hl : i ∉ l) (r : Reps K (AV avC (drp ow l)) H xs' ds') :
    FR K avC H0 (drp ow l) (env.set i (some (.lst ds'))) σ (upd H a (.lst xs')) ∧ Step ow H (drp ow l) (upd H a (.lst xs')) := by
  have g := f.drop l
  have ha' : drp ow l i = some a := by rw [drp_in hl]; exact ha
  have hs := f.held i a ha
  have e0 : Ext (AV avC (drp ow l)) H (upd H a (.lst xs')) := Ext.at (.inr ⟨i, ha'⟩)
  refine ⟨⟨⟨?_, ?_, ?_⟩, ?_, f.dom0, g.own0, g.inj, g.held⟩, ?_⟩
  · intro b h
    by_cases e : b = a
    · rw [e, upd_same]; intro z; cases z
    · rw [upd_ne e]; exact g.er.dom b h
  · rw [List.length_set]; exact g.er.len
  · intro j d hj
    by_cases e : i = j
    · subst e
      rw [List.getElem?_set_self hi] at hj
      cases hj
      refine ⟨.ref a, hs, .lst upd_same (r.ext e0), .lst upd_same ?_ ((r.ext e0).mono AV.all)⟩
      rintro (h | ⟨j, h⟩)
      · exact f.dom0 a h (f.own0 i a ha)
      · obtain ⟨h1, h2⟩ := drp_some h
        exact h2 (by rw [f.inj j i a (drp_some h1).1 ha]; exact List.mem_cons_self)
    · rw [List.getElem?_set_ne e] at hj
      obtain ⟨v, h1, h2, h3⟩ := g.er.slot j d hj
      have e1 : Ext (AV avC (drp (drp ow l) [j])) H (upd H a (.lst xs')) := Ext.at (.inr ⟨i, by rw [drp_in (by simpa using e)]; exact ha'⟩)
      exact ⟨v, h1, h2.extR e0 e1 h3, h3.ext e1⟩
  · intro b o h
    rw [upd_ne]
    · exact f.same b o h
    · rintro rfl; rw [f.own0 i b ha] at h; cases h
  · refine ⟨fun j b h => .inl (drp_some h).1, fun b o h n => ?_, fun b h => ?_⟩
    · rw [upd_ne]
      · exact h
      · rintro rfl; exact n i ha
    · by_cases e : b = a
      · rw [e, upd_same] at h; cases h
      · rw [upd_ne e] at h; exact h
theorem setAll_get : ∀ {vs : List Vn} {ds : List D} {env env' : En}, setAll vs ds env = some env' → ∀ i, i ∉ vs.map (·.i) → env'[i]? = env[i]?
  | [], [], _, _, h, i, _ => by simp only [setAll] at h; cases h; rfl
  | [], _ :: _, _, _, h, _, _ => by simp [setAll] at h
  | _ :: _, [], _, _, h, _, _ => by simp [setAll] at h
  | v :: vs, d :: ds, env, env', h, i, n => by
    simp only [setAll] at h
    rw [setAll_get h i fun z => n (by rw [List.map_cons]; exact List.mem_cons_of_mem _ z), List.getElem?_set_ne]
    intro z
    exact n (by rw [List.map_cons, z]; exact List.mem_cons_self)
theorem bindT_get {tg : Tg} {d : D} {env env' : En} (h : bindT tg d env = some env') (i : Nat) (n : i ∉ tgIx tg) : env'[i]? = env[i]? := by
  cases tg with
  | name v =>
    simp only [bindT] at h; cases h
    rw [List.getElem?_set_ne]
    intro z
    exact n (by simp [tgIx, z])
  | tup vs k p =>
    cases d with
    | tup ds => exact setAll_get (show setAll vs ds env = some env' from h) i n
    | lst ds => exact setAll_get (show setAll vs ds env = some env' from h) i n
    | _ => simp [bindT] at h
theorem FR.bindI {env' : En} {l : List Nat} {tg : Tg} {it : Itx} {v : V} {d : D} {Q : L2.St → Hp → Prop} (f : FR K avC H0 ow env σ H) (hl : ∀ i ∈ tgIx tg, i ∈ l) (hn : needT tg it = true) (r : RepI K (prI it) (AV avC (drp ow l)) H v d) (h : bindT tg d env = some env')
    (q : ∀ σ', FR K avC H0 (drp ow l) env' σ' H → Q σ' H) : tG K tg v σ H Q := by
  have g := f.drop l
  refine g.er.bindI hn r h fun σ' e _ hk => q σ' ⟨e, g.same, g.dom0, g.own0, g.inj, fun i a ha => ?_⟩
  rw [hk i fun z => (drp_some ha).2 (hl i z)]
  exact g.held i a ha
/-- a target is bound -/
theorem FR.bind {env' : En} {l : List Nat} {tg : Tg} {v : V} {d : D} {Q : L2.St → Hp → Prop} (f : FR K avC H0 ow env σ H) (hl : ∀ i ∈ tgIx tg, i ∈ l) (r : Rep K (AV avC (drp ow l)) H v d) (h : bindT tg d env = some env')
    (q : ∀ σ', FR K avC H0 (drp ow l) env' σ' H → Q σ' H) : tG K tg v σ H Q := by
  have g := f.drop l
  refine g.er.bind r h fun σ' e _ hk => q σ' ⟨e, g.same, g.dom0, g.own0, g.inj, fun i a ha => ?_⟩
  rw [hk i fun z => (drp_some ha).2 (hl i z)]
  exact g.held i a ha
end
theorem FlOk.sub {fl fl' : List Nat} {ow : Ow} {env : En} (h : FlOk fl ow env) (s : ∀ i ∈ fl', i ∈ fl) : FlOk fl' ow env := fun i hi => h i (s i hi)
theorem FlOk.drop {fl l : List Nat} {ow : Ow} {env : En} (h : FlOk fl ow env) (s : ∀ i ∈ fl, i ∉ l) : FlOk fl (drp ow l) env := fun i hi ds e => by
  rw [drp_in (s i hi)]
  exact h i hi ds e
theorem FlOk.env {fl : List Nat} {ow : Ow} {env env' : En} (h : FlOk fl ow env) (s : ∀ i ∈ fl, env'[i]? = env[i]?) : FlOk fl ow env' := fun i hi ds e => h i hi ds (by rw [← s i hi]; exact e)
end Li

/-! the def that tells which refusal it is, called while the refusal is handled -/
namespace Li
open PySem PySem.Spec L2
open PyProof.Rows hiding St
/-! ### count and index of a list of bools -/
theorem bools_of_vals : ∀ {bs : List Bool} {us : List Value}, Vals (bs.map V.bl) us → us = bs.map Value.bool
  | [], _, .nil => rfl
  | b :: bs, _, .cons r t => by
    have e : _ = Value.bool b := r
    rw [e, bools_of_vals t]
    rfl
def eqT : Value → Bool
  | .bool b => b
  | _ => false
theorem eqT_at {bs : List Bool} {A : Around} {s : Shared} {y : Value} (h : y ∈ bs.map Value.bool) : SeqAt.EqAt A s y (.bool true) (eqT y) := by
  obtain ⟨b, _, rfl⟩ := List.mem_map.mp h
  have e : (b == true) = eqT (.bool b) := by cases b <;> rfl
  rw [← e]
  exact SeqAt.EqAt.bool_bool b true
theorem eqT_count : ∀ bs : List Bool, (bs.map Value.bool).countP eqT = bs.count true
  | [] => rfl
  | b :: bs => by
    rw [List.map_cons, List.countP_cons, List.count_cons, eqT_count bs]
    cases b <;> rfl
def rCntB (K : PySem.W.Frag) : V → List V → Hp → VK → Prop := fun x xs H Q => ∃ (p : Addr) (bs : List Bool), x = .ref p ∧ xs = [.bl true] ∧ SqL K H p (bs.map V.bl) ∧ Q (.int (bs.count true : Nat)) H
def rIxB (K : PySem.W.Frag) : V → List V → Hp → VK → Prop := fun x xs H Q => ∃ (p : Addr) (bs : List Bool) (j : Nat), x = .ref p ∧ xs = [.bl true] ∧ SqL K H p (bs.map V.bl) ∧ bs[j]? = some true ∧ (∀ m : Nat, m < j → bs[m]? = some false) ∧ Q (.int (j : Nat)) H
section
variable {X : Cx}
theorem mt_cntB : MtR X "list.count" (rCntB X.K) := by
  intro pins s σ H x xs v us Q I rx rxs h
  obtain ⟨p, bs, rfl, rfl, hs, q⟩ := h
  cases rx
  obtain ⟨u, rfl, ru⟩ := rxs.one
  cases ru
  obtain ⟨its, rv, ⟨⟨cls, dd, data, sl⟩, n, ho, hc, hdn, hd⟩, hlen⟩ := I.list hs
  simp only at hc hd
  subst hc hd
  have hi := bools_of_vals rv
  subst hi
  refine call_meets PySem.F.slot_list_count ⟨_, ho, rfl⟩ PySem.F.entry_list_count (PySem.F.args_list_count_2 _ _)
    (SeqAt.list_countAt p (bs.map Value.bool).toArray n dd sl (.bool true) eqT) ⟨ho, fun y hy => eqT_at (by simpa using hy), ?_⟩
  refine ⟨.int (bs.count true : Nat), H, I.tok _, ⟨s.toks, ?_⟩, q⟩
  show Value.int ((((bs.map Value.bool).toArray.toList.countP eqT : Nat) : Int)) s.toks = _
  rw [List.toList_toArray, eqT_count]
theorem mt_ixB : MtR X "list.index" (rIxB X.K) := by
  intro pins s σ H x xs v us Q I rx rxs h
  obtain ⟨p, bs, j, rfl, rfl, hs, hj, hno, q⟩ := h
  cases rx
  obtain ⟨u, rfl, ru⟩ := rxs.one
  cases ru
  obtain ⟨its, rv, ⟨⟨cls, dd, data, sl⟩, n, ho, hc, hdn, hd⟩, hlen⟩ := I.list hs
  simp only at hc hd
  subst hc hd
  have hi := bools_of_vals rv
  subst hi
  have hjn : j < bs.length := (List.getElem?_eq_some_iff.mp hj).1
  rw [List.length_map, sizeLine_eq] at hlen
  refine call_meets PySem.F.slot_list_index ⟨_, ho, rfl⟩ PySem.F.entry_list_index (PySem.F.args_list_index_2 _ _)
    (SeqAt.list_indexAt p (bs.map Value.bool).toArray n dd sl (.bool true) eqT j (by simpa using hjn) (by omega) ?_ ?_) ⟨ho, fun y hy => eqT_at (by simpa using hy), ?_⟩
  · have e := (List.getElem?_eq_some_iff.mp hj).2
    simp [e, eqT]
  · intro m hm hmj
    have e := (List.getElem?_eq_some_iff.mp (hno m hmj)).2
    simp [e, eqT]
  · exact ⟨.int (j : Nat), H, I.tok _, ⟨s.toks, rfl⟩, q⟩
/-! ### isinstance of the exception that is handled -/
theorem call_isP {a D : Addr} {oe : Obj} (hp : (a, oe) ∈ X.pn) (C : ExcC X.K D) (hz : Zc (.ref D) none oe) (hf : ∃ vs, oe.data = .fields vs) : CallR X (.builtin "isinstance") (rIsE X.K D a) := by
  intro pins s σ H xs us Q I r h
  obtain ⟨c, cv, b, rfl, hcv, e, q⟩ := h
  cases r with
  | cons rx rr =>
    cases rr with
    | cons rt rr =>
      cases rr
      cases rx
      have ec := hcv _ rt
      subst ec
      have hget := (I.pin (a, oe) (List.mem_append_left _ hp)).1
      obtain ⟨vs, hv⟩ := hf
      have J : PySem.W.InstAt s.heap a oe D none := by
        obtain ⟨oc, od, oda, osl⟩ := oe
        obtain ⟨h1, h2⟩ := hz
        dsimp only at h1 h2 hv
        subst h1 h2 hv
        exact ⟨hget, rfl, rfl, trivial⟩
      exact PySem.W.kia_one (PySem.W.handS_kitx_exc C.hg C.hk C.hs C.hd C.ha C.hn C.ht C.hm) I.kIn J e (fun z => nomatch z) fun tk => ⟨.bl b, H, I.kept (t' := tk) fun _ _ z => z, rfl, q⟩
end
/-! ### the text -/
structure IsC where
  x : Str
  pf : Pos
  pe : Pos
  pt : Pos
  p : Pos
def IsC.py (e : Str) (c : IsC) : Expr := .Call (.Name "isinstance" c.pf) [.Name e c.pe, .Name c.x c.pt] [] c.p
structure RefD where
  e : Str
  fl : Str
  c1 : List IsC
  c2 : List IsC
  ve : IsC
  ps : List Pos
  ks : List Nat
def RefD.q (r : RefD) (i : Nat) : Pos := r.ps.getD i ⟨0, 0, 0, 0⟩
def RefD.k (r : RefD) (i : Nat) : Nat := r.ks.getD i 0
def RefD.s1 (r : RefD) : Stmt := .Assign [.Name r.fl (r.q 0)] (.List (r.c1.map (IsC.py r.e)) (r.q 1)) (r.q 2)
def RefD.s2 (r : RefD) : Stmt := .Assign [.Name r.fl (r.q 3)] (.BinOp (.Name r.fl (r.q 4)) .Add (.List (r.c2.map (IsC.py r.e)) (r.q 5)) (r.q 6)) (r.q 7)
def RefD.tst (r : RefD) : Expr := .BoolOp .Or [.Compare (.Call (.Attribute (.Name r.fl (r.q 8)) "count" (r.q 9)) [.Constant (.bool true) (r.k 0) (r.q 10)] [] (r.q 11)) [.NotEq] [.Constant (.int 1) (r.k 1) (r.q 12)] (r.q 13), .UnaryOp .Not (r.ve.py r.e) (r.q 14)] (r.q 15)
def RefD.s3 (r : RefD) : Stmt := .If r.tst [.Return (some (.Tuple [.Constant (.str "refused") (r.k 2) (r.q 16), .UnaryOp .USub (.Constant (.int 1) (r.k 3) (r.q 17)) (r.q 18)] (r.k 4) (r.q 19))) (r.q 20)] [] (r.q 21)
def RefD.s4 (r : RefD) : Stmt := .Return (some (.Tuple [.Constant (.str "refused") (r.k 5) (r.q 22), .Call (.Attribute (.Name r.fl (r.q 23)) "index" (r.q 24)) [.Constant (.bool true) (r.k 6) (r.q 25)] [] (r.q 26)] (r.k 7) (r.q 27))) (r.q 28)
def RefD.body (r : RefD) : List Stmt := match r.c2 with
  | [] => [r.s1, r.s3, r.s4]
  | _ => [r.s1, r.s2, r.s3, r.s4]
/-- where the first one stands -/
def ixT : List Bool → Nat
  | [] => 0
  | true :: _ => 0
  | false :: bs => ixT bs + 1
theorem ixT_at : ∀ bs : List Bool, bs.count true = 1 → bs[ixT bs]? = some true ∧ ∀ m : Nat, m < ixT bs → bs[m]? = some false
  | [], h => by cases h
  | true :: bs, _ => ⟨rfl, fun m hm => absurd hm (Nat.not_lt_zero _)⟩
  | false :: bs, h => by
    obtain ⟨h1, h2⟩ := ixT_at bs (by simpa using h)
    refine ⟨by simpa [ixT] using h1, fun m hm => ?_⟩
    cases m with
    | zero => rfl
    | succ m =>
      have hm : m + 1 < ixT bs + 1 := hm
      simpa using h2 m (by omega)
def refI (bs : List Bool) (ve : Bool) : Int := if bs.count true ≠ 1 ∨ ve = false then -1 else ixT bs
/-! ### its walk -/
section
variable {X : Cx} {a D : Addr} {oe : Obj} {r : RefD}
/-- what the clause's class gives -/
def IsOk (X : Cx) (D : Addr) (c : IsC) (b : Bool) : Prop := Gl X c.x ∧ (c.x == ("__debug__" : Str)) = false ∧ ((∃ cl, X.mg c.x = some (.ref cl) ∧ PySem.W.kitOne X.K (.ref D) (.ref cl) = some b) ∨ (∃ T, X.mg c.x = none ∧ bootBuiltins c.x = some (.type T) ∧ c.x ≠ "__name__" ∧ PySem.W.kitOne X.K (.ref D) (.type T) = some b))
def tIs (a : Addr) (b : Bool) : TE := fun σ H Q => σ[0]? = some (some (.ref a)) ∧ Q (.bl b) H
theorem pe_isc (hc : CallR X (.builtin "isinstance") (rIsE X.K D a)) (hN : X.N[0]? = some r.e) (hv : Vis X.env.scope r.e) (d1 : (r.e == ("__debug__" : Str)) = false) (d2 : (r.e == ("__classdict__" : Str)) = false) (hg : Gl X "isinstance") (hm : X.mg "isinstance" = none)
    {c : IsC} {b : Bool} (ok : IsOk X D c b) : PE X (c.py r.e) (tIs a b) := by
  obtain ⟨g1, g2, h⟩ := ok
  rcases h with ⟨cl, h1, h2⟩ | ⟨T, h1, h2, h3, h4⟩
  · refine ⟨fun pins s σ H Q I z => ?_⟩
    refine (pe_callB hc hg hm (by decide +kernel) (pa_cons (pe_var hN hv d1 d2) (pa_cons (pe_glob g1 h1 (v := .ref cl) rfl g2) pa_nil rfl) rfl)).run pins s σ H Q I ?_
    exact ⟨_, z.1, .ref cl, .ref cl, b, rfl, fun u e => e, h2, z.2⟩
  · refine ⟨fun pins s σ H Q I z => ?_⟩
    refine (pe_callB hc hg hm (by decide +kernel) (pa_cons (pe_var hN hv d1 d2) (pa_cons (pe_bltn g1 h1 h2 (v := .ty T) rfl h3 g2) pa_nil rfl) rfl)).run pins s σ H Q I ?_
    exact ⟨_, z.1, .ty T, .type T, b, rfl, fun u e => e, h4, z.2⟩
def tIss (a : Addr) (bs : List Bool) : TA := fun σ H Q => σ[0]? = some (some (.ref a)) ∧ Q (bs.map V.bl) H
theorem pa_iscs (h : ∀ (c : IsC) (b : Bool), IsOk X D c b → PE X (c.py r.e) (tIs a b)) : ∀ {cs : List IsC} {bs : List Bool}, Paired (IsOk X D) cs bs → PA X (cs.map (IsC.py r.e)) (tIss a bs)
  | _, _, .nil => ⟨fun pos pins s σ H Q I z => pa_nil.run pos pins s σ H Q I z.2⟩
  | c :: cs, b :: bs, .cons ok t => by
    refine ⟨fun pos pins s σ H Q I z => ?_⟩
    refine (pa_cons (h c b ok) (pa_iscs h t) rfl).run pos pins s σ H Q I ?_
    exact ⟨z.1, z.1, z.2⟩

/-- what the def's scope must say -/
structure RefScope (X : Cx) (r : RefD) : Prop where
  n0 : X.N[0]? = some r.e
  n1 : X.N[1]? = some r.fl
  nd : X.N.Nodup
  ve : Vis X.env.scope r.e
  vf : Vis X.env.scope r.fl
  lf : Loc X.env.scope r.fl
  fn : X.fn r.fl = true
  de : (r.e == ("__debug__" : Str)) = false
  ce : (r.e == ("__classdict__" : Str)) = false
  df : (r.fl == ("__debug__" : Str)) = false
  cf : (r.fl == ("__classdict__" : Str)) = false
  gi : Gl X "isinstance"
  mi : X.mg "isinstance" = none
  l1 : ((r.q 9).endLine == (r.q 11).line) = true
  l2 : ((r.q 24).endLine == (r.q 26).line) = true
  z1 : r.c1.length ≤ 1000
  z2 : r.c2.length ≤ 1000
/-- what a clause tells -/
def RfT (H : Hp) (T : Addr) (n : Int) : Prop := ∃ o : Obj, o.dict = none ∧ H T = some (.frz o (.tup [.str "refused", .int n]))
/-- the frame holds the exception, and the flags -/
def tFl (a : Addr) (bs : List Bool) (n : Int) : TS := fun E σ H => σ[0]? = some (some (.ref a)) ∧ (∃ l, σ[1]? = some (some (.ref l)) ∧ H l = some (.lst (bs.map V.bl))) ∧ ∀ T H', Same H H' → H T = none → RfT H' T n → E.rt (.ref T) H'
def tSt (a : Addr) (n : Int) : TS := fun E σ H => σ[0]? = some (some (.ref a)) ∧ 1 < σ.length ∧ ∀ T H', Same H H' → H T = none → RfT H' T n → E.rt (.ref T) H'
theorem none_of {H H1 : Hp} {T : Addr} (s : Same H H1) (h : H1 T = none) : H T = none := by
  cases e : H T with
  | none => rfl
  | some o => rw [s T o e] at h; cases h
theorem small2 : 2 ≤ sizeLine := by rw [sizeLine_eq]; decide
theorem ref_end (hc : CallR X (.builtin "isinstance") (rIsE X.K D a)) (S : RefScope X r) {bs : List Bool} {b : Bool} (hv : IsOk X D r.ve b) : PSs X [r.s3, r.s4] (tFl a bs (refI bs b)) := by
  have pf := fun pos => pe_var (X := X) (i := 1) (pos := pos) S.n1 S.vf S.df S.cf
  have pc : PE X (.Call (.Attribute (.Name r.fl (r.q 8)) "count" (r.q 9)) [.Constant (.bool true) (r.k 0) (r.q 10)] [] (r.q 11)) _ := pe_bm PySem.F.plainAttrs_list PySem.F.slot_list_count PySem.F.type_list_count mt_cntB (pf _) (pa_cons pe_bl pa_nil) rfl rfl S.l1
  have pi : PE X (.Call (.Attribute (.Name r.fl (r.q 23)) "index" (r.q 24)) [.Constant (.bool true) (r.k 6) (r.q 25)] [] (r.q 26)) _ := pe_bm PySem.F.plainAttrs_list PySem.F.slot_list_index PySem.F.type_list_index mt_ixB (pf _) (pa_cons pe_bl pa_nil) rfl rfl S.l2
  have pv := pe_isc (r := r) hc S.n0 S.ve S.de S.ce S.gi S.mi hv
  have pt : PT X r.tst _ := (pw_or (pt_cmpR op_ne pc pe_int rfl) (pw_or1 (pt_not (pt_val pv)))).pt
  have p3 : PS X r.s3 _ := ps_if pt (pss_cons (ps_ret (pe_tupC (pa_cons pe_str (pa_cons (pe_un un_neg pe_int) pa_nil)))) pss_nil) pss_nil
  have p4 : PS X r.s4 _ := ps_ret (pe_tupC (pa_cons pe_str (pa_cons pi pa_nil)))
  refine ⟨fun pins s σ H E I z => (pss_cons p3 (pss_cons p4 pss_nil)).run pins s σ H E I ?_⟩
  obtain ⟨z0, ⟨l, z1, z2⟩, z3⟩ := z
  have ty : tyV X.K "list" (.ref l) H := .inl ⟨rfl, _, .inl (.inl z2)⟩
  have sq : SqL X.K H l (bs.map V.bl) := .inl (.inl z2)
  have dec : (!decide (V.int ((bs.count true : Nat) : Int) = V.int 1)) = decide (bs.count true ≠ 1) := by
    by_cases e : bs.count true = 1
    · rw [e]; rfl
    · rw [decide_eq_true e]
      have : ¬ (V.int ((bs.count true : Nat) : Int) = V.int 1) := fun q => e (by injection q with q; omega)
      rw [decide_eq_false this]
      rfl
  have bad : refI bs b = -1 → tRet (tTupC (tCons (tC (.str "refused")) (tCons (tUn (rU fun i => .int (-i)) (tC (.int 1))) tNil))) { E with nx := tNext E } σ H := fun e => by
    refine ⟨1, rfl, small2, fun T o ho hT => z3 T _ (Same.upd hT) hT ⟨o, ho, ?_⟩⟩
    rw [e]
    exact upd_same
  refine ⟨_, z1, ty, l, bs, rfl, rfl, sq, rfl, _, rfl, ?_⟩
  rw [dec]
  by_cases e : bs.count true = 1
  · have e1 : decide (bs.count true ≠ 1) = false := decide_eq_false (fun q => q e)
    rw [e1]
    refine ⟨z0, b, rfl, ?_⟩
    cases b with
    | false =>
      exact bad (by unfold refI; rw [if_pos (.inr rfl)])
    | true =>
      obtain ⟨j1, j2⟩ := ixT_at bs e
      show tSeq (tRet (tTupC (tCons (tC (.str "refused")) (tCons (tBM X.K "list" (rIxB X.K) (tVar 1) (tCons (tC (.bl true)) tNil)) tNil)))) tNext E σ H
      refine ⟨_, z1, ty, l, bs, ixT bs, rfl, rfl, sq, j1, j2, small2, fun T o ho hT => z3 T _ (Same.upd hT) hT ⟨o, ho, ?_⟩⟩
      have : refI bs true = (ixT bs : Nat) := by unfold refI; rw [if_neg (fun q => q.elim (fun q => q e) (fun q => by cases q))]
      rw [this]
      exact upd_same
  · rw [decide_eq_true e]
    exact bad (by unfold refI; rw [if_pos (.inl e)])
theorem ref_body (hc : CallR X (.builtin "isinstance") (rIsE X.K D a)) (S : RefScope X r) {bs cs : List Bool} {b : Bool} (h1 : Paired (IsOk X D) r.c1 bs) (h2 : Paired (IsOk X D) r.c2 cs) (hv : IsOk X D r.ve b) : PSs X r.body (tSt a (refI (bs ++ cs) b)) := by
  have pf := fun pos => pe_var (X := X) (i := 1) (pos := pos) S.n1 S.vf S.df S.cf
  have pis := fun (c : IsC) (b : Bool) (ok : IsOk X D c b) => pe_isc (r := r) hc S.n0 S.ve S.de S.ce S.gi S.mi ok
  have p1 : PS X r.s1 _ := ps_set (pos' := r.q 0) (pos := r.q 2) S.nd S.n1 S.lf (pe_lst (pos := r.q 1) (pa_iscs pis h1)) rfl (.inl S.fn)
  have p2 : PS X r.s2 _ := ps_set (pos' := r.q 3) (pos := r.q 7) S.nd S.n1 S.lf (pe_op (pos := r.q 6) op_cat (pf (r.q 4)) (pe_lst (pos := r.q 5) (pa_iscs pis h2))) rfl (.inl S.fn)
  have hl : 3000 ≤ sizeLine := by rw [sizeLine_eq]; decide
  have n1 := S.z1
  have n2 := S.z2
  have q1 := Paired.length h1
  have q2 := Paired.length h2
  have set0 : ∀ {σ : L2.St} {v : V}, σ[0]? = some (some (.ref a)) → (σ.set 1 (some v))[0]? = some (some (.ref a)) := fun h => by rw [List.getElem?_set_ne (by decide)]; exact h
  have set1 : ∀ {σ : L2.St} {v : V}, 1 < σ.length → (σ.set 1 (some v))[1]? = some (some v) := fun h => List.getElem?_set_self h
  have main : r.c2 = [] → PSs X r.body (tSt a (refI (bs ++ cs) b)) := fun e1 => by
    have e2 : cs = [] := List.eq_nil_of_length_eq_zero (by rw [← q2, e1]; rfl)
    have eb : r.body = [r.s1, r.s3, r.s4] := by unfold RefD.body; rw [e1]
    rw [eb, e2, List.append_nil]
    refine ⟨fun pins s σ H E I z => (pss_cons p1 (ref_end (bs := bs) hc S hv)).run pins s σ H E I ?_⟩
    obtain ⟨z0, z1, z3⟩ := z
    exact ⟨z0, by rw [List.length_map]; omega, fun l hl' => ⟨set0 z0, ⟨l, set1 z1, upd_same⟩, fun T H' s hT q => z3 T H' ((Same.upd hl').trans s) (none_of (Same.upd hl') hT) q⟩⟩
  have more : r.body = [r.s1, r.s2, r.s3, r.s4] → PSs X r.body (tSt a (refI (bs ++ cs) b)) := fun eb => by
    rw [eb]
    refine ⟨fun pins s σ H E I z => (pss_cons p1 (pss_cons p2 (ref_end (bs := bs ++ cs) hc S hv))).run pins s σ H E I ?_⟩
    obtain ⟨z0, z1, z3⟩ := z
    refine ⟨z0, by rw [List.length_map]; omega, fun l hl' => ?_⟩
    refine ⟨_, set1 z1, set0 z0, by rw [List.length_map]; omega, fun l2 hl2 => ?_⟩
    refine ⟨l, l2, bs.map V.bl, cs.map V.bl, rfl, rfl, (Same.upd hl2) l _ upd_same, upd_same, by rw [List.length_map, List.length_map]; omega, fun l3 hl3 => ?_⟩
    refine ⟨set0 (set0 z0), ⟨l3, set1 (by rw [List.length_set]; exact z1), by rw [List.map_append]; exact upd_same⟩, fun T H' s hT q => z3 T H' ((Same.upd hl').trans ((Same.upd hl2).trans ((Same.upd hl3).trans s))) (none_of ((Same.upd hl').trans ((Same.upd hl2).trans (Same.upd hl3))) hT) q⟩
  cases e : r.c2 with
  | nil => exact main e
  | cons c l => exact more (by unfold RefD.body; rw [e])
end
/-- what the def promises while its exception is handled -/
def FnR (P : Program) (w : World) (K : PySem.W.Frag) (mg : Str → Option Value) (base : Heap) (f : Addr) (fd : FuncData) (e : Str) (D : Addr) (n : Int) : Prop :=
  ∀ (A : Around) (outer : List Env) (s : Shared) (H : Hp) (args : Args) (Q : VK) (p : Addr × Obj), L2H.RoomH 1 A → L2H.Hot1 A p → L2H.PinOk outer H s p → Zc (.ref D) none p.2 → Env0 P w K mg base A outer s H → BindsTo s fd args [(e, .ref p.1)] →
    (∀ T H', Same H H' → H T = none → RfT H' T n → Q (.ref T) H') → codeAny (model P w) A (.call (.ref f) args) (CR (L2N.CX P w) outer P w H s Q fun _ _ _ => False) s
/-- a def's text is as it should be -/
def refWf (r : RefD) (scope : Scope) : Bool := visB scope r.e && (locB scope r.fl && (nmB r.e && (nmB r.fl && (glB scope "isinstance" && ((r.c1 ++ (r.c2 ++ [r.ve])).all (fun c => glB scope c.x && nmB c.x) && (((r.q 9).endLine == (r.q 11).line) && (((r.q 24).endLine == (r.q 26).line) && (decide (r.c1.length ≤ 1000) && decide (r.c2.length ≤ 1000)))))))))
/-- what a clause gives, by the module alone -/
def IsM (K : PySem.W.Frag) (mg : Str → Option Value) (D : Addr) (c : IsC) (b : Bool) : Prop := (∃ cl, mg c.x = some (.ref cl) ∧ PySem.W.kitOne K (.ref D) (.ref cl) = some b) ∨ (mg c.x = none ∧ c.x = "ValueError" ∧ PySem.W.kitOne K (.ref D) (.type "ValueError") = some b)
theorem paired_mem {α β : Type} {R R' : α → β → Prop} : ∀ {l : List α} {m : List β}, Paired R l m → (∀ a ∈ l, ∀ b, R a b → R' a b) → Paired R' l m
  | _, _, .nil, _ => .nil
  | _, _, .cons h t, k => .cons (k _ List.mem_cons_self _ h) (paired_mem t fun a ha => k a (List.mem_cons_of_mem _ ha))
section
variable {P : Program} {w : World} {K : PySem.W.Frag} {mg : Str → Option Value} {base : Heap}
theorem bband {a b : Bool} (h : (a && b) = true) : a = true ∧ b = true := by simpa using h
theorem ref_run {nm qual : Str} {params : Arguments} {scope : Scope} {r : RefD} {f D : Addr} {fd : FuncData} {bs cs : List Bool} {b : Bool} (FD : FunD K nm qual params r.body scope [] [] f fd) (S : FnScope [r.e, r.fl] [r.e] scope) (hw : refWf r scope = true) (hi : mg "isinstance" = none) (EC : ExcC K D)
    (h1 : Paired (IsM K mg D) r.c1 bs) (h2 : Paired (IsM K mg D) r.c2 cs) (hv : IsM K mg D r.ve b) : FnR P w K mg base f fd r.e D (refI (bs ++ cs) b) := by
  intro A outer s H args Q p hr hot hpin hz e0 hb z
  obtain ⟨oc, od, dV, kV, doc, pm, an, cdv, ct, osl, rfl, lk, hcd, _, _⟩ := FD.ex
  have KX : K.In s.heap := e0.mod.kin.keeps fun b o e => (e0.bs b o e).1
  have lim : s.heap.NoLimit := e0.mod.nolimit.keeps fun b o e => (e0.bs b o e).1
  have hkind : ∀ y ∈ [(r.e, Value.ref p.1)], scope.names.lookup y.1 = some .local ∨ (scope.names.lookup y.1 = some .cell ∧ ((cellsFrom (s.heap.objs.size + 1) scope.names []).lookup y.1).isSome = true) := fun y hy => by
    rw [List.mem_singleton.mp hy]
    rcases S.par r.e List.mem_cons_self with q | q
    · exact .inl q
    · exact .inr ⟨q, PySem.W.cellsFrom_some _ _ _ (.inl q)⟩
  refine codeAny_call_function hr.depth (KX _ _ lk) rfl S.co S.gen rfl (PySem.W.codeRec_of KX hcd) (hb _ _ _ _ ?_)
  refine wpAny_newFunctionEnv_cells S.kind hkind fun env he s1 x => ?_
  subst he
  refine ⟨lim.keeps x.toInCall.keep, codeAny_func ?_⟩
  have I : L2.Inv (L2H.cxH (L2N.CX P w) P w K mg base [r.e, r.fl] qual scope f cdv A outer s H (fun _ _ _ => False) p) [] (L2.start [r.e, r.fl] [V.ref p.1]) H s1 := L2H.inv_startH S hpin e0 rfl (us := [.ref p.1]) (.cons rfl .nil) x
  obtain ⟨w1, hw⟩ := bband hw
  obtain ⟨w2, hw⟩ := bband hw
  obtain ⟨w3, hw⟩ := bband hw
  obtain ⟨w4, hw⟩ := bband hw
  obtain ⟨w5, hw⟩ := bband hw
  obtain ⟨w6, hw⟩ := bband hw
  obtain ⟨w7, hw⟩ := bband hw
  obtain ⟨w8, hw⟩ := bband hw
  obtain ⟨w9, w10⟩ := bband hw
  have nmd : ∀ {y : Str}, nmB y = true → (y == ("__debug__" : Str)) = false ∧ (y == ("__classdict__" : Str)) = false ∧ y ≠ "__name__" := fun {y} h => by
    unfold nmB at h
    simp only [Bool.and_eq_true, Bool.not_eq_true', decide_eq_true_eq] at h
    exact ⟨h.1.1, h.1.2, h.2⟩
  let X := L2H.cxH (L2N.CX P w) P w K mg base [r.e, r.fl] qual scope f cdv A outer s H (fun _ _ _ => False) p
  have R : RefScope X r := ⟨rfl, rfl, S.nd, vis_of w1, (by
    rcases loc_of w2 with q | q
    · exact .inl q
    · exact .inr (.inl q)), loc_of w2, rfl, (nmd w3).1, (nmd w3).2.1, (nmd w4).1, (nmd w4).2.1, gl_of w5, hi, w7, w8, of_decide_eq_true w9, of_decide_eq_true w10⟩
  have up : ∀ c ∈ r.c1 ++ (r.c2 ++ [r.ve]), ∀ b, IsM K mg D c b → IsOk X D c b := fun c hc b h => by
    obtain ⟨g1, g2⟩ := bband (List.all_eq_true.mp w6 c hc)
    refine ⟨gl_of g1, (nmd g2).1, ?_⟩
    rcases h with h | ⟨h1, h2, h3⟩
    · exact .inl h
    · exact .inr ⟨"ValueError", h1, by rw [h2]; decide +kernel, (nmd g2).2.2, h3⟩
  obtain ⟨_, vs, hvs, _⟩ := id hot
  have ps := ref_body (X := X) (a := p.1) (D := D) (r := r) (call_isP (oe := p.2) List.mem_cons_self EC hz ⟨vs, hvs⟩) R (paired_mem h1 fun c hc => up c (List.mem_append_left _ hc)) (paired_mem h2 fun c hc => up c (List.mem_append_right _ (List.mem_append_left _ hc))) (up _ (List.mem_append_right _ (List.mem_append_right _ List.mem_cons_self)) _ hv)
  refine wpAny_mono (ps.run [] s1 (L2.start [r.e, r.fl] [V.ref p.1]) H { nx := fun _ H' => Q .non H', rt := Q } I ⟨rfl, Nat.lt_succ_self 1, fun T H' s hT q => z T H' s hT q⟩) (fun fl s' hs => ?_) fun e s' hs => hs
  have fin : ∀ {σ' : L2.St} {H' : Hp} {v : V} {u : Value}, L2.Inv X [] σ' H' s' → RelV v u → Q v H' → CE outer P w H s Q u s' := fun {σ' H' v u} J rv q => ⟨v, H', J.os, J.bare, J.base, J.hok, rv, q⟩
  cases fl with
  | ret u =>
    obtain ⟨v, σ', H', J, rv, q⟩ := hs
    exact fin J rv q
  | next =>
    obtain ⟨σ', H', J, q⟩ := hs
    exact fin (v := V.non) (u := Value.none) J rfl q
  | brk =>
    obtain ⟨_, _, _, q⟩ := hs
    exact False.elim q
  | cont =>
    obtain ⟨_, _, _, q⟩ := hs
    exact False.elim q
end
/-- return f(e) in the clause -/
def tRefC (i : Nat) (a : Addr) (n : Int) : TE := fun σ H Q => σ[i]? = some (some (.ref a)) ∧ ∀ T H', Same H H' → H T = none → RfT H' T n → Q (.ref T) H'
theorem pe_ref {X : Cx} {a f D : Addr} {oe : Obj} {pn : List (Addr × Obj)} {fd : FuncData} {e x y : Str} {n : Int} {i : Nat} {pf pv pc : Pos} (F : FnR X.prog X.w X.K X.mg X.base f fd e D n) (hr : L2H.RoomH 1 X.A) (hz : L2N.Zn (.ref D) none oe) (hf : ∃ vs, oe.data = .fields vs) (hg : Gl X x) (hm : X.mg x = some (.ref f))
    (hk : PySem.W.keepIn X.K (.ref f) = true) (hb : Binds X.K fd [e] []) (hd : (x == ("__debug__" : Str)) = false) (hN : X.N[i]? = some y) (hv : Vis X.env.scope y) (d1 : (y == ("__debug__" : Str)) = false) (d2 : (y == ("__classdict__" : Str)) = false) :
    PE (X.suite a ((a, oe) :: pn)) (.Call (.Name x pf) [.Name y pv] [] pc) (tRefC i a n) := by
  refine ⟨fun pins s σ H Q I h => ?_⟩
  obtain ⟨hs, h⟩ := h
  have ha : PA (X.suite a ((a, oe) :: pn)) [.Name y pv] (tCons (tVar i) tNil) := pa_cons (pe_var (X := X.suite a ((a, oe) :: pn)) hN hv d1 d2) pa_nil rfl
  refine wpAny_Call_Name_kw (ld_glob I hg hm ?_ hd)
  refine PySem.W.callWith_K (h₀ := X.base) I.ok.mod.kin hk (thn (ha.run pc pins s σ H (fun vs H1 => vs = [V.ref a] ∧ H = H1) I ⟨_, hs, rfl, rfl⟩) fun us s1 ⟨vs, H1, I1, r1, ev, eH⟩ => ⟨I1.kIn, ?_⟩) rfl rfl
  subst ev
  subst eH
  cases r1 with
  | cons ru rn =>
    cases rn
    cases ru
    have b := hb s1 [.ref a] I1.kIn rfl
    have P1 := I1.pin (a, oe) (List.mem_append_left _ List.mem_cons_self)
    have hpin : L2H.PinOk X.stack H s1 (a, oe) := ⟨P1.1, P1.2.1, fun hm => (List.mem_cons.mp (I1.stkSub a hm)).elim P1.2.2.1 P1.2.2.2.1, P1.2.2.2.2⟩
    obtain ⟨vs, hvs⟩ := hf
    have hot : L2H.Hot1 (X.suite a ((a, oe) :: pn)).A (a, oe) := ⟨rfl, vs, hvs, hz.2.2 vs hvs⟩
    have hr' : L2H.RoomH 1 (X.suite a ((a, oe) :: pn)).A := ⟨hr.dp, hr.un⟩
    refine wpAny_call (codeAny_mono (F (X.suite a ((a, oe) :: pn)).A X.stack s1 H ⟨[.ref a], []⟩ Q (a, oe) hr' hot hpin hz.zc I1.env0 b h) fun r s' hq => ?_)
    cases r with
    | error e =>
      obtain ⟨_, _, _, _, _, _, _, _, _, _, _, _, z⟩ := hq
      exact z.elim
    | ok fl =>
      cases fl with
      | ret u => exact I1.after hq
      | next => exact False.elim hq
      | brk => exact False.elim hq
      | cont => exact False.elim hq
end Li

/-! every statement -/
namespace Li
open PySem PySem.Spec L2
open PyProof.Rows hiding St
/-! ### who owns what -/
def rmL (l m : List Nat) : List Nat := l.filter fun i => !m.contains i
def meetL (l m : List Nat) : List Nat := l.filter fun i => m.contains i
theorem mem_rmL {l m : List Nat} {i : Nat} (h : i ∈ rmL l m) : i ∈ l ∧ i ∉ m := by
  unfold rmL at h
  simpa using h
theorem mem_meetL {l m : List Nat} {i : Nat} (h : i ∈ meetL l m) : i ∈ l ∧ i ∈ m := by
  unfold meetL at h
  simpa using h
mutual
def ck : Sm → List Nat → Option (List Nat)
  | .asg v e _, fl => some (if fresh e = true then v.i :: rmL fl (v.i :: al e) else rmL fl (v.i :: al e))
  | .asgt vs _ _ e _, fl => some (rmL fl (vs.map (·.i) ++ al e))
  | .setix v i _ e _, fl => if v.i ∈ rmL fl (al e) then some (rmL fl (al e)) else none
  | .mut _ v e _ _ _, fl => if v.i ∈ rmL fl (al e) then some (rmL fl (al e)) else none
  | .expr _ _, fl => some fl
  | .ret _ _, fl => some fl
  | .cond _ a b _, fl => (cks a fl).bind fun x => (cks b fl).bind fun y => some (meetL x y)
  | .loop tg it b _, fl => (cks b (rmL fl (alv it ++ tgIx tg))).bind fun x => (cks b (meetL (rmL fl (alv it ++ tgIx tg)) x)).bind fun y =>
      if (meetL (rmL fl (alv it ++ tgIx tg)) x).all (fun i => y.contains i) = true then some (meetL (rmL fl (alv it ++ tgIx tg)) x) else none
  | .lchk tg _ _ _ _ _ _ _ _, fl => some (rmL fl (tgIx tg))
  | .lsel v _ _ w _ _ _ _, fl => some (rmL fl [v.i, w.i])
  | .whil _ b _, fl => (cks b fl).bind fun x => (cks b (meetL fl x)).bind fun y => if (meetL fl x).all (fun i => y.contains i) = true then some (meetL fl x) else none
  | .rais _ _ _ _ _ _ _ _, fl => some fl
  | .pass _, fl => some fl
  | .tryr b _ _ _ _ _ _ _ _, fl => cks b fl
def cks : Sms → List Nat → Option (List Nat)
  | .nil, fl => some fl
  | .cons s r, fl => (ck s fl).bind fun x => cks r x
end
/-! ### names and forms -/
def asgOk (sc : Scope) (v : Vn) : Ex → Bool
  | .lc _ _ _ _ scope _ p => decide (sc.names.lookup v.x = some .cell) || (decide (sc.names.lookup v.x = some .local) && (v.p.line == p.line) && !(scope.names.any fun (n, k) => n == v.x && (k == .local || k == .cell)))
  | _ => true
def isTup : Ex → Bool
  | .tup _ _ _ => true
  | _ => false
def isLc : Ex → Bool
  | .lc _ _ _ _ _ _ _ => true
  | _ => false
section
variable (CN : List Str) (TN : List (Str × Nat)) (EN : List Str) (RN : List RefE) (N : List Str) (sc : Scope)
mutual
def wfS : Sm → Bool
  | .asg v e _ => okT N sc v && wf CN TN N sc e && asgOk sc v e
  | .asgt vs _ _ e _ => vs.all (okT N sc) && wf CN TN N sc e && !isTup e
  | .setix v i _ e _ => okV N sc v && wf CN TN N sc i && wf CN TN N sc e
  | .mut m v e pa pc _ => okV N sc v && wf CN TN N sc e && (pa.endLine == pc.line)
  | .expr e _ => wf CN TN N sc e && !isLc e
  | .ret e _ => wf CN TN N sc e
  | .cond c a b _ => wf CN TN N sc c && wfSs a && wfSs b
  | .loop tg it b _ => okTg N sc tg && needT tg it && wfi CN TN N sc it && wfSs b
  | .lchk tg it c _ _ _ _ _ _ => okTg N sc tg && needT tg it && wfi CN TN N sc it && wf CN TN N sc c && (ali it).isEmpty
  | .lsel v it c w u _ _ _ => okT N sc v && needT (.name v) it && wfi CN TN N sc it && wf CN TN N sc c && (ali it).isEmpty && okT N sc w && okV N sc u && decide (u.i = v.i)
  | .whil c b _ => wf CN TN N sc c && wfSs b
  | .rais c x _ _ _ _ _ _ => decide (EN[c]? = some x) && glB sc x && nmB x
  | .pass _ => true
  | .tryr b r _ v _ _ _ _ _ => wfSs b && decide (r ∈ RN) && glB sc r.x && nmB r.x && glB sc r.f && nmB r.f && okV N sc v && decide (sc.names.lookup v.x = some .local) && (r.il.isNone || glB sc "isinstance")
def wfSs : Sms → Bool
  | .nil => true
  | .cons s r => wfS s && wfSs r
end
end
/-! ### readings -/
section
variable {P : Program} {w : World} {K : PySem.W.Frag} {mg : Str → Option Value} {base : Heap} {CN : List Str} {C : List D} {T : List Fn} {EN : List Str} {RN : List RefE} {ec : Nat → Value} {k : Nat} {cf : Nat → List D → Res D} {N : List Str}
def OKS (K : PySem.W.Frag) (ec : Nat → Value) (W : WX) (avC : Av) (H0 : Hp) (fl' : List Nat) (ow : Ow) (H : Hp) (E : Ends) : Out → Prop
  | .nx env' => ∀ σ' H' ow', FR K avC H0 ow' env' σ' H' → FlOk fl' ow' env' → Step ow H ow' H' → E.nx σ' H'
  | .ret d => ∀ v H', Same H0 H' → Rep K avC H' v d → E.rt v H'
  | .ex c env' => ∀ σ' H' ow', FR K avC H0 ow' env' σ' H' → W (ec c) none σ' H'
  | .no => False
def tS (K : PySem.W.Frag) (ec : Nat → Value) (C : List D) (cf : Nat → List D → Res D) (W : WX) (s : Sm) (fl fl' : List Nat) : TS := fun E σ H => ∃ avC H0 ow env, FR K avC H0 ow env σ H ∧ FlOk fl ow env ∧ OKS K ec W avC H0 fl' ow H E (exe C cf s env)
def tSs (K : PySem.W.Frag) (ec : Nat → Value) (C : List D) (cf : Nat → List D → Res D) (W : WX) (s : Sms) (fl fl' : List Nat) : TS := fun E σ H => ∃ avC H0 ow env, FR K avC H0 ow env σ H ∧ FlOk fl ow env ∧ OKS K ec W avC H0 fl' ow H E (exes C cf s env)
theorem psImp {X : Cx} {s : Stmt} {t t' : TS} (h : PS X s t) (k : ∀ E σ H, t' E σ H → t E σ H) : PS X s t' := ⟨fun pins s σ H E I q => h.run pins s σ H E I (k E σ H q)⟩
theorem pssImp {X : Cx} {s : List Stmt} {t t' : TS} (h : PSs X s t) (k : ∀ E σ H, t' E σ H → t E σ H) : PSs X s t' := ⟨fun pins s σ H E I q => h.run pins s σ H E I (k E σ H q)⟩
section
variable {W : WX} {avC : Av} {H0 : Hp} {ow : Ow} {env : En} {σ : L2.St} {H : Hp} {fl fl' : List Nat} {E : Ends}
theorem OKS.out {α : Type} {r : Res α} {g : α → Out} (f : FR K avC H0 ow env σ H) (h : OKS K ec W avC H0 fl' ow H E (r.out env g)) : OUT ec W σ H r fun a => OKS K ec W avC H0 fl' ow H E (g a) := by
  cases r with
  | ok a => exact h
  | ex c => exact fun H' s => h σ H' ow (f.to s)
  | no => exact h
theorem OKS.step {ow' : Ow} {H' : Hp} {o : Out} (h : OKS K ec W avC H0 fl' ow H E o) (s : Step ow H ow' H') : OKS K ec W avC H0 fl' ow' H' E o := by
  cases o with
  | nx env' => exact fun σ' H' ow' f g t => h σ' H' ow' f g (s.trans t)
  | ret d => exact h
  | ex c e => exact h
  | no => exact h
theorem OKS.low {fl'' : List Nat} {o : Out} (h : OKS K ec W avC H0 fl' ow H E o) (s : ∀ i ∈ fl', i ∈ fl'') : OKS K ec W avC H0 fl'' ow H E o := by
  cases o with
  | nx env' => exact fun σ' H' ow' f g t => h σ' H' ow' f (g.sub s) t
  | ret d => exact h
  | ex c e => exact h
  | no => exact h
end
/-- the clauses' defs -/
def RefDf (P : Program) (w : World) (K : PySem.W.Frag) (mg : Str → Option Value) (base : Heap) (EN : List Str) (ec : Nat → Value) (r : RefE) : Prop :=
  ∃ f fd e cx, mg r.f = some (.ref f) ∧ PySem.W.keepIn K (.ref f) = true ∧ Binds K fd [e] [] ∧ mg r.x = some (.ref cx) ∧ ∀ (c : Nat) (t : Bool), r.tap[c]? = some t → ∃ D, ec c = .ref D ∧ PySem.W.exmOne K (.ref D) (.ref cx) = some t ∧ (t = true → FnR P w K mg base f fd e D (r.rt.getD c 0))
/-- a clause that asks of what class the exception is -/
def ilC (r : RefE) : IsC := ⟨r.f, ⟨0, 0, 0, 0⟩, ⟨0, 0, 0, 0⟩, ⟨0, 0, 0, 0⟩, ⟨0, 0, 0, 0⟩⟩
def RefIl (K : PySem.W.Frag) (mg : Str → Option Value) (ec : Nat → Value) (r : RefE) : Prop :=
  ∃ cx, mg r.x = some (.ref cx) ∧ mg "isinstance" = none ∧ ∀ (c : Nat) (t : Bool), r.tap[c]? = some t → ∃ D, ec c = .ref D ∧ PySem.W.exmOne K (.ref D) (.ref cx) = some t ∧ (t = true → ExcC K D ∧ IsM K mg D (ilC r) (decide (r.rt.getD c 0 = 1)))
def RefAt (P : Program) (w : World) (K : PySem.W.Frag) (mg : Str → Option Value) (base : Heap) (EN : List Str) (ec : Nat → Value) (r : RefE) : Prop :=
  (r.il = none → RefDf P w K mg base EN ec r) ∧ (r.il ≠ none → RefIl K mg ec r)
structure GoodS (P : Program) (w : World) (K : PySem.W.Frag) (mg : Str → Option Value) (base : Heap) (N : List Str) (k : Nat) (X : Cx) (sc : Scope) (W : WX) : Prop extends Good P w K mg base N k X sc W where
  fn : ∀ x, X.fn x = true
  stk : X.stack = X.env :: X.outer
  frm : X.env.frame = some X.env.locals
  po : PassesOwn (model X.prog X.w) X.A X.env X.xe
  tkS : L2N.Takes X W
section
variable {X : Cx} {sc : Scope} {W : WX} {fl fl' : List Nat}
theorem swaps_no {e : Ex} (h : isLc e = false) (t : Option Expr) (l : Nat) (env : Env) : swapsWith e.py t l env = pure false := by
  cases e <;> first | rfl | cases h
theorem swaps_cell {e : Ex} {y : Str} {py : Pos} {l : Nat} {env : Env} (hy : env.scope.names.lookup y = some .cell) : swapsWith e.py (some (.Name y py)) l env = pure false := by
  have ky : env.kindOf y = some .cell := hy
  cases e with
  | lc elt tg it ifs scope own p =>
    show swapsWith (.ListComp _ _ _ _) _ _ _ = _
    unfold swapsWith
    simp only [ky]
    have e : ((some NameKind.cell == some NameKind.local) : Bool) = false := rfl
    rw [e, Bool.and_false, Bool.false_and, Bool.false_and]
  | _ => rfl
theorem swaps_tg (e : Ex) (elts : List Expr) (kk : Nat) (p : Pos) (l : Nat) (env : Env) : swapsWithSole [.Tuple elts kk p] e.py l env = pure false := by
  cases e <;> rfl
theorem swaps_sub (e : Ex) (a b : Expr) (p : Pos) (l : Nat) (env : Env) : swapsWithSole [.Subscript a b p] e.py l env = pure false := by
  cases e <;> rfl
theorem swapped_tg {e : Ex} (h : isTup e = false) (elts : List Expr) (kk : Nat) (p : Pos) (env : Env) : swappedStores [.Tuple elts kk p] e.py env = pure none := by
  cases e <;> first | rfl | cases h
theorem swapped_sub (e : Ex) (a b : Expr) (p : Pos) (env : Env) : swappedStores [.Subscript a b p] e.py env = pure none := by
  cases e <;> rfl
theorem FR.sg {avC : Av} {H0 : Hp} {ow : Ow} {env : En} {σ : L2.St} {H H' : Hp} {l : List Nat} {i : Nat} {v : V} {d : D} {E : Ends} (f : FR K avC H0 ow env σ H) (s : Same H H') (fo : FlOk fl ow env) (r : Rep K (AV avC (drp ow l)) H' v d)
    (q : OKS K ec W avC H0 (rmL fl (i :: l)) ow H E (.nx (env.set i (some d)))) : E.nx (σ.set i (some v)) H' := by
  refine q _ _ (drp ow (i :: l)) ((f.to s).asg List.mem_cons_self (r.mono (AV.sub fun j hj => List.mem_cons_of_mem _ hj))) ?_ ((Step.same s).trans (Step.drp ow _ _))
  refine ((fo.sub fun j hj => (mem_rmL hj).1).drop fun j hj => (mem_rmL hj).2).env fun j hj => ?_
  rw [List.getElem?_set_ne]
  rintro rfl
  exact (mem_rmL hj).2 List.mem_cons_self
/-- v = e -/
theorem s_asgK {v : Vn} {e : Ex} {p : Pos} (hf : fresh e = false) (h : PS X (Sm.asg v e p).py (tAsg (tE K ec C cf W e) (gName v.i))) : PS X (Sm.asg v e p).py (tS K ec C cf W (.asg v e p) fl (rmL fl (v.i :: al e))) := by
  refine psImp h ?_
  rintro E σ H ⟨avC, H0, ow, env, f, fo, q⟩
  simp only [exe] at q
  refine ⟨avC, ow, env, f.er, (q.out f).mono fun d q v' H' s _ r => ?_⟩
  exact f.sg s fo r q
theorem s_asgF {v : Vn} {e : Ex} {p : Pos} (h : PS X (Sm.asg v e p).py (tAsg (tF K ec C cf W e) (gName v.i))) : PS X (Sm.asg v e p).py (tS K ec C cf W (.asg v e p) fl (v.i :: rmL fl (v.i :: al e))) := by
  refine psImp h ?_
  rintro E σ H ⟨avC, H0, ow, env, f, fo, q⟩
  simp only [exe] at q
  refine ⟨avC, ow, env, f.er, (q.out f).mono fun d q v' H' s r fr => ?_⟩
  show E.nx (σ.set v.i (some v')) H'
  by_cases hi : v.i < env.length
  · by_cases hd : ∃ ds, d = .lst ds
    · obtain ⟨ds, rfl⟩ := hd
      obtain ⟨p, xs, rfl, hp, hp', rs⟩ := fr ds rfl
      obtain ⟨f2, st⟩ := f.asgNew hi s hp hp' rs
      refine q _ _ _ f2 (fun j hj ds' e => ?_) st
      by_cases ej : j = v.i
      · exact ⟨p, by unfold owNew; rw [if_pos ej]⟩
      · rcases List.mem_cons.mp hj with hj | hj
        · exact absurd hj ej
        · obtain ⟨h1, h2⟩ := mem_rmL hj
          rw [List.getElem?_set_ne (Ne.symm ej)] at e
          obtain ⟨a, ha⟩ := fo j h1 ds' e
          exact ⟨a, by unfold owNew; rw [if_neg ej, drp_in h2]; exact ha⟩
    · refine q _ _ (drp ow (v.i :: al e)) ((f.to s).asg List.mem_cons_self (r.mono (AV.sub fun j hj => List.mem_cons_of_mem _ hj))) (fun j hj ds' e => ?_) ((Step.same s).trans (Step.drp ow _ _))
      by_cases ej : j = v.i
      · subst ej
        rw [List.getElem?_set_self hi] at e
        exact absurd ⟨ds', Option.some.inj (Option.some.inj e)⟩ hd
      · rcases List.mem_cons.mp hj with hj | hj
        · exact absurd hj ej
        · obtain ⟨h1, h2⟩ := mem_rmL hj
          rw [List.getElem?_set_ne (Ne.symm ej)] at e
          rw [drp_in h2]
          exact fo j h1 ds' e
  · refine q _ _ (drp ow (v.i :: al e)) ((f.to s).asg List.mem_cons_self (r.mono (AV.sub fun j hj => List.mem_cons_of_mem _ hj))) (fun j hj ds' e => ?_) ((Step.same s).trans (Step.drp ow _ _))
    by_cases ej : j = v.i
    · subst ej
      rw [List.getElem?_eq_none (by rw [List.length_set]; omega)] at e
      cases e
    · rcases List.mem_cons.mp hj with hj | hj
      · exact absurd hj ej
      · obtain ⟨h1, h2⟩ := mem_rmL hj
        rw [List.getElem?_set_ne (Ne.symm ej)] at e
        rw [drp_in h2]
        exact fo j h1 ds' e
theorem s_asgt {vs : List Vn} {kk : Nat} {pt : Pos} {e : Ex} {p : Pos} (hn : isTup e = false) (he : PE X e.py (tE K ec C cf W e)) (hg : PG X (Tg.tup vs kk pt).py (tG K (.tup vs kk pt))) :
    PS X (Sm.asgt vs kk pt e p).py (tS K ec C cf W (.asgt vs kk pt e p) fl (rmL fl (vs.map (·.i) ++ al e))) := by
  refine psImp (ps_asg (pos := p) he hg (swaps_tg e _ _ _ _ _) (swapped_tg hn _ _ _ _) rfl) ?_
  rintro E σ H ⟨avC, H0, ow, env, f, fo, q⟩
  simp only [exe] at q
  refine ⟨avC, ow, env, f.er, (q.out f).mono fun d q v' H' s _ r => ?_⟩
  cases d with
  | tup ds =>
    cases hs : setAll vs ds env with
    | none => simp only [hs] at q; exact (show False from q).elim
    | some en =>
      simp only [hs] at q
      refine (f.to s).bind (l := vs.map (·.i) ++ al e) (tg := .tup vs kk pt) (fun i hi => List.mem_append_left _ hi) (r.mono (AV.sub fun j hj => List.mem_append_right _ hj)) hs fun σ' f2 => ?_
      refine q σ' H' _ f2 ?_ ((Step.same s).trans (Step.drp ow _ _))
      exact ((fo.sub fun j hj => (mem_rmL hj).1).drop fun j hj => (mem_rmL hj).2).env fun j hj => setAll_get hs j fun z => (mem_rmL hj).2 (List.mem_append_left _ z)
  | lst ds =>
    cases hs : setAll vs ds env with
    | none => simp only [hs] at q; exact (show False from q).elim
    | some en =>
      simp only [hs] at q
      refine (f.to s).bind (l := vs.map (·.i) ++ al e) (tg := .tup vs kk pt) (fun i hi => List.mem_append_left _ hi) (r.mono (AV.sub fun j hj => List.mem_append_right _ hj)) hs fun σ' f2 => ?_
      refine q σ' H' _ f2 ?_ ((Step.same s).trans (Step.drp ow _ _))
      exact ((fo.sub fun j hj => (mem_rmL hj).1).drop fun j hj => (mem_rmL hj).2).env fun j hj => setAll_get hs j fun z => (mem_rmL hj).2 (List.mem_append_left _ z)
  | _ => exact (show False from q).elim
theorem s_expr {e : Ex} {p : Pos} (hn : isLc e = false) (he : PE X e.py (tE K ec C cf W e)) : PS X (Sm.expr e p).py (tS K ec C cf W (.expr e p) fl fl) := by
  refine psImp (ps_expr (pos := p) he (swaps_no hn _ _ _)) ?_
  rintro E σ H ⟨avC, H0, ow, env, f, fo, q⟩
  simp only [exe] at q
  exact ⟨avC, ow, env, f.er, (q.out f).mono fun d q v' H' s _ r => q σ H' ow (f.to s) fo (Step.same s)⟩
theorem s_ret {e : Ex} {p : Pos} (he : PE X e.py (tE K ec C cf W e)) : PS X (Sm.ret e p).py (tS K ec C cf W (.ret e p) fl fl) := by
  refine psImp (ps_ret (pos := p) he) ?_
  rintro E σ H ⟨avC, H0, ow, env, f, fo, q⟩
  simp only [exe] at q
  exact ⟨avC, ow, env, f.er, (q.out f).mono fun d q v' H' s _ r => q v' H' (f.same.trans s) (r.mono fun a h => .inl h)⟩
theorem s_pass {p : Pos} : PS X (Sm.pass p).py (tS K ec C cf W (.pass p) fl fl) := by
  refine psImp (ps_pass (pos := p)) ?_
  rintro E σ H ⟨avC, H0, ow, env, f, fo, q⟩
  simp only [exe] at q
  exact q σ H ow f fo (Step.refl _ _)
theorem s_cond {c : Ex} {a b : Sms} {p : Pos} {x y : List Nat} (hc : PT X c.py (tT K ec C cf W c)) (ha : PSs X a.py (tSs K ec C cf W a fl x)) (hb : PSs X b.py (tSs K ec C cf W b fl y)) :
    PS X (Sm.cond c a b p).py (tS K ec C cf W (.cond c a b p) fl (meetL x y)) := by
  refine psImp (ps_if (pos := p) hc ha hb) ?_
  rintro E σ H ⟨avC, H0, ow, env, f, fo, q⟩
  simp only [exe] at q
  refine ⟨avC, ow, env, f.er, (q.out f).mono fun t q H' s => ?_⟩
  cases t with
  | true =>
    have q : OKS K ec W avC H0 (meetL x y) ow H E (exes C cf a env) := q
    exact itt ⟨avC, H0, ow, env, f.to s, fo, OKS.low (q.step (Step.same s)) fun i hi => (mem_meetL hi).1⟩
  | false =>
    have q : OKS K ec W avC H0 (meetL x y) ow H E (exes C cf b env) := q
    exact itf ⟨avC, H0, ow, env, f.to s, fo, OKS.low (q.step (Step.same s)) fun i hi => (mem_meetL hi).2⟩
theorem s_snil : PSs X Sms.nil.py (tSs K ec C cf W .nil fl fl) := by
  refine pssImp pss_nil ?_
  rintro E σ H ⟨avC, H0, ow, env, f, fo, q⟩
  simp only [exes] at q
  exact q σ H ow f fo (Step.refl _ _)
theorem s_scons {s : Sm} {r : Sms} {x : List Nat} (h1 : PS X s.py (tS K ec C cf W s fl x)) (h2 : PSs X r.py (tSs K ec C cf W r x fl')) : PSs X (Sms.cons s r).py (tSs K ec C cf W (.cons s r) fl fl') := by
  refine pssImp (pss_cons h1 h2) ?_
  rintro E σ H ⟨avC, H0, ow, env, f, fo, q⟩
  simp only [exes] at q
  refine ⟨avC, H0, ow, env, f, fo, ?_⟩
  cases e : exe C cf s env with
  | nx env' =>
    rw [e] at q
    exact fun σ' H' ow' f' fo' st => ⟨avC, H0, ow', env', f', fo', q.step st⟩
  | ret d => rw [e] at q; exact q
  | ex c en => rw [e] at q; exact q
  | no => rw [e] at q; exact q
theorem s_rais {c : Nat} {x m : Str} {kk : Nat} {px pm pc p : Pos} {cl : Addr} (hc : X.calm = true) (tk : L2N.Takes X W) (hec : ec c = .ref cl) (h1 : PySem.W.excIn X.K cl He.veBase "ValueError.__new__" = true) (h2 : X.mg x = some (.ref cl)) (h3 : PySem.W.keepIn X.K (.ref cl) = true)
    (h4 : PySem.W.subIn X.K (.ref cl) (.type "BaseException") = some true) (h5 : PySem.W.typeIn X.K (.ref cl) = some (.type "type")) (hg : Gl X x) (hd : (x == ("__debug__" : Str)) = false) :
    PS X (Sm.rais c x m kk px pm pc p).py (tS K ec C cf W (.rais c x m kk px pm pc p) fl fl) := by
  refine psImp (L2N.ps_raise (pos := p) hc tk (L2N.pmk_own (m := m) (j := kk) (p := px) (p2 := pm) (pos := pc) PySem.F.excBase_ValueError h1 h2 h3 (raises_own h4 h5) hg hd)) ?_
  rintro E σ H ⟨avC, H0, ow, env, f, fo, q⟩
  simp only [exe] at q
  rw [← hec]
  exact q σ H ow f
theorem GoodS.tr {N : List Str} {W' : WX} {pn : List (Addr × Obj)} {xe : Value → Shared → Prop} (g : GoodS P w K mg base N k X sc W) (tk : L2N.Takes (X.tr pn xe) W') (po : PassesOwn (model X.prog X.w) X.A X.env xe) : GoodS P w K mg base N k (X.tr pn xe) sc W' :=
  ⟨⟨g.hP, g.hw, g.hK, g.hm, g.hb, g.hN, g.calm, g.nd, g.hs, g.kind, g.room, tkf_of (X := X.tr pn xe) g.stk g.frm tk⟩, g.fn, g.stk, g.frm, po, tk⟩
theorem s_tryrD {b : Sms} {r : RefE} {np : Pos} {v : Vn} {pf pc pr ph p : Pos} {N : List Str} (g : GoodS P w K mg base N (k + 1) X sc W) (hil : r.il = none) (ref : RefDf P w K mg base EN ec r) (hx : Gl X r.x) (hx' : (r.x == ("__debug__" : Str)) = false) (hf : Gl X r.f) (hf' : (r.f == ("__debug__" : Str)) = false)
    (hN : X.N[v.i]? = some v.x) (hv : Vis X.env.scope v.x) (d1 : (v.x == ("__debug__" : Str)) = false) (d2 : (v.x == ("__classdict__" : Str)) = false) (hl : X.env.kindOf v.x = some .local)
    (hb : ∀ (W' : WX) (pn : List (Addr × Obj)) (xe : Value → Shared → Prop), L2N.Takes (X.tr pn xe) W' → PassesOwn (model X.prog X.w) X.A X.env xe → PSs (X.tr pn xe) b.py (tSs K ec C cf W' b fl fl')) :
    PS X (Sm.tryr b r np v pf pc pr ph p).py (tS K ec C cf W (.tryr b r np v pf pc pr ph p) fl fl') := by
  obtain ⟨f, fd, e, cx, m1, m2, m3, m4, m5⟩ := ref
  have nd : X.N.Nodup := by rw [g.hN]; exact g.nd
  have hr : L2H.RoomH 1 X.A := (L2H.roomH_of g.room).mono (Nat.le_add_left 1 k)
  refine psImp (L2N.ps_try_as (X := X) (x := r.x) (n := v.x) (c := .ref cx) (i := v.i) (tb := fun W' => tSs K ec C cf W' b fl fl')
    (ts := fun a cls d => fun E σ H => ∃ (c : Nat) (D : Addr) (n : Int), cls = .ref D ∧ d = none ∧ FnR P w K mg base f fd e D n ∧ σ[v.i]? = some (some (.ref a)) ∧ ∀ T H', Same H H' → H T = none → RfT H' T n → E.rt (.ref T) H')
    g.stk g.frm nd hN hl ⟨hx, hx', .inl (by rw [g.hm]; exact m4)⟩ g.tkS (fun W' pn xe tk po => hb W' pn xe tk po) fun a oe cls d pn hz hfs => ?_) ?_
  · refine ⟨fun pins s σ H E I z => ?_⟩
    obtain ⟨c, D, n, rfl, rfl, F, hs, z⟩ := z
    have F' : FnR X.prog X.w X.K X.mg X.base f fd e D n := by rw [g.hP, g.hw, g.hK, g.hm, g.hb]; exact F
    rw [show refPy r v pf pc = .Call (.Name r.f pf) [.Name v.x v.p] [] pc by unfold refPy; rw [hil]]
    refine (pss_cons (ps_ret (pos := pr) (pe_ref (pf := pf) (pv := v.p) (pc := pc) (a := a) (oe := oe) (pn := pn) (i := v.i) F' hr hz hfs hf (by rw [g.hm]; exact m1) (by rw [g.hK]; exact m2) (by rw [g.hK]; exact m3) hf' hN hv d1 d2)) pss_nil).run pins s σ H E I ?_
    exact ⟨hs, z⟩
  · rintro E σ H ⟨avC, H0, ow, env, fr, fo, q⟩
    refine ⟨avC, H0, ow, env, fr, fo, ?_⟩
    simp only [exe] at q
    cases eo : exes C cf b env with
    | nx env' => rw [eo] at q; exact q
    | ret d => rw [eo] at q; exact q
    | no => rw [eo] at q; exact q
    | ex c en =>
      rw [eo] at q
      simp only at q
      intro σ' H' ow' fr'
      cases et : r.tap[c]? with
      | none => rw [et] at q; exact (show False from q).elim
      | some t =>
        rw [et] at q
        obtain ⟨D, e1, e2, e3⟩ := m5 c t et
        refine ⟨t, by rw [e1, g.hK]; exact e2, fun ht a ha => ?_, fun ht => ?_⟩
        · subst ht
          have q : OKS K ec W avC H0 fl' ow H E (if v.i < en.length then .ret (refV r c) else .no) := q
          rw [show refV r c = refD (r.rt.getD c 0) by unfold refV; rw [hil]] at q
          by_cases hi : v.i < en.length
          case neg => rw [if_neg hi] at q; exact (show False from q).elim
          rw [if_pos hi] at q
          have hi : v.i < σ'.length := by rw [← fr'.er.len]; exact hi
          refine ⟨c, D, r.rt.getD c 0, e1, rfl, e3 rfl, List.getElem?_set_self hi, fun T H2 s2 hT h2 => ?_⟩
          refine q _ H2 (fr'.same.trans s2) (.tup (.inl ⟨h2, fun z => ?_⟩) (.cons (.str _) (.cons (.int _) .nil)))
          exact fr'.dom0 T z (none_of (fr'.same) hT)
        · subst ht
          have q : OKS K ec W avC H0 fl' ow H E (.ex c en) := q
          exact q σ' H' ow' fr'
/-- what such a clause tells -/
def hnV (h : HnE) (b : Bool) : V := match h.sel with
  | none => .bl b
  | some s => .str (if b = true then s.a else s.b)
theorem hn_rep {av : Av} {H : Hp} (h : HnE) (b : Bool) : Rep K av H (hnV h b) (h.val b) := by
  unfold hnV HnE.val
  cases h.sel with
  | none => exact .bl b
  | some s => exact .str _
def tIsI (i : Nat) (a : Addr) (b : Bool) : TE := fun σ H Q => σ[i]? = some (some (.ref a)) ∧ Q (.bl b) H
theorem s_tryrI {b : Sms} {r : RefE} {np : Pos} {v : Vn} {pf pc pr ph p : Pos} {N : List Str} (g : GoodS P w K mg base N (k + 1) X sc W) (hil : r.il ≠ none) (ref : RefIl K mg ec r) (hx : Gl X r.x) (hx' : (r.x == ("__debug__" : Str)) = false) (hf : Gl X r.f) (hf' : (r.f == ("__debug__" : Str)) = false) (hf2 : r.f ≠ "__name__") (hgi : Gl X "isinstance")
    (hN : X.N[v.i]? = some v.x) (hv : Vis X.env.scope v.x) (d1 : (v.x == ("__debug__" : Str)) = false) (d2 : (v.x == ("__classdict__" : Str)) = false) (hl : X.env.kindOf v.x = some .local)
    (hb : ∀ (W' : WX) (pn : List (Addr × Obj)) (xe : Value → Shared → Prop), L2N.Takes (X.tr pn xe) W' → PassesOwn (model X.prog X.w) X.A X.env xe → PSs (X.tr pn xe) b.py (tSs K ec C cf W' b fl fl')) :
    PS X (Sm.tryr b r np v pf pc pr ph p).py (tS K ec C cf W (.tryr b r np v pf pc pr ph p) fl fl') := by
  obtain ⟨h, hh⟩ : ∃ h, r.il = some h := by
    cases e : r.il with
    | none => exact absurd e hil
    | some h => exact ⟨h, rfl⟩
  obtain ⟨cx, m4, mi, m5⟩ := ref
  have nd : X.N.Nodup := by rw [g.hN]; exact g.nd
  refine psImp (L2N.ps_try_as (X := X) (x := r.x) (n := v.x) (c := .ref cx) (i := v.i) (tb := fun W' => tSs K ec C cf W' b fl fl')
    (ts := fun a cls d => fun E σ H => ∃ (D : Addr) (b : Bool), cls = .ref D ∧ d = none ∧ ExcC K D ∧ IsM K mg D (ilC r) b ∧ σ[v.i]? = some (some (.ref a)) ∧ E.rt (hnV h b) H)
    g.stk g.frm nd hN hl ⟨hx, hx', .inl (by rw [g.hm]; exact m4)⟩ g.tkS (fun W' pn xe tk po => hb W' pn xe tk po) fun a oe cls d pn hz hfs => ?_) ?_
  · refine ⟨fun pins s σ H E I z => ?_⟩
    obtain ⟨D, b, rfl, rfl, EC, im, hs, z⟩ := z
    have EC : ExcC X.K D := by rw [g.hK]; exact EC
    have hc : CallR (X.suite a ((a, oe) :: pn)) (.builtin "isinstance") (rIsE X.K D a) := call_isE EC hz.zc hfs
    have hmi : (X.suite a ((a, oe) :: pn)).mg "isinstance" = none := by show X.mg "isinstance" = none; rw [g.hm]; exact mi
    have pe : PE (X.suite a ((a, oe) :: pn)) (.Call (.Name "isinstance" pf) [.Name v.x v.p, .Name r.f h.pt] [] pc) (tIsI v.i a b) := by
      rcases im with ⟨cl, i1, i2⟩ | ⟨i1, i2, i3⟩
      · have i1 : (X.suite a ((a, oe) :: pn)).mg r.f = some (.ref cl) := by show X.mg r.f = _; rw [g.hm]; exact i1
        refine ⟨fun pins s σ H Q I z => ?_⟩
        refine (pe_callB hc hgi hmi (by decide +kernel) (pa_cons (pe_var (X := X.suite a ((a, oe) :: pn)) hN hv d1 d2) (pa_cons (pe_glob hf i1 (v := .ref cl) rfl hf') pa_nil rfl) rfl)).run pins s σ H Q I ?_
        exact ⟨_, z.1, .ref cl, .ref cl, b, rfl, fun u e => e, by show PySem.W.kitOne X.K _ _ = _; rw [g.hK]; exact i2, z.2⟩
      · have i1 : (X.suite a ((a, oe) :: pn)).mg r.f = none := by show X.mg r.f = _; rw [g.hm]; exact i1
        have i2 : r.f = "ValueError" := i2
        refine ⟨fun pins s σ H Q I z => ?_⟩
        refine (pe_callB hc hgi hmi (by decide +kernel) (pa_cons (pe_var (X := X.suite a ((a, oe) :: pn)) hN hv d1 d2) (pa_cons (pe_bltn hf i1 (by rw [i2]; decide +kernel) (v := .ty "ValueError") rfl hf2 hf') pa_nil rfl) rfl)).run pins s σ H Q I ?_
        exact ⟨_, z.1, .ty "ValueError", .type "ValueError", b, rfl, fun u e => e, by show PySem.W.kitOne X.K _ _ = _; rw [g.hK]; exact i3, z.2⟩
    cases hs2 : h.sel with
    | none =>
      have e1 : hnV h b = .bl b := by unfold hnV; rw [hs2]
      have e2 : refPy r v pf pc = .Call (.Name "isinstance" pf) [.Name v.x v.p, .Name r.f h.pt] [] pc := by unfold refPy; rw [hh]; simp only [hs2]
      rw [e1] at z
      rw [e2]
      exact (pss_cons (ps_ret (pos := pr) pe) pss_nil).run pins s σ H E I ⟨hs, z⟩
    | some q =>
      have e1 : hnV h b = .str (if b = true then q.a else q.b) := by unfold hnV; rw [hs2]
      have e2 : refPy r v pf pc = .IfExp (.Call (.Name "isinstance" pf) [.Name v.x v.p, .Name r.f h.pt] [] pc) (.Constant (.str q.a) q.k q.pa) (.Constant (.str q.b) q.k2 q.pb) q.pi := by unfold refPy; rw [hh]; simp only [hs2]
      rw [e1] at z
      rw [e2]
      refine (pss_cons (ps_ret (pos := pr) (pe_ifExp (pt_val pe) pe_str pe_str)) pss_nil).run pins s σ H E I ?_
      refine ⟨hs, b, rfl, ?_⟩
      cases b with
      | true => exact z
      | false => exact z
  · rintro E σ H ⟨avC, H0, ow, env, fr, fo, q⟩
    refine ⟨avC, H0, ow, env, fr, fo, ?_⟩
    simp only [exe] at q
    cases eo : exes C cf b env with
    | nx env' => rw [eo] at q; exact q
    | ret d => rw [eo] at q; exact q
    | no => rw [eo] at q; exact q
    | ex c en =>
      rw [eo] at q
      simp only at q
      intro σ' H' ow' fr'
      cases et : r.tap[c]? with
      | none => rw [et] at q; exact (show False from q).elim
      | some t =>
        rw [et] at q
        obtain ⟨D, e1, e2, e3⟩ := m5 c t et
        refine ⟨t, by rw [e1, g.hK]; exact e2, fun ht a ha => ?_, fun ht => ?_⟩
        · subst ht
          have q : OKS K ec W avC H0 fl' ow H E (if v.i < en.length then .ret (refV r c) else .no) := q
          rw [show refV r c = h.val (decide (r.rt.getD c 0 = 1)) by unfold refV; rw [hh]] at q
          by_cases hi : v.i < en.length
          case neg => rw [if_neg hi] at q; exact (show False from q).elim
          rw [if_pos hi] at q
          have hi : v.i < σ'.length := by rw [← fr'.er.len]; exact hi
          exact ⟨D, _, e1, rfl, (e3 rfl).1, (e3 rfl).2, List.getElem?_set_self hi, q _ H' fr'.same (hn_rep h _)⟩
        · subst ht
          have q : OKS K ec W avC H0 fl' ow H E (.ex c en) := q
          exact q σ' H' ow' fr'
theorem s_tryr {b : Sms} {r : RefE} {np : Pos} {v : Vn} {pf pc pr ph p : Pos} {N : List Str} (g : GoodS P w K mg base N (k + 1) X sc W) (ref : RefAt P w K mg base EN ec r) (hx : Gl X r.x) (hx' : (r.x == ("__debug__" : Str)) = false) (hf : Gl X r.f) (hf' : (r.f == ("__debug__" : Str)) = false) (hf2 : r.f ≠ "__name__") (hgi : r.il ≠ none → Gl X "isinstance")
    (hN : X.N[v.i]? = some v.x) (hv : Vis X.env.scope v.x) (d1 : (v.x == ("__debug__" : Str)) = false) (d2 : (v.x == ("__classdict__" : Str)) = false) (hl : X.env.kindOf v.x = some .local)
    (hb : ∀ (W' : WX) (pn : List (Addr × Obj)) (xe : Value → Shared → Prop), L2N.Takes (X.tr pn xe) W' → PassesOwn (model X.prog X.w) X.A X.env xe → PSs (X.tr pn xe) b.py (tSs K ec C cf W' b fl fl')) :
    PS X (Sm.tryr b r np v pf pc pr ph p).py (tS K ec C cf W (.tryr b r np v pf pc pr ph p) fl fl') := by
  by_cases h : r.il = none
  · exact s_tryrD g h (ref.1 h) hx hx' hf hf' hN hv d1 d2 hl hb
  · exact s_tryrI g h (ref.2 h) hx hx' hf hf' hf2 (hgi h) hN hv d1 d2 hl hb
/-- a slot that holds its list alone -/
theorem FR.mine {avC : Av} {H0 : Hp} {ow : Ow} {env : En} {σ : L2.St} {H : Hp} {i : Nat} {ds : List D} (f : FR K avC H0 ow env σ H) (fo : FlOk fl ow env) (hi : i ∈ fl) (e : env[i]? = some (some (.lst ds))) :
    ∃ a xs, ow i = some a ∧ σ[i]? = some (some (.ref a)) ∧ H a = some (.lst xs) ∧ Reps K (AV avC ow) H xs ds ∧ i < env.length := by
  obtain ⟨a, ha⟩ := fo i hi ds e
  obtain ⟨v, h1, h2, _⟩ := f.er.slot i _ e
  obtain ⟨b, xs, rfl, h3, h4⟩ := repW_lst h2
  rw [f.held i a ha] at h1
  cases h1
  exact ⟨a, xs, ha, f.held i a ha, h3, h4, (List.getElem?_eq_some_iff.mp e).1⟩
theorem FlOk.chg {ow : Ow} {env : En} {l : List Nat} {i : Nat} {d : D} {a : Addr} (fo : FlOk fl ow env) (ha : ow i = some a) : FlOk (rmL fl l) (drp ow l) (env.set i (some d)) := fun j hj ds e => by
  obtain ⟨h1, h2⟩ := mem_rmL hj
  rw [drp_in h2]
  by_cases ej : i = j
  · subst ej; exact ⟨a, ha⟩
  · rw [List.getElem?_set_ne ej] at e
    exact fo j h1 ds e
def rRemD (K : PySem.W.Frag) : V → List V → Hp → VK → Prop := fun x xs H Q => ∃ (a : Addr) (y : V) (d : PyData) (ds : List PyData) (j : Nat) (xs0 : List V), x = V.ref a ∧ xs = [y] ∧ H a = some (.lst xs0) ∧ Dp K H (V.ref a) (.list ds) ∧ Dp K H y d ∧
  SeqAt.shaped (.list ds) = true ∧ SeqAt.shaped d = true ∧ SeqAt.dataPlace ds d = some j ∧ Q .non (upd H a (.lst (xs0.eraseIdx j)))
theorem mt_remD (hu : X.A.units + 65 < cLine) : MtR X "list.remove" (rRemD X.K) := by
  intro pins s σ H x xs v us Q I rx rxs h
  obtain ⟨a, y, d, ds, j, xs0, rfl, rfl, hH, hl, hy, sl, sd, hj, q⟩ := h
  cases rx
  cases rxs with
  | cons ry rt =>
    rename_i uy ut
    cases rt
    obtain ⟨bs, r1⟩ := Dp.reads I d y uy hy ry
    have hxs : PyData.canLayAll0 ds = true := SeqAt.canLay_of_shaped sl
    have hroom : X.A.units + 1 + min (PyData.depthAll ds) d.depth < cLine := room_in_shaped sd hu
    cases hl with
    | lst hs ha =>
      obtain ⟨z, its, n, rv, hlen, e⟩ := I.lstM hH
      have hx := I.list_inj hs (SqL.of hH)
      subst hx
      obtain ⟨as, h4⟩ := Dp.readsAll I ds _ its ha rv
      refine SeqAt.remove_list_data (vs := its.toArray) ⟨_, e, rfl, n, rfl⟩ (by rw [List.toList_toArray]; exact h4) r1 (PyData.plainAll_of_canLay0 _ hxs) (PyData.plain_of_canLay0 _ (SeqAt.canLay_of_shaped sd)) hroom hj (by rw [List.size_toArray]; omega) ?_
      refine ⟨.non, _, I.lset (its' := its.eraseIdx j) hH e (by show its.toArray.eraseIdxIfInBounds j = _; rw [List.eraseIdxIfInBounds_toArray]) (rv.eraseIdx j) ?_, rfl, q⟩
      exact Nat.le_trans (len_erase _ _) z
theorem place_pds {x : D} {n m : Nat} (hx : sh n x = true) : ∀ {l : List D}, shs m l = true → SeqAt.dataPlace (pds l) (pd x) = indexD l x
  | [], _ => rfl
  | d :: l, h => by
    simp only [shs, Bool.and_eq_true] at h
    have ih := place_pds hx h.2
    unfold SeqAt.dataPlace indexD at ih ⊢
    simp only [pds, List.findIdx?_cons]
    rw [eqD_pd m n d x h.1 hx, ih]
theorem s_mut {m : Mm} {v : Vn} {e : Ex} {pa pc p : Pos} (hK : X.K = K) (hu : X.A.units + 65 < cLine) (hN : X.N[v.i]? = some v.x) (hv : Vis X.env.scope v.x) (n1 : (v.x == ("__debug__" : Str)) = false) (n2 : (v.x == ("__classdict__" : Str)) = false) (hl : (pa.endLine == pc.line) = true)
    (hin : v.i ∈ rmL fl (al e)) (he : PA X (Exs.cons e .nil).py (tAs K ec C cf W (.cons e .nil))) : PS X (Sm.mut m v e pa pc p).py (tS K ec C cf W (.mut m v e pa pc p) fl (rmL fl (al e))) := by
  have key : ∀ (r : V → List V → Hp → VK → Prop), (∀ (a : Addr) (xs ys : List V) (H : Hp) (Q : VK) (av : Av) (ds : List D) (d : D) (ds' : List D), H a = some (.lst xs) → Reps K av H xs ds → Reps K av H ys [d] → mutR m ds d = .ok ds' → (∀ xs', Reps K av H xs' ds' → Q .non (upd H a (.lst xs'))) → r (.ref a) ys H Q) →
      ∀ E σ H, tS K ec C cf W (.mut m v e pa pc p) fl (rmL fl (al e)) E σ H → tDrop (tBM X.K "list" r (tVar v.i) (tAs K ec C cf W (.cons e .nil))) E σ H := by
    rintro r hr E σ H ⟨avC, H0, ow, env, f, fo, q⟩
    simp only [exe, En.get] at q
    cases e1 : env[v.i]? with
    | none => rw [e1] at q; exact (show False from q).elim
    | some o =>
      rw [e1] at q
      cases o with
      | none => exact (show False from q).elim
      | some d0 =>
        cases d0 with
        | lst ds =>
          have q : OKS K ec W avC H0 (rmL fl (al e)) ow H E ((ev C cf e env).out env fun d => (mutR m ds d).out env fun l' => .nx (env.set v.i (some (.lst l')))) := q
          obtain ⟨a, xs, ha, hs, hH, rs, hlen⟩ := f.mine fo (mem_rmL hin).1 e1
          refine ⟨.ref a, hs, .inl ⟨rfl, xs, SqL.of hH⟩, avC, ow, env, f.er, ?_⟩
          have q2 := q.out f
          have eas : evs C cf (.cons e .nil) env = (ev C cf e env).bind fun x => .ok [x] := by
            simp only [evs]
            cases ev C cf e env <;> rfl
          rw [eas]
          cases ee : ev C cf e env with
          | no => rw [ee] at q2; exact (show False from q2).elim
          | ex c => rw [ee] at q2; exact q2
          | ok d =>
            rw [ee] at q2
            intro ys H2 s2 ry
            have q2 : OKS K ec W avC H0 (rmL fl (al e)) ow H E ((mutR m ds d).out env fun l' => .nx (env.set v.i (some (.lst l')))) := q2
            have ea : als (.cons e .nil) = al e := by simp [als]
            rw [ea] at ry
            cases em : mutR m ds d with
            | no => rw [em] at q2; exact (show False from q2).elim
            | ex c =>
              exfalso
              cases m with
              | append =>
                simp only [mutR] at em
                split at em <;> cases em
              | extend =>
                cases d with
                | lst r' =>
                  simp only [mutR] at em
                  split at em <;> cases em
                | _ => simp [mutR] at em
              | remove =>
                simp only [mutR] at em
                split at em
                · split at em <;> cases em
                · cases em
            | ok ds' =>
              rw [em] at q2
              refine hr a xs ys H2 _ (AV avC (drp ow (al e))) ds d ds' (s2 _ _ hH) ((rs.ext s2.ext).mono AV.all) ry em fun xs' r' => ?_
              obtain ⟨f2, st⟩ := (f.to s2).chg hlen ha (mem_rmL hin).2 r'
              exact q2 σ _ _ f2 (fo.chg ha) ((Step.same s2).trans st)
        | _ => exact (show False from q).elim
  have po := pe_var (X := X) (i := v.i) (x := v.x) (pos := v.p) hN hv n1 n2
  cases m with
  | remove =>
    refine psImp (ps_expr (pos := p) (pe_bm (X := X) (cpos := pc) (apos := pa) PySem.F.plainAttrs_list PySem.F.slot_list_remove PySem.F.type_list_remove (mt_remD hu) po he rfl (by rw [star1]; rfl) hl (star_ok e [] X.env) rfl) rfl) (key _ ?_)
    intro a xs ys H Q av ds d ds' h1 r1 r2 em q
    simp only [mutR] at em
    split at em
    · rename_i hs
      cases ei : indexD ds d with
      | none => rw [ei] at em; cases em
      | some j =>
        rw [ei] at em
        cases em
        cases r2 with
        | cons r2 t =>
          cases t
          refine ⟨a, _, pd d, pds ds, j, xs, rfl, rfl, h1, ?_, ?_, shs_shaped hs.1 (by decide), sh_shaped hs.2 (by decide), by rw [place_pds hs.2 hs.1, ei], q _ (r1.eraseIdx j)⟩
          · rw [hK]; exact .lst (SqL.of h1) (r1.dp (shs_nds _ _ hs.1))
          · rw [hK]; exact r2.dp (sh_nd _ _ hs.2)
    · cases em
  | append =>
    refine psImp (ps_expr (pos := p) (pe_bm (X := X) (cpos := pc) (apos := pa) PySem.F.plainAttrs_list PySem.F.slot_list_append PySem.F.type_list_append mt_append po he rfl (by rw [star1]; rfl) hl (star_ok e [] X.env) rfl) rfl) (key _ ?_)
    intro a xs ys H Q av ds d ds' h1 r1 r2 em q
    simp only [mutR] at em
    split at em
    · cases em
      cases r2 with
      | cons r2 t =>
        cases t
        exact ⟨a, xs, _, rfl, rfl, h1, by have := lim; rw [r1.length]; omega, q _ (r1.snoc r2)⟩
    · cases em
  | extend =>
    refine psImp (ps_expr (pos := p) (pe_bm (X := X) (cpos := pc) (apos := pa) PySem.F.plainAttrs_list PySem.F.slot_list_extend PySem.F.type_list_extend mt_extend po he rfl (by rw [star1]; rfl) hl (star_ok e [] X.env) rfl) rfl) (key _ ?_)
    intro a xs ys H Q av ds d ds' h1 r1 r2 em q
    cases r2 with
    | cons r2 t =>
      cases t
      cases d with
      | lst es =>
        simp only [mutR] at em
        split at em
        · cases em
          obtain ⟨b, zs, rfl, hb, _, rz⟩ := rep_lst r2
          exact ⟨a, b, xs, zs, rfl, rfl, h1, hb, by have := lim; rw [r1.length, rz.length]; omega, q _ (r1.append rz)⟩
        · cases em
      | _ => simp [mutR] at em
theorem s_setix {v : Vn} {i e : Ex} {ps p : Pos} (hN : X.N[v.i]? = some v.x) (hv : Vis X.env.scope v.x) (n1 : (v.x == ("__debug__" : Str)) = false) (n2 : (v.x == ("__classdict__" : Str)) = false)
    (hin : v.i ∈ rmL fl (al e)) (hi : PE X i.py (tE K ec C cf W i)) (he : PE X e.py (tE K ec C cf W e)) : PS X (Sm.setix v i ps e p).py (tS K ec C cf W (.setix v i ps e p) fl (rmL fl (al e))) := by
  have po := pe_var (X := X) (i := v.i) (x := v.x) (pos := v.p) hN hv n1 n2
  have hg : PG X (.Subscript v.py i.py ps) (gSub (tVar v.i) (tE K ec C cf W i) rSetL) := pg_sub po hi set_list (by intro u; cases i <;> rfl)
  refine psImp (ps_asg (pos := p) he hg (swaps_sub e _ _ _ _ _) (swapped_sub e _ _ _ _) rfl) ?_
  rintro E σ H ⟨avC, H0, ow, env, f, fo, q⟩
  simp only [exe, En.get] at q
  refine ⟨avC, ow, env, f.er, (q.out f).mono fun d q v' H' s _ r => ?_⟩
  cases e1 : env[v.i]? with
  | none => rw [e1] at q; exact (show False from q).elim
  | some o =>
    rw [e1] at q
    cases o with
    | none => exact (show False from q).elim
    | some d0 =>
      have q := OKS.out f q
      dsimp only [OUT] at q
      obtain ⟨v0, hs0, _, _⟩ := f.er.slot v.i d0 e1
      refine ⟨v0, hs0, avC, ow, env, f.er.same s, (OUT.same (q.out f) s).mono fun dk q v2 H2 s2 w2 _ => ?_⟩
      cases d0 with
      | lst ds =>
        cases dk with
        | int k =>
          obtain ⟨a, xs, ha, hs, hH, rs, hlen⟩ := f.mine fo (mem_rmL hin).1 e1
          rw [hs0] at hs
          cases hs
          cases w2
          cases ej : ixN ds.length k with
          | none => simp only [ej] at q; exact (show False from q).elim
          | some j =>
            simp only [ej] at q
            refine ⟨a, xs, k, j, rfl, rfl, s2 _ _ (s _ _ hH), by rw [rs.length]; exact ej, ?_⟩
            have r' : Reps K (AV avC (drp ow (al e))) H2 (xs.set j v') (ds.set j d) := Reps.set (r.ext s2.ext) j (((rs.ext s.ext).ext s2.ext).mono AV.all)
            obtain ⟨f2, st⟩ := (f.to (s.trans s2)).chg hlen ha (mem_rmL hin).2 r'
            exact q σ _ _ f2 (fo.chg ha) ((Step.same (s.trans s2)).trans st)
        | _ => exact (show False from q).elim
      | _ => exact (show False from q).elim
theorem drop_cons {α : Type} {l : List α} {i : Nat} (h : i < l.length) : l.drop i = l[i] :: l.drop (i + 1) := List.drop_eq_getElem_cons h
theorem s_loop {tg : Tg} {it : Itx} {b : Sms} {p : Pos} {y : List Nat} {f2 : List Nat} (hc : X.calm = true) (po : PassesOwn (model X.prog X.w) X.A X.env X.xe) (hnt : needT tg it = true) (hi : PI X tg.py it.py (tI K ec C cf W it)) (hg : PG X tg.py (tG K tg)) (hb : PSs X b.py (tSs K ec C cf W b f2 y))
    (h1 : ∀ i ∈ f2, i ∈ rmL fl (alv it ++ tgIx tg)) (h2 : ∀ i ∈ f2, i ∈ y) : PS X (Sm.loop tg it b p).py (tS K ec C cf W (.loop tg it b p) fl f2) := by
  refine psImp (ps_for (pos := p) po hc hi hg hb (fold_set it X.env)) ?_
  rintro E σ H ⟨avC, H0, ow, env, f, fo, q⟩
  simp only [exe] at q
  refine ⟨avC, ow, env, f.er, (q.out f).mono fun ds q J H1 G s wd g1 => ?_⟩
  have avI : ∀ (ow' : Ow) (H' : Hp), Step (drp ow (alv it)) H1 ow' H' → ∀ a, AV avC ow' a → Wid (AV avC (drp ow (ali it))) H1 a := by
    intro ow' H' st a h
    rcases h with h | ⟨i, h⟩
    · exact .inl (.inl h)
    · rcases st.grow i a h with h | h
      · obtain ⟨h, n⟩ := drp_some h
        exact .inl (.inr ⟨i, by rw [drp_in fun z => n (ali_alv it i z)]; exact h⟩)
      · exact .inr h
  have gs : ∀ (ow' : Ow) (H' : Hp), Step (drp ow (alv it)) H1 ow' H' → G H' := by
    intro ow' H' st
    refine wd.stab H1 H' g1 fun a o n e => st.keep a o e fun i h => n (.inl (.inr ⟨i, h⟩))
  refine for_it (J := J) (n := ds.length) (G := G) (Y := fun i H x H' => G H ∧ J.yld i H x H') ⟨fun i H hi g => wd.go i H hi g, wd.stop, fun i H x H' _ g y => ⟨g, y⟩⟩
    (fun i σ' H' => ∃ ow' env', FR K avC H0 ow' env' σ' H' ∧ FlOk f2 ow' env' ∧ Step (drp ow (alv it)) H1 ow' H' ∧ OKS K ec W avC H0 f2 ow' H' E (forGo (fun d en => match bindT tg d en with
      | some en' => exes C cf b en'
      | none => .no) (ds.drop i) env')) ?_ ?_ ?_ ?_
  · exact ⟨drp ow (alv it), env, (f.to s).drop _, (fo.sub fun i hi => (mem_rmL (h1 i hi)).1).drop fun i hi z => (mem_rmL (h1 i hi)).2 (List.mem_append_left _ z), Step.refl _ _, OKS.step q ((Step.same s).trans (Step.drp _ _ _))⟩
  · rintro i σ' H' _ ⟨ow', env', _, _, st, _⟩
    exact gs ow' H' st
  · rintro i x σ' H' H2 hi ⟨ow', env', f', fo', st, q'⟩ ⟨g, yl⟩
    obtain ⟨s2, yl⟩ := wd.yld i H' x H2 g yl
    rw [drop_cons hi] at q'
    simp only [forGo] at q'
    cases eb : bindT tg ds[i] env' with
    | none => simp only [eb] at q'; exact (show False from q').elim
    | some en =>
      simp only [eb] at q'
      have rx := yl ds[i] (List.getElem?_eq_getElem hi) (AV avC (drp ow' (tgIx tg))) (fun a h => avI ow' H' st a (AV.all a h)) (f'.er.dom' _)
      refine (f'.to s2).bindI (l := tgIx tg) (fun i hi => hi) hnt rx eb fun σ2 f3 => ?_
      refine ⟨avC, H0, drp ow' (tgIx tg), en, f3, ?_, ?_⟩
      · exact (fo'.drop fun j hj z => (mem_rmL (h1 j hj)).2 (List.mem_append_right _ z)).env fun j hj => bindT_get eb j fun z => (mem_rmL (h1 j hj)).2 (List.mem_append_right _ z)
      · have st2 : Step ow' H' (drp ow' (tgIx tg)) H2 := (Step.same s2).trans (Step.drp _ _ _)
        cases eo : exes C cf b en with
        | nx en2 =>
          rw [eo] at q'
          exact fun σ3 H3 ow3 f4 fo4 st4 => ⟨ow3, en2, f4, fo4.sub h2, st.trans (st2.trans st4), OKS.step q' (st2.trans st4)⟩
        | ret d => rw [eo] at q'; exact q'
        | ex c e' => rw [eo] at q'; exact q'
        | no => rw [eo] at q'; exact q'
  · rintro σ' H' ⟨ow', env', f', fo', st, q'⟩
    rw [List.drop_length] at q'
    simp only [forGo] at q'
    exact q' σ' H' ow' f' fo' (Step.refl _ _)
/-- for x in it: if c: return r -/
theorem s_lchk {tg : Tg} {it : Itx} {c : Ex} {r : Cn} {k : Nat} {pk pr pc p : Pos} (hc : X.calm = true) (po : PassesOwn (model X.prog X.w) X.A X.env X.xe) (hnt : needT tg it = true) (hi : PI X tg.py it.py (tI K ec C cf W it)) (hg : PG X tg.py (tG K tg)) (ht : PT X c.py (tT K ec C cf W c)) (hr : PE X (Ex.con r k pk).py (tE K ec C cf W (.con r k pk))) (hal : ali it = []) :
    PS X (Sm.lchk tg it c r k pk pr pc p).py (tS K ec C cf W (.lchk tg it c r k pk pr pc p) fl (rmL fl (tgIx tg))) := by
  refine psImp (ps_for (pos := p) po hc hi hg (pss_cons (ps_if (pos := pc) ht (pss_cons (ps_ret (pos := pr) hr) pss_nil) pss_nil) pss_nil) (fold_set it X.env)) ?_
  rintro E σ H ⟨avC, H0, ow, env, f, fo, q⟩
  simp only [exe] at q
  refine ⟨avC, ow, env, f.er, (q.out f).mono fun ds q J H1 G s wd g1 => ?_⟩
  have avI : ∀ a, AV avC (drp (drp ow (tgIx tg)) (tgIx tg)) a → Wid (AV avC (drp ow (ali it))) H1 a := by
    intro a h
    rw [hal, drp_nil]
    exact .inl (AV.all a (AV.all a h))
  have gs : ∀ H', Same H1 H' → G H' := fun H' st => wd.stab H1 H' g1 fun a o n e => st a o e
  have dd : drp (drp ow (tgIx tg)) (tgIx tg) = drp ow (tgIx tg) := by
    funext i
    unfold drp
    split <;> rfl
  refine for_it (J := J) (n := ds.length) (G := G) (Y := fun i H x H' => G H ∧ J.yld i H x H') ⟨fun i H hi g => wd.go i H hi g, wd.stop, fun i H x H' _ g y => ⟨g, y⟩⟩
    (fun i σ' H' => ∃ env', FR K avC H0 (drp ow (tgIx tg)) env' σ' H' ∧ FlOk (rmL fl (tgIx tg)) (drp ow (tgIx tg)) env' ∧ Same H1 H' ∧ OKS K ec W avC H0 (rmL fl (tgIx tg)) (drp ow (tgIx tg)) H' E (forGo (fun d en => match bindT tg d en with
      | some en' => (asB (ev C cf c en')).out en' fun t => if t = true then .ret r.d else .nx en'
      | none => .no) (ds.drop i) env')) ?_ ?_ ?_ ?_
  · exact ⟨env, (f.to s).drop _, (fo.sub fun i hi => (mem_rmL hi).1).drop fun i hi => (mem_rmL hi).2, Same.refl _, OKS.step q ((Step.same s).trans (Step.drp _ _ _))⟩
  · rintro i σ' H' _ ⟨env', _, _, sm, _⟩
    exact gs H' sm
  · rintro i x σ' H' H2 hi ⟨env', f', fo', sm, q'⟩ ⟨g, yl⟩
    obtain ⟨s2, yl⟩ := wd.yld i H' x H2 g yl
    rw [drop_cons hi] at q'
    simp only [forGo] at q'
    cases eb : bindT tg ds[i] env' with
    | none => simp only [eb] at q'; exact (show False from q').elim
    | some en =>
      simp only [eb] at q'
      have rx := yl ds[i] (List.getElem?_eq_getElem hi) (AV avC (drp (drp ow (tgIx tg)) (tgIx tg))) avI (f'.er.dom' _)
      refine (f'.to s2).bindI (l := tgIx tg) (fun i hi => hi) hnt rx eb fun σ2 f3 => ?_
      rw [dd] at f3
      have fo3 : FlOk (rmL fl (tgIx tg)) (drp ow (tgIx tg)) en := fo'.env fun j hj => bindT_get eb j fun z => (mem_rmL hj).2 z
      refine ⟨avC, drp ow (tgIx tg), en, f3.er, ?_⟩
      cases ec1 : asB (ev C cf c en) with
      | ok t =>
        rw [ec1] at q'
        intro H3 s3
        cases t with
        | true =>
          have q' : OKS K ec W avC H0 (rmL fl (tgIx tg)) (drp ow (tgIx tg)) H' E (.ret r.d) := q'
          refine itt ⟨avC, drp ow (tgIx tg), en, (f3.to s3).er, ?_⟩
          simp only [ev]
          intro v H4 s4 _ rr
          exact q' v H4 (((f3.to s3).to s4).same) (rr.mono fun a h => .inl h)
        | false =>
          have q' : OKS K ec W avC H0 (rmL fl (tgIx tg)) (drp ow (tgIx tg)) H' E (forGo _ (ds.drop (i + 1)) en) := q'
          refine itf ?_
          exact ⟨en, f3.to s3, fo3, sm.trans (s2.trans s3), OKS.step q' (Step.same (s2.trans s3))⟩
      | ex c1 =>
        rw [ec1] at q'
        have q' : OKS K ec W avC H0 (rmL fl (tgIx tg)) (drp ow (tgIx tg)) H' E (.ex c1 en) := q'
        exact fun H3 s3 => q' σ2 H3 _ (f3.to s3)
      | no =>
        rw [ec1] at q'
        exact (show False from q').elim
  · rintro σ' H' ⟨env', f', fo', sm, q'⟩
    rw [List.drop_length] at q'
    simp only [forGo] at q'
    exact q' σ' H' _ f' fo' (Step.refl _ _)
/-- for v in it: if c: w = v -/
theorem s_lsel {v w u : Vn} {it : Itx} {c : Ex} {pa pc p : Pos} (hc : X.calm = true) (po : PassesOwn (model X.prog X.w) X.A X.env X.xe) (hnt : needT (.name v) it = true) (hi : PI X (Tg.name v).py it.py (tI K ec C cf W it)) (hg : PG X (Tg.name v).py (tG K (.name v))) (ht : PT X c.py (tT K ec C cf W c))
    (hr : PS X (.Assign [w.py] (Ex.var u).py pa) (tAsg (tE K ec C cf W (.var u)) (gName w.i))) (hal : ali it = []) (hu : u.i = v.i) :
    PS X (Sm.lsel v it c w u pa pc p).py (tS K ec C cf W (.lsel v it c w u pa pc p) fl (rmL fl [v.i, w.i])) := by
  refine psImp (ps_for (pos := p) po hc hi hg (pss_cons (ps_if (pos := pc) ht (pss_cons hr pss_nil) pss_nil) pss_nil) (fold_set it X.env)) ?_
  rintro E σ H ⟨avC, H0, ow, env, f, fo, q⟩
  simp only [exe] at q
  refine ⟨avC, ow, env, f.er, (q.out f).mono fun ds q J H1 G s wd g1 => ?_⟩
  have avI : ∀ a, AV avC (drp (drp ow [v.i, w.i]) [v.i, w.i]) a → Wid (AV avC (drp ow (ali it))) H1 a := by
    intro a h
    rw [hal, drp_nil]
    exact .inl (AV.all a (AV.all a h))
  have gs : ∀ H', Same H1 H' → G H' := fun H' st => wd.stab H1 H' g1 fun a o n e => st a o e
  have dd : drp (drp ow [v.i, w.i]) [v.i, w.i] = drp ow [v.i, w.i] := by
    funext i
    unfold drp
    split <;> rfl
  refine for_it (J := J) (n := ds.length) (G := G) (Y := fun i H x H' => G H ∧ J.yld i H x H') ⟨fun i H hi g => wd.go i H hi g, wd.stop, fun i H x H' _ g y => ⟨g, y⟩⟩
    (fun i σ' H' => ∃ env', FR K avC H0 (drp ow [v.i, w.i]) env' σ' H' ∧ FlOk (rmL fl [v.i, w.i]) (drp ow [v.i, w.i]) env' ∧ Same H1 H' ∧ OKS K ec W avC H0 (rmL fl [v.i, w.i]) (drp ow [v.i, w.i]) H' E (forGo (fun d en => match bindT (.name v) d en with
      | some en' => (asB (ev C cf c en')).out en' fun t => if t = true then (ev C cf (.var u) en').out en' fun x => .nx (en'.set w.i (some x)) else .nx en'
      | none => .no) (ds.drop i) env')) ?_ ?_ ?_ ?_
  · exact ⟨env, (f.to s).drop _, (fo.sub fun i hi => (mem_rmL hi).1).drop fun i hi => (mem_rmL hi).2, Same.refl _, OKS.step q ((Step.same s).trans (Step.drp _ _ _))⟩
  · rintro i σ' H' _ ⟨env', _, _, sm, _⟩
    exact gs H' sm
  · rintro i x σ' H' H2 hi ⟨env', f', fo', sm, q'⟩ ⟨g, yl⟩
    obtain ⟨s2, yl⟩ := wd.yld i H' x H2 g yl
    rw [drop_cons hi] at q'
    simp only [forGo] at q'
    cases eb : bindT (.name v) ds[i] env' with
    | none => simp only [eb] at q'; exact (show False from q').elim
    | some en =>
      simp only [eb] at q'
      have rx := yl ds[i] (List.getElem?_eq_getElem hi) (AV avC (drp (drp ow [v.i, w.i]) [v.i, w.i])) avI (f'.er.dom' _)
      refine (f'.to s2).bindI (l := [v.i, w.i]) (fun i hi => by rw [show i = v.i from List.mem_singleton.mp hi]; exact List.mem_cons_self) hnt rx eb fun σ2 f3 => ?_
      rw [dd] at f3
      have fo3 : FlOk (rmL fl [v.i, w.i]) (drp ow [v.i, w.i]) en := fo'.env fun j hj => bindT_get eb j fun z => (mem_rmL hj).2 (by rw [show j = v.i from List.mem_singleton.mp z]; exact List.mem_cons_self)
      refine ⟨avC, drp ow [v.i, w.i], en, f3.er, ?_⟩
      cases ec1 : asB (ev C cf c en) with
      | ok t =>
        rw [ec1] at q'
        intro H3 s3
        cases t with
        | true =>
          have q' : OKS K ec W avC H0 (rmL fl [v.i, w.i]) (drp ow [v.i, w.i]) H' E (match (ev C cf (.var u) en).out en fun x => .nx (en.set w.i (some x)) with
            | .nx env' => forGo _ (ds.drop (i + 1)) env'
            | .ret r => .ret r
            | .ex c en => .ex c en
            | .no => .no) := q'
          refine itt ⟨avC, drp ow [v.i, w.i], en, (f3.to s3).er, ?_⟩
          cases ev1 : ev C cf (.var u) en with
          | ok d =>
            rw [ev1] at q'
            intro x' H4 s4 _ rr
            refine ⟨en.set w.i (some d), ?_, ?_, sm.trans (s2.trans (s3.trans s4)), OKS.step q' (Step.same (s2.trans (s3.trans s4)))⟩
            · have := ((f3.to s3).to s4).asg (l := [v.i, w.i]) (i := w.i) (by simp) (rr.mono fun a h => by
                rw [dd] at h
                rcases h with h | ⟨j, h⟩
                · exact .inl h
                · refine .inr ⟨j, ?_⟩
                  rw [drp_in]
                  · exact h
                  · intro z
                    have : j = v.i := by rw [show j = u.i from List.mem_singleton.mp z]; exact hu
                    exact (drp_some h).2 (by rw [this]; exact List.mem_cons_self))
              rw [dd] at this
              exact this
            · exact fo3.env fun j hj => by
                rw [List.getElem?_set_ne]
                intro z
                exact (mem_rmL hj).2 (by rw [← z]; simp)
          | ex c1 =>
            exfalso
            simp only [ev, En.get] at ev1
            split at ev1 <;> cases ev1
          | no =>
            rw [ev1] at q'
            exact (show False from q').elim
        | false =>
          have q' : OKS K ec W avC H0 (rmL fl [v.i, w.i]) (drp ow [v.i, w.i]) H' E (forGo _ (ds.drop (i + 1)) en) := q'
          refine itf ?_
          exact ⟨en, f3.to s3, fo3, sm.trans (s2.trans s3), OKS.step q' (Step.same (s2.trans s3))⟩
      | ex c1 =>
        rw [ec1] at q'
        have q' : OKS K ec W avC H0 (rmL fl [v.i, w.i]) (drp ow [v.i, w.i]) H' E (.ex c1 en) := q'
        exact fun H3 s3 => q' σ2 H3 _ (f3.to s3)
      | no =>
        rw [ec1] at q'
        exact (show False from q').elim
  · rintro σ' H' ⟨env', f', fo', sm, q'⟩
    rw [List.drop_length] at q'
    simp only [forGo] at q'
    exact q' σ' H' _ f' fo' (Step.refl _ _)
theorem s_whil {c : Ex} {b : Sms} {p : Pos} {y : List Nat} {f2 : List Nat} (po : PassesOwn (model X.prog X.w) X.A X.env X.xe) (hc : PT X c.py (tT K ec C cf W c)) (hb : PSs X b.py (tSs K ec C cf W b f2 y))
    (h1 : ∀ i ∈ f2, i ∈ fl) (h2 : ∀ i ∈ f2, i ∈ y) : PS X (Sm.whil c b p).py (tS K ec C cf W (.whil c b p) fl f2) := by
  refine psImp (ps_while (pos := p) po hc hb) ?_
  rintro E σ H ⟨avC, H0, ow, env, f, fo, q⟩
  simp only [exe] at q
  refine ⟨fun m σ' H' => ∃ ow' env', FR K avC H0 ow' env' σ' H' ∧ FlOk f2 ow' env' ∧ OKS K ec W avC H0 f2 ow' H' E (whileGo (fun en => asB (ev C cf c en)) (fun en => exes C cf b en) m env'), ⟨10000, ow, env, f, fo.sub h1, q⟩, ?_⟩
  rintro m σ' H' ⟨ow', env', f', fo', q'⟩
  cases m with
  | zero => simp only [whileGo] at q'; exact (show False from q').elim
  | succ m =>
    simp only [whileGo] at q'
    refine ⟨avC, ow', env', f'.er, (q'.out f').mono fun t q' H2 s2 => ?_⟩
    cases t with
    | false =>
      have q' : OKS K ec W avC H0 f2 ow' H' E (.nx env') := q'
      exact itf (q' σ' H2 ow' (f'.to s2) fo' (Step.same s2))
    | true =>
      refine itt ⟨fun σ3 H3 => ∃ ow3 env3, FR K avC H0 ow3 env3 σ3 H3 ∧ FlOk f2 ow3 env3 ∧ OKS K ec W avC H0 f2 ow3 H3 E (whileGo (fun en => asB (ev C cf c en)) (fun en => exes C cf b en) m env3), fun σ3 H3 h => ⟨m, Nat.lt_succ_self m, h⟩, ?_⟩
      refine ⟨avC, H0, ow', env', f'.to s2, fo', ?_⟩
      cases eo : exes C cf b env' with
      | nx en2 =>
        simp only [eo] at q'
        have q' : OKS K ec W avC H0 f2 ow' H' E (whileGo (fun en => asB (ev C cf c en)) (fun en => exes C cf b en) m en2) := q'
        exact fun σ3 H3 ow3 f4 fo4 st4 => ⟨ow3, en2, f4, fo4.sub h2, OKS.step q' ((Step.same s2).trans st4)⟩
      | ret d => simp only [eo] at q'; exact q'
      | ex c e' => simp only [eo] at q'; exact q'
      | no => simp only [eo] at q'; exact q'
end
end
end Li

/-! every def keeps its promise -/
namespace Li
open PySem PySem.Spec L2
open PyProof.Rows hiding St
section
variable {P : Program} {w : World} {K : PySem.W.Frag} {mg : Str → Option Value} {base : Heap} {CN : List Str} {C : List D} {T : List Fn} {EN : List Str} {RN : List RefE} {ec : Nat → Value} {k : Nat} {cf : Nat → List D → Res D} {N : List Str}
theorem GoodS.tg {X : Cx} {sc : Scope} {W : WX} (g : GoodS P w K mg base N k X sc W) {tg : Tg} (h : okTg N sc tg = true) : PG X tg.py (tG K tg) := by
  refine s_tg g.hK g.calm g.toGood.nod fun v hv => ?_
  have hv' : okT N sc v = true := by
    cases tg with
    | name u => rw [show v = u from hv]; exact h
    | tup vs _ _ => exact List.all_eq_true.mp h v hv
  unfold okT at hv'
  simp only [Bool.and_eq_true, decide_eq_true_eq] at hv'
  rw [g.hN, g.hs]
  exact ⟨hv'.1.1, loc_of hv'.1.2, .inl (g.fn _)⟩
mutual
theorem sound_st (top : Top P w K mg base CN C T EN ec) (tr : ∀ r ∈ RN, RefAt P w K mg base EN ec r) (fns : Fns P w K mg base T ec (k + 1) cf) : ∀ (s : Sm) (X : Cx) (sc : Scope) (W : WX) (fl fl' : List Nat), GoodS P w K mg base N (k + 1) X sc W → wfS CN (T.map fun F => (F.nm, F.ps.length)) EN RN N sc s = true → ck s fl = some fl' →
    PS X s.py (tS K ec C cf W s fl fl')
  | .asg v e p, X, sc, W, fl, fl', g, h, c => by
    simp only [wfS] at h
    obtain ⟨h1, h3⟩ := wand h
    obtain ⟨h1, h2⟩ := wand h1
    have okv := h1
    unfold okT at h1
    simp only [Bool.and_eq_true, decide_eq_true_eq] at h1
    obtain ⟨⟨n1, n2⟩, n3⟩ := h1
    obtain ⟨d1, d2, d3⟩ := nm_debug n3
    have hN : X.N[v.i]? = some v.x := by rw [g.hN]; exact n1
    have hL : Loc X.env.scope v.x := by rw [g.hs]; exact loc_of n2
    simp only [ck] at c
    obtain ⟨k1, k2, k3⟩ := sound_e top fns e X sc W g.toGood h2
    by_cases hcell : sc.names.lookup v.x = some .cell
    · have sw := fun l => swaps_cell (e := e) (py := v.p) (l := l) (env := X.env) (y := v.x) (by rw [g.hs]; exact hcell)
      by_cases hf : fresh e = true
      · rw [if_pos hf] at c
        cases c
        exact s_asgF (ps_set (pos := p) (pos' := v.p) g.toGood.nod hN hL (k3 hf) (sw _) (.inl (g.fn _)))
      · rw [if_neg hf] at c
        cases c
        exact s_asgK (by simpa using hf) (ps_set (pos := p) (pos' := v.p) g.toGood.nod hN hL k1 (sw _) (.inl (g.fn _)))
    by_cases hlc : isLc e = true
    · cases e with
      | lc elt tg it ifs scope own p' =>
        have c : some (v.i :: rmL fl (v.i :: al (.lc elt tg it ifs scope own p'))) = some fl' := c
        cases c
        simp only [asgOk, hcell, decide_false, Bool.false_or] at h3
        obtain ⟨h3, a3⟩ := wand h3
        obtain ⟨a1, a2⟩ := wand h3
        simp only [wf] at h2
        obtain ⟨h1, h7⟩ := wand h2
        obtain ⟨h1, h6⟩ := wand h1
        obtain ⟨h1, h5⟩ := wand h1
        obtain ⟨h1, h4⟩ := wand h1
        obtain ⟨h1, h3⟩ := wand h1
        obtain ⟨h1, h2⟩ := wand h1
        have ok := blkOk_by h1
        refine s_asgF (s_setLc (v := v) (sp := p) g.tk g.hK g.calm g.toGood.nod h3 (sound_i top fns it X sc W g.toGood h7 tg h3) (by rw [g.hN, g.hs]; exact ok) hN (by rw [g.hs]; exact of_decide_eq_true a1) (by rw [g.hs]; exact g.kind) a2 (by simpa using a3) (fun i hi => of_decide_eq_true (List.all_eq_true.mp h4 i hi))
          (tgs_blk g.toGood ok h2) (fun c e σ s H C' cl fp xe tk => (sound_o top fns ifs _ _ _ (g.toGood.bx ok tk) h6 c e).2) (fun σ s H C' cl fp xe tk => (sound_e top fns elt _ _ _ (g.toGood.bx ok tk) h5).1))
      | _ => cases hlc
    · have hlc : isLc e = false := by simpa using hlc
      by_cases hf : fresh e = true
      · rw [if_pos hf] at c
        cases c
        exact s_asgF (ps_set (pos := p) (pos' := v.p) g.toGood.nod hN hL (k3 hf) (swaps_no hlc _ _ _) (.inl (g.fn _)))
      · rw [if_neg hf] at c
        cases c
        exact s_asgK (by simpa using hf) (ps_set (pos := p) (pos' := v.p) g.toGood.nod hN hL k1 (swaps_no hlc _ _ _) (.inl (g.fn _)))
  | .asgt vs kk pt e p, X, sc, W, fl, fl', g, h, c => by
    simp only [wfS] at h
    obtain ⟨h1, h3⟩ := wand h
    obtain ⟨h1, h2⟩ := wand h1
    simp only [ck] at c
    cases c
    exact s_asgt (by simpa using h3) (sound_e top fns e X sc W g.toGood h2).1 (g.tg (tg := .tup vs kk pt) h1)
  | .setix v i ps e p, X, sc, W, fl, fl', g, h, c => by
    simp only [wfS] at h
    obtain ⟨h1, h3⟩ := wand h
    obtain ⟨h1, h2⟩ := wand h1
    unfold okV at h1
    simp only [Bool.and_eq_true, decide_eq_true_eq] at h1
    obtain ⟨⟨n1, n2⟩, n3⟩ := h1
    obtain ⟨d1, d2, d3⟩ := nm_debug n3
    simp only [ck] at c
    split at c
    · cases c
      exact s_setix (by rw [g.hN]; exact n1) (g.toGood.vis n2) d1 d2 (by assumption) (sound_e top fns i X sc W g.toGood h2).1 (sound_e top fns e X sc W g.toGood h3).1
    · cases c
  | .mut m v e pa pc p, X, sc, W, fl, fl', g, h, c => by
    simp only [wfS] at h
    obtain ⟨h1, h3⟩ := wand h
    obtain ⟨h1, h2⟩ := wand h1
    unfold okV at h1
    simp only [Bool.and_eq_true, decide_eq_true_eq] at h1
    obtain ⟨⟨n1, n2⟩, n3⟩ := h1
    obtain ⟨d1, d2, d3⟩ := nm_debug n3
    simp only [ck] at c
    split at c
    · cases c
      exact s_mut g.hK g.toGood.units (by rw [g.hN]; exact n1) (g.toGood.vis n2) d1 d2 h3 (by assumption) (s_cons (sound_e top fns e X sc W g.toGood h2).1 s_nil)
    · cases c
  | .expr e p, X, sc, W, fl, fl', g, h, c => by
    simp only [wfS] at h
    obtain ⟨h1, h2⟩ := wand h
    simp only [ck] at c
    cases c
    exact s_expr (by simpa using h2) (sound_e top fns e X sc W g.toGood h1).1
  | .ret e p, X, sc, W, fl, fl', g, h, c => by
    simp only [wfS] at h
    simp only [ck] at c
    cases c
    exact s_ret (sound_e top fns e X sc W g.toGood h).1
  | .cond e a b p, X, sc, W, fl, fl', g, h, c => by
    simp only [wfS] at h
    obtain ⟨h1, h3⟩ := wand h
    obtain ⟨h1, h2⟩ := wand h1
    simp only [ck] at c
    cases ca : cks a fl with
    | none => rw [ca] at c; cases c
    | some x =>
      cases cb : cks b fl with
      | none => rw [ca, cb] at c; cases c
      | some y =>
        rw [ca, cb] at c
        cases c
        exact s_cond (sound_e top fns e X sc W g.toGood h1).2.1 (sound_sts top tr fns a X sc W fl x g h2 ca) (sound_sts top tr fns b X sc W fl y g h3 cb)
  | .lchk tg it e r k pk pr pc p, X, sc, W, fl, fl', g, h, c => by
    simp only [wfS] at h
    obtain ⟨h1, h5⟩ := wand h
    obtain ⟨h1, h4⟩ := wand h1
    obtain ⟨h1, h3⟩ := wand h1
    obtain ⟨h1, h2⟩ := wand h1
    simp only [ck] at c
    cases c
    exact s_lchk g.calm g.po h2 (sound_i top fns it X sc W g.toGood h3 tg h2) (g.tg h1) (sound_e top fns e X sc W g.toGood h4).2.1 (sound_e top fns (.con r k pk) X sc W g.toGood rfl).1 (by simpa using h5)
  | .loop tg it b p, X, sc, W, fl, fl', g, h, c => by
    simp only [wfS] at h
    obtain ⟨h1, h4⟩ := wand h
    obtain ⟨h1, h3⟩ := wand h1
    obtain ⟨h1, h2⟩ := wand h1
    simp only [ck] at c
    cases ca : cks b (rmL fl (alv it ++ tgIx tg)) with
    | none => rw [ca] at c; cases c
    | some x =>
      rw [ca] at c
      have c : (cks b (meetL (rmL fl (alv it ++ tgIx tg)) x)).bind _ = some fl' := c
      cases cb : cks b (meetL (rmL fl (alv it ++ tgIx tg)) x) with
      | none => rw [cb] at c; cases c
      | some y =>
        rw [cb] at c
        simp only [Option.bind_some] at c
        split at c
        · rename_i hall
          cases c
          refine s_loop g.calm g.po h2 (sound_i top fns it X sc W g.toGood h3 tg h2) (g.tg h1) (sound_sts top tr fns b X sc W _ y g h4 cb) (fun i hi => (mem_meetL hi).1) fun i hi => ?_
          have := List.all_eq_true.mp hall i hi
          simpa using this
        · cases c
  | .lsel v it e w' u pa pc p, X, sc, W, fl, fl', g, h, c => by
    simp only [wfS] at h
    obtain ⟨h1, h8⟩ := wand h
    obtain ⟨h1, h7⟩ := wand h1
    obtain ⟨h1, h6⟩ := wand h1
    obtain ⟨h1, h5⟩ := wand h1
    obtain ⟨h1, h4⟩ := wand h1
    obtain ⟨h1, h3⟩ := wand h1
    obtain ⟨h1, h2⟩ := wand h1
    simp only [ck] at c
    cases c
    unfold okT at h6
    simp only [Bool.and_eq_true, decide_eq_true_eq] at h6
    obtain ⟨⟨n1, n2⟩, n3⟩ := h6
    have hN : X.N[w'.i]? = some w'.x := by rw [g.hN]; exact n1
    have hL : Loc X.env.scope w'.x := by rw [g.hs]; exact loc_of n2
    have k1 := (sound_e top fns (.var u) X sc W g.toGood h7).1
    exact s_lsel g.calm g.po h2 (sound_i top fns it X sc W g.toGood h3 (.name v) h2) (g.tg (tg := .name v) h1) (sound_e top fns e X sc W g.toGood h4).2.1 (ps_set (pos := pa) (pos' := w'.p) g.toGood.nod hN hL k1 (swaps_no rfl _ _ _) (.inl (g.fn _))) (by simpa using h5) (of_decide_eq_true h8)
  | .whil e b p, X, sc, W, fl, fl', g, h, c => by
    simp only [wfS] at h
    obtain ⟨h1, h2⟩ := wand h
    simp only [ck] at c
    cases ca : cks b fl with
    | none => rw [ca] at c; cases c
    | some x =>
      rw [ca] at c
      have c : (cks b (meetL fl x)).bind _ = some fl' := c
      cases cb : cks b (meetL fl x) with
      | none => rw [cb] at c; cases c
      | some y =>
        rw [cb] at c
        simp only [Option.bind_some] at c
        split at c
        · rename_i hall
          cases c
          refine s_whil g.po (sound_e top fns e X sc W g.toGood h1).2.1 (sound_sts top tr fns b X sc W _ y g h2 cb) (fun i hi => (mem_meetL hi).1) fun i hi => ?_
          have := List.all_eq_true.mp hall i hi
          simpa using this
        · cases c
  | .rais n x m kk px pm pc p, X, sc, W, fl, fl', g, h, c => by
    simp only [wfS] at h
    obtain ⟨h1, h3⟩ := wand h
    obtain ⟨h1, h2⟩ := wand h1
    simp only [ck] at c
    cases c
    obtain ⟨cl, e1, e2, e3, e4, e5, e6⟩ := top.exc n x (of_decide_eq_true h1)
    obtain ⟨d1, d2, d3⟩ := nm_debug h3
    exact s_rais g.calm g.tkS e1 (by rw [g.hK]; exact e3) (by rw [g.hm]; exact e2) (by rw [g.hK]; exact e4) (by rw [g.hK]; exact e5) (by rw [g.hK]; exact e6) (g.toGood.gl h2) d1
  | .pass p, X, sc, W, fl, fl', g, h, c => by
    simp only [ck] at c
    cases c
    exact s_pass
  | .tryr b r np v pf pc pr ph p, X, sc, W, fl, fl', g, h, c => by
    simp only [wfS] at h
    obtain ⟨h1, h9⟩ := wand h
    obtain ⟨h1, h8⟩ := wand h1
    obtain ⟨h1, h7⟩ := wand h1
    obtain ⟨h1, h6⟩ := wand h1
    obtain ⟨h1, h5⟩ := wand h1
    obtain ⟨h1, h4⟩ := wand h1
    obtain ⟨h1, h3⟩ := wand h1
    obtain ⟨h1, h2⟩ := wand h1
    simp only [ck] at c
    unfold okV at h7
    simp only [Bool.and_eq_true, decide_eq_true_eq] at h7
    obtain ⟨⟨n1, n2⟩, n3⟩ := h7
    obtain ⟨d1, d2, d3⟩ := nm_debug n3
    exact s_tryr g (tr r (of_decide_eq_true h2)) (g.toGood.gl h3) (nm_debug h4).1 (g.toGood.gl h5) (nm_debug h6).1 (nm_debug h6).2.2 (fun hn => g.toGood.gl (by cases e : r.il with | none => exact absurd e hn | some q => rw [e] at h9; exact h9)) (by rw [g.hN]; exact n1) (g.toGood.vis n2) d1 d2 (by show X.env.scope.names.lookup v.x = _; rw [g.hs]; exact of_decide_eq_true h8) fun W' pn xe tk po => sound_sts top tr fns b (X.tr pn xe) sc W' fl fl' (g.tr tk po) h1 c
theorem sound_sts (top : Top P w K mg base CN C T EN ec) (tr : ∀ r ∈ RN, RefAt P w K mg base EN ec r) (fns : Fns P w K mg base T ec (k + 1) cf) : ∀ (s : Sms) (X : Cx) (sc : Scope) (W : WX) (fl fl' : List Nat), GoodS P w K mg base N (k + 1) X sc W → wfSs CN (T.map fun F => (F.nm, F.ps.length)) EN RN N sc s = true → cks s fl = some fl' →
    PSs X s.py (tSs K ec C cf W s fl fl')
  | .nil, X, sc, W, fl, fl', g, h, c => by
    simp only [cks] at c
    cases c
    exact s_snil
  | .cons s r, X, sc, W, fl, fl', g, h, c => by
    simp only [wfSs] at h
    obtain ⟨h1, h2⟩ := wand h
    simp only [cks] at c
    cases ca : ck s fl with
    | none => rw [ca] at c; cases c
    | some x =>
      rw [ca] at c
      exact s_scons (sound_st top tr fns s X sc W fl x g h1 ca) (sound_sts top tr fns r X sc W x fl' g h2 c)
end
/-- a def as it stands in the module -/
def FnAt (K : PySem.W.Frag) (mg : Str → Option Value) (CN : List Str) (TN : List (Str × Nat)) (EN : List Str) (RN : List RefE) (F : Fn) : Prop :=
  ∃ f fd qual params scope fl', mg F.nm = some (.ref f) ∧ FunD K F.nm qual params F.body.py scope [] [] f fd ∧ L2.Binds K fd F.ps [] ∧ FnScope F.names F.ps scope ∧ wfSs CN TN EN RN F.names scope F.body = true ∧ cks F.body [] = some fl'
theorem Reps.some_get {av : Av} {H : Hp} : ∀ {vs : List V} {ds : List D} (m : Nat) (i : Nat) (d : D), Reps K av H vs ds → (ds.map some ++ List.replicate m none)[i]? = some (some d) → ∃ v, (vs.map some ++ List.replicate m none)[i]? = some (some v) ∧ Rep K av H v d
  | [], [], m, i, d, .nil, h => by
    exfalso
    simp only [List.map_nil, List.nil_append] at h
    obtain ⟨h1, h2⟩ := List.getElem?_eq_some_iff.mp h
    rw [List.getElem_replicate] at h2
    cases h2
  | v :: vs, e :: ds, m, 0, d, .cons r rs, h => by
    simp at h
    subst h
    exact ⟨v, by simp, r⟩
  | v :: vs, e :: ds, m, i + 1, d, .cons r rs, h => by
    obtain ⟨u, h1, h2⟩ := Reps.some_get m i d rs (by simpa using h)
    exact ⟨u, by simpa using h1, h2⟩
theorem fr_start {av : Av} {H : Hp} {F : Fn} {vs : List V} {ds : List D} (dm : Dom av H) (r : Reps K av H vs ds) : FR K av H (fun _ => none) (startD F ds) (L2.start F.names vs) H := by
  have hav : ∀ l a, AV av (drp (fun _ => none) l) a → av a := by
    rintro l a (h | ⟨i, h⟩)
    · exact h
    · have := (drp_some h).1
      cases this
  have hav0 : ∀ a, AV av (fun _ => none) a → av a := by
    rintro a (h | ⟨i, h⟩)
    · exact h
    · cases h
  refine ⟨⟨fun a h => dm a (hav0 a h), ?_, fun i d h => ?_⟩, Same.refl H, dm, fun i a h => (nomatch h), fun i j a h => (nomatch h), fun i a h => (nomatch h)⟩
  · unfold startD L2.start
    rw [List.length_append, List.length_append, List.length_map, List.length_map, List.length_replicate, List.length_replicate, r.length]
  · unfold startD at h
    unfold L2.start
    rw [r.length]
    obtain ⟨v, h1, h2⟩ := Reps.some_get (F.names.length - ds.length) i d r h
    exact ⟨v, h1, h2.w.mono hav0, h2.mono (hav [i])⟩
theorem fns_zero (h : ∀ (n : Nat) (F : Fn), T[n]? = some F → FnAt K mg CN (T.map fun F => (F.nm, F.ps.length)) EN RN F) : Fns P w K mg base T ec 1 (callF C T 0) := by
  intro n F hF
  obtain ⟨f, fd, qual, params, scope, fl', h1, h2, h3, h4, h5, h6⟩ := h n F hF
  refine ⟨f, fd, h1, h2.kp, h3, ⟨fun vs H Q E z => z.1, fun A outer s H args us vs Q E _ _ _ _ z => ?_⟩⟩
  obtain ⟨_, av, ds, _, _, z⟩ := z
  simp only [callF] at z
theorem fn_step {f : Addr} {fd : FuncData} {qual : Str} {params : Arguments} {scope : Scope} {n : Nat} {F : Fn} {fl' : List Nat} (top : Top P w K mg base CN C T EN ec) (tr : ∀ r ∈ RN, RefAt P w K mg base EN ec r) (ih : Fns P w K mg base T ec (k + 1) (callF C T k)) (hF : T[n]? = some F) (h2 : FunD K F.nm qual params F.body.py scope [] [] f fd)
    (h4 : FnScope F.names F.ps scope) (h5 : wfSs CN (T.map fun F => (F.nm, F.ps.length)) EN RN F.names scope F.body = true) (h6 : cks F.body [] = some fl') : FnOk P w K mg base (L2N.CX P w) (k + 1 + 1) f fd F.ps (spF K ec (callF C T (k + 1)) F.ps.length n) := by
  refine h2.ok h4 (fun vs H Q E z => z.1) fun cdv A outer s H vs Q E hr z => ?_
  obtain ⟨hl, av, ds, dm, r, z⟩ := z
  let X := cxOf (L2N.CX P w) P w K mg base F.names qual scope f cdv A outer s H E
  have g : GoodS P w K mg base F.names (k + 1) X scope (fun cls d _ H => E cls d H) :=
    ⟨⟨rfl, rfl, rfl, rfl, rfl, rfl, rfl, h4.nd, rfl, h4.kind, hr, tkf_of rfl rfl (L2N.takes_of rfl rfl rfl rfl)⟩, fun _ => rfl, rfl, rfl, passes_of rfl, L2N.takes_of rfl rfl rfl rfl⟩
  refine ⟨_, sound_sts top tr ih F.body X scope _ [] fl' g h5 h6, av, H, fun _ => none, startD F ds, fr_start dm r, fun i hi => (nomatch hi), ?_⟩
  have hds : ds.length = F.ps.length := by rw [← r.length]; exact hl
  simp only [callF, hF, hds, if_true] at z
  cases eo : exes C (callF C T k) F.body (startD F ds) with
  | nx en =>
    rw [eo] at z
    exact fun σ' H' ow' f _ _ => z .non H' f.same .non
  | ret d =>
    rw [eo] at z
    exact fun v H' s r => z v H' s r
  | ex c en =>
    rw [eo] at z
    exact fun σ' H' ow' f => z H' f.same
  | no => rw [eo] at z; exact z
theorem fns_succ (top : Top P w K mg base CN C T EN ec) (tr : ∀ r ∈ RN, RefAt P w K mg base EN ec r) (h : ∀ (n : Nat) (F : Fn), T[n]? = some F → FnAt K mg CN (T.map fun F => (F.nm, F.ps.length)) EN RN F) (ih : Fns P w K mg base T ec (k + 1) (callF C T k)) : Fns P w K mg base T ec (k + 1 + 1) (callF C T (k + 1)) := by
  intro n F hF
  obtain ⟨f, fd, qual, params, scope, fl', h1, h2, h3, h4, h5, h6⟩ := h n F hF
  exact ⟨f, fd, h1, h2.kp, h3, fn_step top tr ih hF h2 h4 h5 h6⟩
theorem fns_all (top : Top P w K mg base CN C T EN ec) (tr : ∀ r ∈ RN, RefAt P w K mg base EN ec r) (h : ∀ (n : Nat) (F : Fn), T[n]? = some F → FnAt K mg CN (T.map fun F => (F.nm, F.ps.length)) EN RN F) : ∀ k, Fns P w K mg base T ec (k + 1) (callF C T k)
  | 0 => fns_zero h
  | k + 1 => fns_succ top tr h (fns_all top tr h k)
theorem FnOk.still {f : Addr} {fd : FuncData} {ps : List Str} {sp : Sp} (F : FnOk P w K mg base (L2N.CX P w) k f fd ps sp) : FnOk P w K mg base CX0 k f fd ps (fun vs H Q _ => sp vs H Q fun _ _ _ => False) := by
  refine ⟨fun vs H Q E z => F.len vs H Q _ z, fun A outer s H args us vs Q E h1 h2 h3 h4 z => ?_⟩
  refine codeAny_mono (F.run A outer s H args us vs Q _ h1 h2 h3 h4 z) fun r s' hq => ?_
  cases r with
  | error e =>
    obtain ⟨_, _, _, _, _, _, _, _, _, _, _, _, z⟩ := hq
    exact z.elim
  | ok fl => cases fl <;> exact hq
end
end Li

/-! from the head's facts to the law -/
namespace Li
open PySem PySem.Spec L2
open PyProof.Rows hiding St
def faC : Str × D → He.Fa
  | (x, .int i) => .int x i
  | (x, .str s) => .str x s
  | (x, _) => .glo x
def faOf (DN : List Str) (CD : List (Str × D)) (EN : List Str) : List He.Fa := bltNames.map He.Fa.free ++ (DN.map He.Fa.glo ++ (CD.map faC ++ (EN.map He.Fa.glo ++ EN.map He.Fa.exc)))
def plainC : D → Bool
  | .int _ => true
  | .str _ => true
  | _ => false
def ecOf (K : PySem.W.Frag) (EN : List Str) (n : Nat) : Value := .ref (He.ga K (EN.getD n ""))
/-! constants that are tuples of texts -/
def strsB : List D → List Value → Bool
  | [], [] => true
  | .str x :: ds, .str y _ :: vs => decide (x = y) && strsB ds vs
  | _, _ => false
theorem strsB_ok {K : PySem.W.Frag} : ∀ {ds : List D} {vs : List Value}, strsB ds vs = true → ∃ xs : List V, Vals xs vs ∧ ∀ av H, Reps K av H xs ds
  | [], [], _ => ⟨[], .nil, fun _ _ => .nil⟩
  | .str x :: ds, .str y t :: vs, h => by
    have h : (decide (x = y) && strsB ds vs) = true := h
    rw [Bool.and_eq_true] at h
    obtain ⟨xs, h1, h2⟩ := strsB_ok (K := K) h.2
    have e := of_decide_eq_true h.1
    subst e
    exact ⟨.str x :: xs, .cons ⟨t, rfl⟩ h1, fun av H => .cons (.str x) (h2 av H)⟩
def tupO (ds : List D) (o : Obj) : Bool := (decide (o.cls = .type "tuple") && decide (o.dict = none)) && (match o.data with
  | .seq its _ => strsB ds its.toList && decide (its.size ≤ 1000)
  | _ => false)
def tupB (K : PySem.W.Frag) (x : Str × D) : Bool := match x.2 with
  | .tup ds => (match K.lookup (He.ga K x.1) with
    | some o => tupO ds o
    | none => false)
  | _ => false
theorem tupB_ok {K : PySem.W.Frag} {x : Str} {ds : List D} (h : tupB K (x, .tup ds) = true) : ∃ xs, (∀ av H, TupAt K av H (He.ga K x) xs) ∧ ∀ av H, Reps K av H xs ds := by
  have h : (match K.lookup (He.ga K x) with | some o => tupO ds o | none => false) = true := h
  cases e : K.lookup (He.ga K x) with
  | none => rw [e] at h; cases h
  | some o =>
    rw [e] at h
    have h : ((decide (o.cls = .type "tuple") && decide (o.dict = none)) && (match o.data with | .seq its _ => strsB ds its.toList && decide (its.size ≤ 1000) | _ => false)) = true := h
    rw [Bool.and_eq_true] at h
    obtain ⟨h1, h2⟩ := h
    rw [Bool.and_eq_true] at h1
    split at h2
    · rename_i its n hd
      rw [Bool.and_eq_true] at h2
      obtain ⟨xs, v1, v2⟩ := strsB_ok (K := K) h2.1
      have hz := of_decide_eq_true h2.2
      exact ⟨xs, fun av H => .inr ⟨o, its, n, e, of_decide_eq_true h1.1, of_decide_eq_true h1.2, hd, by rw [sizeLine_eq]; omega, v1⟩, v2⟩
    · cases h2
/-! ### the clauses' defs -/
def isB (K : PySem.W.Frag) (D : Addr) (c : IsC) (b : Bool) : Bool := (He.eqO (PySem.W.nsIn K mainGlobals c.x) (some (some (.ref (He.ga K c.x)))) && decide (PySem.W.kitOne K (.ref D) (.ref (He.ga K c.x)) = some b)) ||
  (He.eqO (PySem.W.nsIn K mainGlobals c.x) (some none) && (decide (c.x = "ValueError") && decide (PySem.W.kitOne K (.ref D) (.type "ValueError") = some b)))
def isBs (K : PySem.W.Frag) (D : Addr) : List IsC → List Bool → Bool
  | [], [] => true
  | c :: cs, b :: bs => isB K D c b && isBs K D cs bs
  | _, _ => false
def excB (K : PySem.W.Frag) (D : Addr) : Bool := He.eqO (PySem.W.findIn K (.ref D) "__getattribute__") (some (some (.builtin "BaseException.__getattribute__"))) && (He.eqO (PySem.W.findIn K (.ref D) "__getattr__") (some none) && (decide (PySem.W.subIn K (.ref D) (.type "BaseException") = some true) && (PySem.W.hasDictIn K D &&
  (He.eqO (PySem.W.findIn K (.ref D) "__class__") (some (some (.builtin "object.__class__"))) && (He.eqO (PySem.W.specialIn K (.builtin "object.__class__") "__get__") (some (some (.builtin "getset_descriptor.__get__"))) && (decide (PySem.W.takesIn K (.builtin "object.__class__") = some true) && decide (PySem.W.mroIn K D (.type "object") = some true)))))))
structure RefX where
  e : RefE
  d : RefD
  fx : List (List Bool × List Bool × Bool)
def refC (K : PySem.W.Frag) (EN : List Str) (r : RefX) (c : Nat) : Bool := decide (PySem.W.exmOne K (.ref (He.ga K (EN.getD c ""))) (.ref (He.ga K r.e.x)) = r.e.tap[c]?) && (!(r.e.tap.getD c false) || (excB K (He.ga K (EN.getD c "")) && (isBs K (He.ga K (EN.getD c "")) r.d.c1 (r.fx.getD c ([], [], false)).1 &&
  (isBs K (He.ga K (EN.getD c "")) r.d.c2 (r.fx.getD c ([], [], false)).2.1 && (isB K (He.ga K (EN.getD c "")) r.d.ve (r.fx.getD c ([], [], false)).2.2 && decide (r.e.rt.getD c 0 = refI ((r.fx.getD c ([], [], false)).1 ++ (r.fx.getD c ([], [], false)).2.1) (r.fx.getD c ([], [], false)).2.2))))))
/-- a clause of the other kind is as it should be -/
def riB (K : PySem.W.Frag) (EN : List Str) (r : RefE) : Bool := He.eqO (PySem.W.nsIn K mainGlobals r.x) (some (some (.ref (He.ga K r.x)))) && (List.range r.tap.length).all fun c => decide (PySem.W.exmOne K (.ref (He.ga K (EN.getD c ""))) (.ref (He.ga K r.x)) = r.tap[c]?) && (!(r.tap.getD c false) || (excB K (He.ga K (EN.getD c "")) && isB K (He.ga K (EN.getD c "")) (ilC r) (decide (r.rt.getD c 0 = 1))))
def refB (K : PySem.W.Frag) (EN : List Str) (r : RefX) : Bool := He.eqO (PySem.W.nsIn K mainGlobals r.e.x) (some (some (.ref (He.ga K r.e.x)))) && (List.range r.e.tap.length).all (refC K EN r)
/-! ### what is looked at when the module is laid -/
def obsE (n : Nat) (fa : List He.Fa) (fn : List He.DefD) (ex : PySem.W.Frag → Bool) (g : Addr → Option Obj) : He.AlD × Bool := (He.obsD fa fn (He.frG g (He.asD g n)), ex (He.frG g (He.asD g n)))
def hookE (n : Nat) (fa : List He.Fa) (fn : List He.DefD) (ex : PySem.W.Frag → Bool) : PySem.W.Hook where
  α := He.AlD × Bool
  obs := fun s => obsE n fa fn ex s.heap.get?
  val := fun _ => (He.valD fn, true)
  says := fun _ h => ∃ K : PySem.W.Frag, K.In h ∧ He.SaysD fa fn K ∧ ex K = true
  of := fun _ _ e => ⟨_, He.frG_in, congrArg (fun z : He.AlD × Bool => z.1) e, congrArg (fun z : He.AlD × Bool => z.2) e⟩
  keeps := fun _ _ _ ⟨K, hK, c⟩ k => ⟨K, PySem.W.Frag.In.keeps hK k, c⟩
theorem obsE_eq {n : Nat} {fa : List He.Fa} {fn : List He.DefD} {ex : PySem.W.Frag → Bool} {g : Addr → Option Obj} {s : Shared} (h : ∀ a, g a = s.heap.get? a) : obsE n fa fn ex g = (hookE n fa fn ex).obs s := by
  have e : g = s.heap.get? := funext h
  rw [e] <;> rfl
section
variable {P : Program} {w : World} {K : PySem.W.Frag} {mg : Str → Option Value} {h base : Heap} {CN : List Str} {C : List D} {T : List Fn} {EN DN : List Str} {RN : List RefE} {CD : List (Str × D)} {fa : List He.Fa} {fn : List He.DefD}
theorem top_of (X : K.In h) (G : h.Ns mainGlobals mg) (c : He.SaysD fa fn K) (hfa : fa = faOf DN CD EN) (hCN : CN = CD.map (·.1)) (hC : C = CD.map (·.2)) (hp : CD.all (fun x => plainC x.2) = true) :
    Top P w K mg base CN C T EN (ecOf K EN) := by
  subst hfa hCN hC
  refine ⟨fun x hx => ?_, fun n x d h1 h2 => ?_, fun n x h1 => ?_⟩
  · exact He.free_ok X G (c.facts (f := .free x) (List.mem_append_left _ (List.mem_map_of_mem hx)))
  · rw [List.getElem?_map] at h1 h2
    cases e : CD[n]? with
    | none => rw [e] at h1; cases h1
    | some q =>
      rw [e] at h1 h2
      obtain ⟨y, d'⟩ := q
      have h1 : y = x := Option.some.inj h1
      have h2 : d' = d := Option.some.inj h2
      subst h1 h2
      have hm : (y, d') ∈ CD := List.mem_of_getElem? e
      have hfact := c.facts (f := faC (y, d')) (List.mem_append_right _ (List.mem_append_right _ (List.mem_append_left _ (List.mem_map_of_mem hm))))
      have hpl := List.all_eq_true.mp hp _ hm
      cases d' with
      | int i =>
        obtain ⟨t, ht⟩ := He.int_ok X G hfact
        exact ⟨.int i, .int i t, ht, ⟨t, rfl⟩, fun av H => .int i⟩
      | str s =>
        obtain ⟨t, ht⟩ := He.str_ok X G hfact
        exact ⟨.str s, .str s t, ht, ⟨t, rfl⟩, fun av H => .str s⟩
      | _ => cases hpl
  · have hm : x ∈ EN := List.mem_of_getElem? h1
    have h2 := He.glo_ok X G (c.facts (f := .glo x) (List.mem_append_right _ (List.mem_append_right _ (List.mem_append_right _ (List.mem_append_left _ (List.mem_map_of_mem hm))))))
    obtain ⟨e1, e2, e3, e4⟩ := He.exc_ok (c.facts (f := .exc x) (List.mem_append_right _ (List.mem_append_right _ (List.mem_append_right _ (List.mem_append_right _ (List.mem_map_of_mem hm))))))
    refine ⟨He.ga K x, ?_, h2, e1, e2, e3, e4⟩
    unfold ecOf
    rw [List.getD_eq_getElem?_getD, h1]
    rfl
theorem top_ofT (X : K.In h) (G : h.Ns mainGlobals mg) (c : He.SaysD fa fn K) (hfa : fa = faOf DN CD EN) (hCN : CN = CD.map (·.1)) (hC : C = CD.map (·.2)) (hp : ∀ x ∈ CD, plainC x.2 = true ∨ tupB K x = true) :
    Top P w K mg base CN C T EN (ecOf K EN) := by
  subst hfa hCN hC
  refine ⟨fun x hx => ?_, fun n x d h1 h2 => ?_, fun n x h1 => ?_⟩
  · exact He.free_ok X G (c.facts (f := .free x) (List.mem_append_left _ (List.mem_map_of_mem hx)))
  · rw [List.getElem?_map] at h1 h2
    cases e : CD[n]? with
    | none => rw [e] at h1; cases h1
    | some q =>
      rw [e] at h1 h2
      obtain ⟨y, d'⟩ := q
      have h1 : y = x := Option.some.inj h1
      have h2 : d' = d := Option.some.inj h2
      subst h1 h2
      have hm : (y, d') ∈ CD := List.mem_of_getElem? e
      have hfact := c.facts (f := faC (y, d')) (List.mem_append_right _ (List.mem_append_right _ (List.mem_append_left _ (List.mem_map_of_mem hm))))
      have hpl := hp _ hm
      cases d' with
      | int i =>
        obtain ⟨t, ht⟩ := He.int_ok X G hfact
        exact ⟨.int i, .int i t, ht, ⟨t, rfl⟩, fun av H => .int i⟩
      | str s =>
        obtain ⟨t, ht⟩ := He.str_ok X G hfact
        exact ⟨.str s, .str s t, ht, ⟨t, rfl⟩, fun av H => .str s⟩
      | tup ds =>
        rcases hpl with hpl | hpl
        · cases hpl
        · have ht := He.glo_ok X G hfact
          obtain ⟨xs, r1, r2⟩ := tupB_ok hpl
          exact ⟨.ref (He.ga K y), .ref (He.ga K y), ht, rfl, fun av H => .tup (r1 av H) (r2 av H)⟩
      | _ => rcases hpl with hpl | hpl <;> cases hpl
  · have hm : x ∈ EN := List.mem_of_getElem? h1
    have h2 := He.glo_ok X G (c.facts (f := .glo x) (List.mem_append_right _ (List.mem_append_right _ (List.mem_append_right _ (List.mem_append_left _ (List.mem_map_of_mem hm))))))
    obtain ⟨e1, e2, e3, e4⟩ := He.exc_ok (c.facts (f := .exc x) (List.mem_append_right _ (List.mem_append_right _ (List.mem_append_right _ (List.mem_append_right _ (List.mem_map_of_mem hm))))))
    refine ⟨He.ga K x, ?_, h2, e1, e2, e3, e4⟩
    unfold ecOf
    rw [List.getD_eq_getElem?_getD, h1]
    rfl
theorem fnAt_of {TN : List (Str × Nat)} {F : Fn} {params : Arguments} {body : List Stmt} {scope : Scope} (X : K.In h) (G : h.Ns mainGlobals mg) (c : He.SaysD fa fn K) (hfa : fa = faOf DN CD EN) (hd : (⟨(F.nm, none), F.nm, F.nm, params, body, scope, [], []⟩ : He.DefD) ∈ fn) (hg : F.nm ∈ DN) (hbody : F.body.py = body)
    (hbind : ∀ (kV doc pm : Value) (an : Option Addr) (cdv ct : Value) (us : List Value), us.length = F.ps.length → bindArgs (PySem.W.fnOf F.nm F.nm params body scope Value.none kV doc pm an cdv ct) { pos := us } = pure (F.ps.zip us))
    (hs : FnScope F.names F.ps scope) (hw : wfSs CN TN EN RN F.names scope F.body = true) (hk : (cks F.body []).isSome = true) : FnAt K mg CN TN EN RN F := by
  obtain ⟨fd, FD⟩ := c.defs hd
  obtain ⟨fl', hk⟩ := Option.isSome_iff_exists.mp hk
  have FD : FunD K F.nm F.nm params body scope [] [] (He.fAd K (F.nm, none)) fd := FD
  have hm : mg F.nm = some (.ref (He.ga K F.nm)) := He.glo_ok X G (c.facts (f := .glo F.nm) (by rw [hfa]; exact List.mem_append_right _ (List.mem_append_left _ (List.mem_map_of_mem hg))))
  refine ⟨He.fAd K (F.nm, none), fd, F.nm, params, scope, fl', hm, by rw [hbody]; exact FD, FD.bindsN hbind, hs, hw, hk⟩
theorem isM_of {D : Addr} {c' : IsC} {b : Bool} (X : K.In h) (G : h.Ns mainGlobals mg) (e : isB K D c' b = true) : IsM K mg D c' b := by
  unfold isB at e
  rw [Bool.or_eq_true] at e
  rcases e with e | e
  · obtain ⟨e1, e2⟩ := bband e
    exact .inl ⟨_, PySem.W.mg_of X G (He.eqO_ok e1), of_decide_eq_true e2⟩
  · obtain ⟨e1, e2⟩ := bband e
    obtain ⟨e2, e3⟩ := bband e2
    exact .inr ⟨PySem.W.mg_none_of X G (He.eqO_ok e1), of_decide_eq_true e2, of_decide_eq_true e3⟩
theorem isMs_of {D : Addr} (X : K.In h) (G : h.Ns mainGlobals mg) : ∀ {cs : List IsC} {bs : List Bool}, isBs K D cs bs = true → Paired (IsM K mg D) cs bs
  | [], [], _ => .nil
  | c :: cs, b :: bs, e => by
    obtain ⟨e1, e2⟩ := bband (show (isB K D c b && isBs K D cs bs) = true from e)
    exact .cons (isM_of X G e1) (isMs_of X G e2)
  | [], _ :: _, e => by cases e
  | _ :: _, [], e => by cases e
theorem excC_of {D : Addr} (e : excB K D = true) : ExcC K D := by
  unfold excB at e
  obtain ⟨e1, e⟩ := bband e
  obtain ⟨e2, e⟩ := bband e
  obtain ⟨e3, e⟩ := bband e
  obtain ⟨e4, e⟩ := bband e
  obtain ⟨e5, e⟩ := bband e
  obtain ⟨e6, e⟩ := bband e
  obtain ⟨e7, e8⟩ := bband e
  exact ⟨He.eqO_ok e1, He.eqO_ok e2, of_decide_eq_true e3, e4, He.eqO_ok e5, He.eqO_ok e6, of_decide_eq_true e7, of_decide_eq_true e8⟩
theorem refAt_of {r : RefX} {params : Arguments} {body : List Stmt} {scope : Scope} (hil : r.e.il = none) (X : K.In h) (G : h.Ns mainGlobals mg) (c : He.SaysD fa fn K) (hfa : fa = faOf DN CD EN) (hx : refB K EN r = true) (hd : (⟨(r.e.f, none), r.e.f, r.e.f, params, body, scope, [], []⟩ : He.DefD) ∈ fn) (hg : r.e.f ∈ DN) (hbody : r.d.body = body)
    (hbind : ∀ (kV doc pm : Value) (an : Option Addr) (cdv ct : Value) (us : List Value), us.length = [r.d.e].length → bindArgs (PySem.W.fnOf r.e.f r.e.f params body scope Value.none kV doc pm an cdv ct) { pos := us } = pure ([r.d.e].zip us))
    (hs : FnScope [r.d.e, r.d.fl] [r.d.e] scope) (hw : refWf r.d scope = true) : RefAt P w K mg base EN (ecOf K EN) r.e := by
  refine ⟨fun _ => ?_, fun z => absurd hil z⟩
  obtain ⟨fd, FD⟩ := c.defs hd
  have FD : FunD K r.e.f r.e.f params body scope [] [] (He.fAd K (r.e.f, none)) fd := FD
  have hm : mg r.e.f = some (.ref (He.ga K r.e.f)) := He.glo_ok X G (c.facts (f := .glo r.e.f) (by rw [hfa]; exact List.mem_append_right _ (List.mem_append_left _ (List.mem_map_of_mem hg))))
  have hi : mg "isinstance" = none := He.free_ok X G (c.facts (f := .free "isinstance") (by rw [hfa]; exact List.mem_append_left _ (List.mem_map_of_mem (by decide))))
  unfold refB at hx
  obtain ⟨x1, x2⟩ := bband hx
  refine ⟨He.fAd K (r.e.f, none), fd, r.d.e, _, hm, FD.kp, FD.bindsN hbind, PySem.W.mg_of X G (He.eqO_ok x1), fun n t ht => ?_⟩
  have hn : n < r.e.tap.length := (List.getElem?_eq_some_iff.mp ht).1
  have y := List.all_eq_true.mp x2 n (List.mem_range.mpr hn)
  unfold refC at y
  obtain ⟨y1, y2⟩ := bband y
  refine ⟨He.ga K (EN.getD n ""), rfl, (of_decide_eq_true y1).trans ht, fun e => ?_⟩
  subst e
  have e : r.e.tap.getD n false = true := by rw [List.getD_eq_getElem?_getD, ht]; rfl
  rw [e] at y2
  have y2 : (excB K (He.ga K (EN.getD n "")) && _) = true := y2
  obtain ⟨y2, y⟩ := bband y2
  obtain ⟨y3, y⟩ := bband y
  obtain ⟨y4, y⟩ := bband y
  obtain ⟨y5, y6⟩ := bband y
  rw [of_decide_eq_true y6]
  exact ref_run (by rw [hbody]; exact FD) hs hw hi (excC_of y2) (isMs_of X G y3) (isMs_of X G y4) (isM_of X G y5)
theorem refAtI_of {r : RefE} (X : K.In h) (G : h.Ns mainGlobals mg) (c : He.SaysD fa fn K) (hfa : fa = faOf DN CD EN) (hil : r.il.isSome = true) (hx : riB K EN r = true) : RefAt P w K mg base EN (ecOf K EN) r := by
  have hi : mg "isinstance" = none := He.free_ok X G (c.facts (f := .free "isinstance") (by rw [hfa]; exact List.mem_append_left _ (List.mem_map_of_mem (by decide))))
  refine ⟨fun z => by rw [z] at hil; (cases hil), fun _ => ?_⟩
  unfold riB at hx
  obtain ⟨x1, x2⟩ := bband hx
  refine ⟨_, PySem.W.mg_of X G (He.eqO_ok x1), hi, fun n t ht => ?_⟩
  have hn : n < r.tap.length := (List.getElem?_eq_some_iff.mp ht).1
  have y := List.all_eq_true.mp x2 n (List.mem_range.mpr hn)
  obtain ⟨y1, y2⟩ := bband y
  refine ⟨He.ga K (EN.getD n ""), rfl, (of_decide_eq_true y1).trans ht, fun e => ?_⟩
  subst e
  have e : r.tap.getD n false = true := by rw [List.getD_eq_getElem?_getD, ht]; rfl
  rw [e] at y2
  have y2 : (excB K (He.ga K (EN.getD n "")) && _) = true := y2
  obtain ⟨y2, y3⟩ := bband y2
  exact ⟨excC_of y2, isM_of X G y3⟩
/-- the law's call -/
theorem law_of {x : Str} {F : Fn} {n k : Nat} {f : Addr} {fd : FuncData} {qual : Str} {params : Arguments} {body : List Stmt} {scope : Scope} (top : Top P w K mg base CN C T EN (ecOf K EN)) (tr : ∀ r ∈ RN, RefAt P w K mg base EN (ecOf K EN) r) (ok : ∀ (n : Nat) (F : Fn), T[n]? = some F → FnAt K mg CN (T.map fun F => (F.nm, F.ps.length)) EN RN F) (hF : T[n]? = some F) (hps : F.ps = [x])
    (FD : FunD K F.nm qual params body scope [] [] f fd) (hbody : F.body.py = body) (hs : FnScope F.names F.ps scope) (hw : wfSs CN (T.map fun F => (F.nm, F.ps.length)) EN RN F.names scope F.body = true) (hk : (cks F.body []).isSome = true) :
    FnOk P w K mg base CX0 (k + 1 + 1) f fd [x] (fun vs H Q _ => spF K (ecOf K EN) (callF C T (k + 1)) 1 n vs H Q fun _ _ _ => False) := by
  obtain ⟨fl', hk⟩ := Option.isSome_iff_exists.mp hk
  have h := Li.FnOk.still (fn_step top tr (fns_all top tr ok k) hF (by rw [hbody]; exact FD) hs hw hk)
  rw [hps] at h
  exact h
theorem sp_of {ec : Nat → Value} {n k : Nat} {H : Hp} {a : Addr} {ns : List Int} (h : callF C T k n [.scr ns] = .ok (.bl true)) (hS : SqL K H a (ns.map V.int)) :
    spF K ec (callF C T k) 1 n [.ref a] H (fun v _ => v = .bl true) fun _ _ _ => False := by
  refine ⟨rfl, fun _ => False, [.scr ns], fun a z => z.elim, .cons (.scr ?_) .nil, ?_⟩
  · rcases hS with hS | hS
    · exact .inl ⟨hS, fun z => z⟩
    · exact .inr hS
  · rw [h]
    intro v H' s r
    cases r
    rfl
end
end Li

/-! running the small texts by hand -/
namespace Li
open PySem PySem.Spec L2
open PyProof.Rows hiding St
section
variable {C : List D} {cf : Nat → List D → Res D} {s : Sm} {r : Sms} {env env' : En}
theorem bnd_ok {α β : Type} (a : α) (f : α → Res β) : (Res.ok a).bind f = f a := rfl
theorem out_ok {α : Type} (a : α) (f : α → Out) : (Res.ok a).out env f = f a := rfl
theorem asB_ok (b : Bool) : asB (.ok (.bl b)) = .ok b := rfl
theorem asOI_ok (i : Int) : asOI (.ok (.int i)) = .ok (some i) := rfl
theorem notR_ok (b : Bool) : notR (.ok (.bl b)) = .ok (.bl (!b)) := rfl
theorem exes_nx (h : exe C cf s env = .nx env') : exes C cf (.cons s r) env = exes C cf r env' := by simp only [exes, h]
theorem exes_ret {d : D} (h : exe C cf s env = .ret d) : exes C cf (.cons s r) env = .ret d := by simp only [exes, h]
theorem exes_nil : exes C cf .nil env = .nx env := by simp only [exes]
/-- if c: … that is not taken -/
theorem cond_no {c : Ex} {a : Sms} {p : Pos} (h : ev C cf c env = .ok (.bl false)) : exe C cf (.cond c a .nil p) env = .nx env := by
  simp only [exe, h, asB_ok, out_ok, exes]
  rfl
theorem cond_yes {c : Ex} {a b : Sms} {p : Pos} (h : ev C cf c env = .ok (.bl true)) : exe C cf (.cond c a b p) env = exes C cf a env := by
  simp only [exe, h, asB_ok, out_ok]
  rfl
theorem cond_else {c : Ex} {a b : Sms} {p : Pos} (h : ev C cf c env = .ok (.bl false)) : exe C cf (.cond c a b p) env = exes C cf b env := by
  simp only [exe, h, asB_ok, out_ok]
  rfl
theorem asg_nx {v : Vn} {e : Ex} {p : Pos} {d : D} (h : ev C cf e env = .ok d) : exe C cf (.asg v e p) env = .nx (env.set v.i (some d)) := by
  simp only [exe, h, out_ok]
theorem ret_of {e : Ex} {p : Pos} {d : D} (h : ev C cf e env = .ok d) : exe C cf (.ret e p) env = .ret d := by
  simp only [exe, h, out_ok]
theorem expr_nx {e : Ex} {p : Pos} {d : D} (h : ev C cf e env = .ok d) : exe C cf (.expr e p) env = .nx env := by
  simp only [exe, h, out_ok]
theorem exes_ex {c : Nat} {en : En} (h : exe C cf s env = .ex c en) : exes C cf (.cons s r) env = .ex c en := by simp only [exes, h]
theorem binR_add (i j : Int) : binR .add (.int i) (.int j) = .ok (.int (i + j)) := rfl
theorem binR_sub (i j : Int) : binR .sub (.int i) (.int j) = .ok (.int (i - j)) := rfl
theorem binR_mul (i j : Int) (h : mulOk i j = true) : binR .mul (.int i) (.int j) = .ok (.int (i * j)) := need_of h _
theorem mulOk_l {i j : Int} (h1 : -(2 ^ 64) < i) (h2 : i < 2 ^ 64) : mulOk i j = true := by
  unfold mulOk
  rw [decide_eq_true h1, decide_eq_true h2]
  rfl
theorem mulOk_r {i j : Int} (h1 : -(2 ^ 64) < j) (h2 : j < 2 ^ 64) : mulOk i j = true := by
  unfold mulOk
  rw [decide_eq_true h1, decide_eq_true h2, Bool.and_self, Bool.or_true]
theorem binR_mod (i j : Int) (h : 0 < j) : binR .mod (.int i) (.int j) = .ok (.int (i % j)) := need_of (decide_eq_true h) _
theorem binR_fdiv (i j : Int) (h : 0 < j) (h2 : j < 1073741824) : binR .fdiv (.int i) (.int j) = .ok (.int (i / j)) := need_of (by rw [decide_eq_true h, decide_eq_true h2]; rfl) _
theorem atI_ok {l : List Int} {i : Int} (h0 : 0 ≤ i) (h1 : i < l.length) : ∃ j, atI l i = some j := by
  unfold atI L2.ixN
  rw [if_pos h0, if_pos h1]
  exact ⟨_, List.getElem?_eq_getElem (by omega)⟩
def forB (C : List D) (cf : Nat → List D → Res D) (tg : Tg) (b : Sms) (d : D) (en : En) : Out := match bindT tg d en with
  | some en' => exes C cf b en'
  | none => .no
theorem loop_eq {tg : Tg} {it : Itx} {b : Sms} {p : Pos} {ds : List D} (h : evi C cf it env = .ok ds) : exe C cf (.loop tg it b p) env = forGo (forB C cf tg b) ds env := by
  simp only [exe, h, out_ok]
  rfl
theorem forGo_inv {f : D → En → Out} (I : En → Prop) : ∀ {ds : List D} {en : En}, I en → (∀ d ∈ ds, ∀ e, I e → ∃ e', f d e = .nx e' ∧ I e') → ∃ e', forGo f ds en = .nx e' ∧ I e'
  | [], en, h, _ => ⟨en, rfl, h⟩
  | d :: ds, en, h, hs => by
    obtain ⟨e', h1, h2⟩ := hs d List.mem_cons_self en h
    simp only [forGo, h1]
    exact forGo_inv I h2 fun x hx => hs x (List.mem_cons_of_mem _ hx)
theorem lcGo_map {f : D → Res (Option D)} {g : D → D} : ∀ {ds : List D}, (∀ d ∈ ds, f d = .ok (some (g d))) → lcGo f ds = .ok (ds.map g)
  | [], _ => rfl
  | d :: ds, h => by
    simp only [lcGo, h d List.mem_cons_self, lcGo_map fun x hx => h x (List.mem_cons_of_mem _ hx), List.map_cons]
theorem lcGo_mapM {α : Type} {F : D → Res (Option D)} {f g : α → D} : ∀ {l : List α}, (∀ x ∈ l, F (f x) = .ok (some (g x))) → lcGo F (l.map f) = .ok (l.map g)
  | [], _ => rfl
  | x :: l, h => by
    simp only [List.map_cons, lcGo, h x List.mem_cons_self, lcGo_mapM fun y hy => h y (List.mem_cons_of_mem _ hy)]
theorem lcGo_ex {f : D → Res (Option D)} {R : D → Prop} : ∀ {ds : List D}, (∀ d ∈ ds, ∃ y, f d = .ok (some y) ∧ R y) → ∃ ys, lcGo f ds = .ok ys ∧ ys.length = ds.length ∧ ∀ y ∈ ys, R y
  | [], _ => ⟨[], rfl, rfl, fun _ h => nomatch h⟩
  | d :: ds, h => by
    obtain ⟨y, h1, h2⟩ := h d List.mem_cons_self
    obtain ⟨ys, h3, h4, h5⟩ := lcGo_ex fun x hx => h x (List.mem_cons_of_mem _ hx)
    refine ⟨y :: ys, by simp only [lcGo, h1, h3], by simp [h4], fun z hz => ?_⟩
    rcases List.mem_cons.mp hz with rfl | hz
    · exact h2
    · exact h5 z hz
theorem lcGo_nil {f : D → Res (Option D)} {ds : List D} (h : ∀ d ∈ ds, f d = .ok none) : lcGo f ds = .ok [] := by
  induction ds with
  | nil => rfl
  | cons d ds ih => simp only [lcGo, h d List.mem_cons_self]; exact ih fun x hx => h x (List.mem_cons_of_mem _ hx)
theorem lcGo_filter {f : D → Res (Option D)} {g : D → Option D} : ∀ {ds : List D}, (∀ d ∈ ds, f d = .ok (g d)) → lcGo f ds = .ok (ds.filterMap g)
  | [], _ => rfl
  | d :: ds, h => by
    have ih := lcGo_filter fun x hx => h x (List.mem_cons_of_mem _ hx)
    simp only [lcGo, h d List.mem_cons_self, List.filterMap_cons]
    cases g d with
    | none => simp only [ih]
    | some y => simp only [ih]
theorem lc_of {elt : Ex} {tg : Tg} {it : Itx} {ifs : Exo} {scope : Scope} {own : List (Str × Nat)} {p : Pos} {ds l : List D} (h : evi C cf it env = .ok ds) (hl : ds.length ≤ LIM) (h2 : lcGo (lcF C cf elt tg ifs env (own.map (·.2))) ds = .ok l) :
    ev C cf (.lc elt tg it ifs scope own p) env = .ok (.lst l) := by
  rw [ev_lc, h, bnd_ok, h2, bnd_ok]
  exact need_of (decide_eq_true hl) _
end
theorem shs_all {n : Nat} : ∀ {l : List D}, (∀ d ∈ l, sh n d = true) → shs n l = true
  | [], _ => by simp [shs]
  | d :: l, h => by
    simp only [shs, h d List.mem_cons_self, shs_all fun x hx => h x (List.mem_cons_of_mem _ hx), Bool.and_self]
theorem all_shs {n : Nat} : ∀ {l : List D}, shs n l = true → ∀ d ∈ l, sh n d = true
  | d :: l, h, x, hx => by
    simp only [shs, Bool.and_eq_true] at h
    rcases List.mem_cons.mp hx with rfl | hx
    · exact h.1
    · exact all_shs h.2 x hx
theorem eqDs_self : ∀ {l : List D}, (∀ d ∈ l, eqD d d = true) → eqDs l l = true
  | [], _ => by simp [eqDs]
  | d :: l, h => by
    simp only [eqDs, h d List.mem_cons_self, eqDs_self fun x hx => h x (List.mem_cons_of_mem _ hx), Bool.and_self]
theorem eqD_self : ∀ (n : Nat) (d : D), sh n d = true → eqD d d = true
  | _, .non, _ => by simp [eqD]
  | _, .bl _, _ => by simp [eqD]
  | _, .int _, _ => by simp [eqD]
  | _, .str _, _ => by simp [eqD]
  | 0, .tup _, h => by simp [sh] at h
  | 0, .lst _, h => by simp [sh] at h
  | n + 1, .tup l, h => by
    simp only [sh] at h
    simp only [eqD]
    exact eqDs_self fun d hd => eqD_self n d (all_shs h d hd)
  | n + 1, .lst l, h => by
    simp only [sh] at h
    simp only [eqD]
    exact eqDs_self fun d hd => eqD_self n d (all_shs h d hd)
  | 0, .scr _, h => by simp [sh] at h
  | _ + 1, .scr _, h => by simp [sh] at h
  | 0, .dic _, h => by simp [sh] at h
  | _ + 1, .dic _, h => by simp [sh] at h
  | 0, .exc _, h => by simp [sh] at h
  | _ + 1, .exc _, h => by simp [sh] at h
theorem neR_self {d : D} (h : sh 60 d = true) : neR d d = .ok (.bl false) := by
  unfold neR
  rw [h, eqD_self 60 d h]
  rfl
theorem sh_ints (n : Nat) (l : List Int) : sh (n + 1) (.tup (l.map D.int)) = true := by
  simp only [sh]
  refine shs_all fun d hd => ?_
  obtain ⟨i, _, rfl⟩ := List.mem_map.mp hd
  simp [sh]
theorem sh_intl (n : Nat) (l : List Int) : sh (n + 1) (.lst (l.map D.int)) = true := by
  simp only [sh]
  refine shs_all fun d hd => ?_
  obtain ⟨i, _, rfl⟩ := List.mem_map.mp hd
  simp [sh]
theorem sortL_congr {l m : List (List Int)} (h : l.Perm m) : sortL l = sortL m := srtL_uniq (sortL_srt _) (sortL_srt _) ((sortL_perm l).trans (h.trans (sortL_perm m).symm))
theorem sortL_self {l : List (List Int)} (h : SrtL l) : sortL l = l := srtL_uniq (sortL_srt _) h (sortL_perm l)
theorem sortR_T {l : List (List Int)} (h : ∀ x ∈ l, x ≠ []) : sortR (.lst (l.map uT)) = .ok (.lst ((sortL l).map uT)) := by
  show need (sortable (l.map uT)) (.ok (.lst (sortD (l.map uT)))) = _
  rw [sortD_map ltD_uT fun _ _ => trivial]
  refine need_of ?_ _
  unfold sortable
  have e : (l.map uT).all isTI1 = true := by
    rw [List.all_eq_true]
    intro d hd
    obtain ⟨x, hx, rfl⟩ := List.mem_map.mp hd
    cases x with
    | nil => exact absurd rfl (h [] hx)
    | cons i x =>
      show (x.map D.int).all isInt = true
      rw [List.all_map]
      exact List.all_eq_true.mpr fun _ _ => rfl
  simp only [e, Bool.or_true, Bool.true_or]
theorem sortR_P {l : List (List Int)} (h : ∀ x ∈ l, x ≠ []) : sortR (.lst (l.map uP)) = .ok (.lst ((sortL l).map uP)) := by
  show need (sortable (l.map uP)) (.ok (.lst (sortD (l.map uP)))) = _
  rw [sortD_map ltD_uP h]
  refine need_of ?_ _
  unfold sortable
  have e : (l.map uP).all isIT = true := by
    rw [List.all_eq_true]
    intro d hd
    obtain ⟨x, hx, rfl⟩ := List.mem_map.mp hd
    cases x with
    | nil => exact absurd rfl (h [] hx)
    | cons i x =>
      show (x.map D.int).all isInt = true
      rw [List.all_map]
      exact List.all_eq_true.mpr fun _ _ => rfl
  simp only [e, Bool.or_true, Bool.true_or]
theorem sortR_I {l : List Int} (h : l.Pairwise fun x y => x ≤ y) : sortR (.lst (l.map D.int)) = .ok (.lst (l.map D.int)) := by
  have e : l.map D.int = (l.map fun i => [i]).map uI := by rw [List.map_map]; rfl
  show need (sortable (l.map D.int)) (.ok (.lst (sortD (l.map D.int)))) = _
  have e2 : sortD (l.map D.int) = l.map D.int := by
    rw [e, sortD_map ltD_uI, sortL_self (int_sorted h)]
    intro y hy
    obtain ⟨i, _, rfl⟩ := List.mem_map.mp hy
    exact ⟨i, rfl⟩
  rw [e2]
  refine need_of ?_ _
  unfold sortable
  have e : (l.map D.int).all isInt = true := by
    rw [List.all_map]
    exact List.all_eq_true.mpr fun _ _ => rfl
  simp only [e, Bool.true_or]
/-! ### parts of a text -/
def Sms.skip : Nat → Sms → Sms
  | 0, b => b
  | _ + 1, .nil => .nil
  | n + 1, .cons _ r => Sms.skip n r
def Sms.till : Nat → Sms → Sms
  | 0, _ => .nil
  | _ + 1, .nil => .nil
  | n + 1, .cons s r => .cons s (Sms.till n r)
def Sms.nth : Nat → Sms → Sm
  | _, .nil => .pass ⟨0, 0, 0, 0⟩
  | 0, .cons s _ => s
  | n + 1, .cons _ r => Sms.nth n r
def Sm.inn : Sm → Sms
  | .loop _ _ b _ => b
  | .whil _ b _ => b
  | .cond _ a _ _ => a
  | .tryr b _ _ _ _ _ _ _ _ => b
  | _ => .nil
def Sm.els : Sm → Sms
  | .cond _ _ b _ => b
  | _ => .nil
def Sm.tg : Sm → Tg
  | .loop t _ _ _ => t
  | _ => .name ⟨0, "", ⟨0, 0, 0, 0⟩⟩
def Sm.ex : Sm → Ex
  | .asg _ e _ => e
  | .asgt _ _ _ e _ => e
  | .ret e _ => e
  | .expr e _ => e
  | .cond c _ _ _ => c
  | .whil c _ _ => c
  | _ => .con .non 0 ⟨0, 0, 0, 0⟩
/-- what a try with a clause that tells the refusal comes to -/
def tryO (re : RefE) (i : Nat) : Out → Res D
  | .nx _ => Res.ok .non
  | .ret d => Res.ok d
  | .ex c en => (match re.tap[c]? with
    | some true => if i < en.length then Res.ok (refV re c) else Res.no
    | some false => Res.ex c
    | none => Res.no)
  | .no => Res.no
def Sm.tre : Sm → Option (RefE × Nat)
  | .tryr _ r _ v _ _ _ _ _ => some (r, v.i)
  | _ => none
theorem try_out {C : List D} {cf : Nat → List D → Res D} {env : En} {s : Sm} {re : RefE} {i : Nat} (hs : s.tre = some (re, i)) : outR (exes C cf (.cons s .nil) env) = tryO re i (exes C cf s.inn env) := by
  cases s with
  | tryr b r np v pf pc pr ph p =>
    have hs : some (r, v.i) = some (re, i) := hs
    cases hs
    show outR (exes C cf (.cons (.tryr b re np v pf pc pr ph p) .nil) env) = tryO re v.i (exes C cf b env)
    simp only [exes, exe]
    cases exes C cf b env with
    | nx e => rfl
    | ret d => rfl
    | no => rfl
    | ex c en =>
      simp only [tryO]
      cases re.tap[c]? with
      | none => rfl
      | some t =>
        cases t with
        | true =>
          by_cases h : v.i < en.length
          · simp only [if_pos h]; rfl
          · simp only [if_neg h]; rfl
        | false => rfl
  | _ => cases hs
def Ex.a1 : Ex → Ex
  | .blt _ a _ _ _ => a
  | .call _ _ a _ _ _ => a
  | .cmp _ a _ _ => a
  | .bin _ a _ _ => a
  | e => e
def Sm.mx : Sm → Ex
  | .mut _ _ e _ _ _ => e
  | _ => .con .non 0 ⟨0, 0, 0, 0⟩
def Ex.i1 : Ex → Ex
  | .ix a _ _ => a
  | e => e
def Ex.b1 : Ex → Ex
  | .bool _ a _ _ => a
  | e => e
def Exs.hd : Exs → Ex
  | .cons a _ => a
  | .nil => .con .non 0 ⟨0, 0, 0, 0⟩
def Exs.tl : Exs → Exs
  | .cons _ r => r
  | .nil => .nil
def Ex.b2 : Ex → Ex
  | .bool _ _ es _ => es.hd
  | e => e
def Ex.c2 : Ex → Ex
  | .cmp _ _ b _ => b
  | e => e
def Ex.t2 : Ex → Ex
  | .tup es _ _ => es.tl.hd
  | e => e
def Ex.b3 : Ex → Ex
  | .bool _ _ es _ => es.tl.hd
  | e => e
def Ex.a0 : Ex → Ex
  | .nott a _ => a
  | .neg a _ => a
  | e => e
theorem lc_ex {C : List D} {cf : Nat → List D → Res D} {env : En} {elt : Ex} {tg : Tg} {it : Itx} {ifs : Exo} {scope : Scope} {own : List (Str × Nat)} {p : Pos} {ds : List D} {R : D → Prop} (h : evi C cf it env = .ok ds) (hl : ds.length ≤ LIM) (h2 : ∀ d ∈ ds, ∃ y, lcF C cf elt tg ifs env (own.map (·.2)) d = .ok (some y) ∧ R y) :
    ∃ ys, ev C cf (.lc elt tg it ifs scope own p) env = .ok (.lst ys) ∧ ys.length = ds.length ∧ ∀ y ∈ ys, R y := by
  obtain ⟨ys, h3, h4, h5⟩ := lcGo_ex h2
  exact ⟨ys, lc_of h hl h3, h4, h5⟩
theorem lc_map {C : List D} {cf : Nat → List D → Res D} {env : En} {elt : Ex} {tg : Tg} {it : Itx} {ifs : Exo} {scope : Scope} {own : List (Str × Nat)} {p : Pos} {ds : List D} {g : D → D} (h : evi C cf it env = .ok ds) (hl : ds.length ≤ LIM) (h2 : ∀ d ∈ ds, lcF C cf elt tg ifs env (own.map (·.2)) d = .ok (some (g d))) :
    ev C cf (.lc elt tg it ifs scope own p) env = .ok (.lst (ds.map g)) := lc_of h hl (lcGo_map h2)
theorem lc_none {C : List D} {cf : Nat → List D → Res D} {env : En} {elt : Ex} {tg : Tg} {it : Itx} {ifs : Exo} {scope : Scope} {own : List (Str × Nat)} {p : Pos} {ds : List D} (h : evi C cf it env = .ok ds) (hl : ds.length ≤ LIM) (h2 : ∀ d ∈ ds, lcF C cf elt tg ifs env (own.map (·.2)) d = .ok none) :
    ev C cf (.lc elt tg it ifs scope own p) env = .ok (.lst []) := lc_of h hl (lcGo_nil h2)
def Sm.isL : Sm → Bool
  | .loop _ _ _ _ => true
  | _ => false
def Sm.itx : Sm → Itx
  | .loop _ i _ _ => i
  | _ => .seq (.con .non 0 ⟨0, 0, 0, 0⟩)
theorem loop_of {C : List D} {cf : Nat → List D → Res D} {env : En} {s : Sm} {ds : List D} (hs : s.isL = true) (h : evi C cf s.itx env = .ok ds) : exe C cf s env = forGo (forB C cf s.tg s.inn) ds env := by
  cases s with
  | loop t i b p => exact loop_eq h
  | _ => cases hs
def Ex.isLc : Ex → Bool
  | .lc _ _ _ _ _ _ _ => true
  | _ => false
def Ex.lit : Ex → Itx
  | .lc _ _ it _ _ _ _ => it
  | _ => .seq (.con .non 0 ⟨0, 0, 0, 0⟩)
def Ex.lif : Ex → Ex
  | .lc _ _ _ (.some c) _ _ _ => c
  | e => e
def Ex.lelt : Ex → Ex
  | .lc e _ _ _ _ _ _ => e
  | e => e
/-- a comprehension's turn -/
def lcT (C : List D) (cf : Nat → List D → Res D) (env : En) (d : D) : Ex → Res (Option D)
  | .lc elt tg _ ifs _ own _ => lcF C cf elt tg ifs env (own.map (·.2)) d
  | _ => .no
section
variable {C : List D} {cf : Nat → List D → Res D} {env : En} {e : Ex} {ds : List D}
theorem lcs_ex {R : D → Prop} (hs : e.isLc = true) (h : evi C cf e.lit env = .ok ds) (hl : ds.length ≤ 1000000) (h2 : ∀ d ∈ ds, ∃ y, lcT C cf env d e = .ok (some y) ∧ R y) : ∃ ys, ev C cf e env = .ok (.lst ys) ∧ ys.length = ds.length ∧ ∀ y ∈ ys, R y := by
  cases e with
  | lc elt tg it ifs scope own p => exact lc_ex h hl h2
  | _ => cases hs
theorem lcs_map {g : D → D} (hs : e.isLc = true) (h : evi C cf e.lit env = .ok ds) (hl : ds.length ≤ 1000000) (h2 : ∀ d ∈ ds, lcT C cf env d e = .ok (some (g d))) : ev C cf e env = .ok (.lst (ds.map g)) := by
  cases e with
  | lc elt tg it ifs scope own p => exact lc_map h hl h2
  | _ => cases hs
theorem lcs_mapM {α : Type} {f : α → D} {g : α → D} {l : List α} (hs : e.isLc = true) (h : evi C cf e.lit env = .ok (l.map f)) (hl : l.length ≤ 1000000) (h2 : ∀ x ∈ l, lcT C cf env (f x) e = .ok (some (g x))) : ev C cf e env = .ok (.lst (l.map g)) := by
  cases e with
  | lc elt tg it ifs scope own p =>
    exact lc_of h (by rw [List.length_map]; exact hl) (lcGo_mapM h2)
  | _ => cases hs
theorem lcs_none (hs : e.isLc = true) (h : evi C cf e.lit env = .ok ds) (hl : ds.length ≤ 1000000) (h2 : ∀ d ∈ ds, lcT C cf env d e = .ok none) : ev C cf e env = .ok (.lst []) := by
  cases e with
  | lc elt tg it ifs scope own p => exact lc_none h hl h2
  | _ => cases hs
end
theorem exes_split {C : List D} {cf : Nat → List D → Res D} : ∀ (n : Nat) (b : Sms) {env env' : En}, exes C cf (b.till n) env = .nx env' → exes C cf b env = exes C cf (b.skip n) env'
  | 0, b, env, env', h => by simp only [Sms.till, exes] at h; cases h; cases b <;> rfl
  | n + 1, .nil, env, env', h => by simp only [Sms.till, exes] at h; cases h; simp only [Sms.skip, exes]
  | n + 1, .cons s r, env, env', h => by
    simp only [Sms.till, exes] at h
    simp only [Sms.skip, exes]
    cases e : exe C cf s env with
    | nx e1 => rw [e] at h; exact exes_split n r h
    | ret d => rw [e] at h; cases h
    | ex c e1 => rw [e] at h; cases h
    | no => rw [e] at h; cases h
theorem map_all {α β : Type} {f g : α → β} {l : List α} (h : l.map f = l.map g) : ∀ x ∈ l, f x = g x := List.map_inj_left.mp h
theorem ex_map {α β : Type} {f : α → β} {S : α → Prop} : ∀ {ys : List β}, (∀ y ∈ ys, ∃ x, y = f x ∧ S x) → ∃ xs : List α, ys = xs.map f ∧ xs.length = ys.length ∧ ∀ x ∈ xs, S x
  | [], _ => ⟨[], rfl, rfl, fun _ h => nomatch h⟩
  | y :: ys, h => by
    obtain ⟨x, h1, h2⟩ := h y List.mem_cons_self
    obtain ⟨xs, h3, h4, h5⟩ := ex_map fun z hz => h z (List.mem_cons_of_mem _ hz)
    refine ⟨x :: xs, by rw [List.map_cons, ← h1, ← h3], by simp [h4], fun z hz => ?_⟩
    rcases List.mem_cons.mp hz with rfl | hz
    · exact h2
    · exact h5 z hz
theorem rngR_ok (n : Int) (h0 : 0 ≤ n) (h1 : n ≤ 1000000000) : rngR 0 n = .ok (rngL 0 n) := by
  unfold rngR
  rw [if_pos ⟨by omega, by omega, by omega, h1⟩]
theorem rngL_length (n : Int) : (rngL 0 n).length = n.toNat := by
  unfold rngL
  simp
theorem rngL_len (n : Nat) : (rngL 0 (n : Int)).length = n := by
  unfold rngL
  simp
theorem mem_rngL {n : Int} {d : D} (h : d ∈ rngL 0 n) : ∃ k : Nat, (k : Int) < n ∧ d = .int k := by
  unfold rngL at h
  obtain ⟨k, hk, rfl⟩ := List.mem_map.mp h
  have := List.mem_range.mp hk
  exact ⟨k, by omega, by simp⟩
end Li

/-! more tools: lists of tuples of ints -/
namespace Li
open PySem PySem.Spec L2
open PyProof.Rows hiding St
section
variable {C : List D} {cf : Nat → List D → Res D} {env : En} {e : Ex}
theorem lcGo_filtM {α : Type} {F : D → Res (Option D)} {f g : α → D} {c : α → Bool} : ∀ {l : List α}, (∀ x ∈ l, F (f x) = .ok (if c x = true then some (g x) else none)) → lcGo F (l.map f) = .ok ((l.filter c).map g)
  | [], _ => rfl
  | x :: l, h => by
    have ih := lcGo_filtM (F := F) (f := f) (g := g) (c := c) fun y hy => h y (List.mem_cons_of_mem _ hy)
    have hx := h x List.mem_cons_self
    rw [List.map_cons]
    cases hc : c x with
    | true =>
      rw [hc, if_pos rfl] at hx
      rw [List.filter_cons_of_pos hc, List.map_cons]
      simp only [lcGo, hx, ih]
    | false =>
      rw [hc, if_neg (by decide)] at hx
      rw [List.filter_cons_of_neg (by rw [hc]; decide)]
      simp only [lcGo, hx, ih]
theorem lcs_filt {α : Type} {f g : α → D} {c : α → Bool} {l : List α} (hs : e.isLc = true) (h : evi C cf e.lit env = .ok (l.map f)) (hl : l.length ≤ 1000000) (h2 : ∀ x ∈ l, lcT C cf env (f x) e = .ok (if c x = true then some (g x) else none)) :
    ev C cf e env = .ok (.lst ((l.filter c).map g)) := by
  cases e with
  | lc elt tg it ifs scope own p => exact lc_of h (by rw [List.length_map]; exact hl) (lcGo_filtM h2)
  | _ => cases hs
end
theorem allR_true {ys : List D} (h : ∀ y ∈ ys, y = .bl true) : allR (.lst ys) = .ok (.bl true) := by
  have h1 : ys.all isBl = true := List.all_eq_true.mpr fun y hy => by rw [h y hy]; rfl
  have h2 : ys.all toB = true := List.all_eq_true.mpr fun y hy => by rw [h y hy]; rfl
  show need (ys.all isBl) (.ok (.bl (ys.all toB))) = _
  rw [h1, h2]
  rfl
theorem sh_uT (n : Nat) (l : List Int) : sh (n + 1) (uT l) = true := sh_ints n l
theorem shs_uT (n : Nat) (l : List (List Int)) : shs (n + 1) (l.map uT) = true := shs_all fun d hd => by
  obtain ⟨x, _, rfl⟩ := List.mem_map.mp hd
  exact sh_uT n x
theorem sh_lst (l : List (List Int)) : sh 60 (.lst (l.map uT)) = true := by
  have e : sh 60 (.lst (l.map uT)) = shs 59 (l.map uT) := by simp only [sh]
  rw [e]
  exact shs_uT 58 l
theorem sh_tup (l : List (List Int)) : sh 60 (.tup (l.map uT)) = true := by
  have e : sh 60 (.tup (l.map uT)) = shs 59 (l.map uT) := by simp only [sh]
  rw [e]
  exact shs_uT 58 l
theorem inR_lst (p : List Int) (L : List (List Int)) : inR (uT p) (.lst (L.map uT)) = .ok (.bl (decide (p ∈ L))) := by
  show need (sh 60 (uT p) && shs 59 (L.map uT)) (.ok (.bl (inD (uT p) (L.map uT)))) = _
  rw [sh_uT 59 p, shs_uT 58 L, inD_uT]
  rfl
theorem inR_tup (p : List Int) (L : List (List Int)) : inR (uT p) (.tup (L.map uT)) = .ok (.bl (decide (p ∈ L))) := by
  show need (sh 60 (uT p) && shs 59 (L.map uT)) (.ok (.bl (inD (uT p) (L.map uT)))) = _
  rw [sh_uT 59 p, shs_uT 58 L, inD_uT]
  rfl
theorem eqR_uT (p q : List Int) : eqR (uT p) (uT q) = .ok (.bl (decide (p = q))) := by
  show need (sh 60 (uT p) && sh 60 (uT q)) (.ok (.bl (eqDs (p.map D.int) (q.map D.int)))) = _
  rw [sh_uT 59 p, sh_uT 59 q, eqDs_ints]
  rfl
theorem neR_uT (p q : List Int) : neR (uT p) (uT q) = .ok (.bl (!decide (p = q))) := by
  show need (sh 60 (uT p) && sh 60 (uT q)) (.ok (.bl (!eqDs (p.map D.int) (q.map D.int)))) = _
  rw [sh_uT 59 p, sh_uT 59 q, eqDs_ints]
  rfl
theorem eqDs_uT : ∀ (l m : List (List Int)), eqDs (l.map uT) (m.map uT) = decide (l = m)
  | [], [] => rfl
  | [], _ :: _ => rfl
  | _ :: _, [] => rfl
  | x :: l, y :: m => by
    show (eqD (uT x) (uT y) && eqDs (l.map uT) (m.map uT)) = _
    have e : eqD (uT x) (uT y) = decide (x = y) := eqDs_ints x y
    rw [e, eqDs_uT l m]
    by_cases h : x = y <;> simp [h]
theorem eqR_lst (l m : List (List Int)) : eqR (.lst (l.map uT)) (.lst (m.map uT)) = .ok (.bl (decide (l = m))) := by
  show need (sh 60 (.lst (l.map uT)) && sh 60 (.lst (m.map uT))) (.ok (.bl (eqDs (l.map uT) (m.map uT)))) = _
  rw [sh_lst, sh_lst, eqDs_uT]
  rfl
theorem neR_lst (l m : List (List Int)) : neR (.lst (l.map uT)) (.lst (m.map uT)) = .ok (.bl (!decide (l = m))) := by
  show need (sh 60 (.lst (l.map uT)) && sh 60 (.lst (m.map uT))) (.ok (.bl (!eqDs (l.map uT) (m.map uT)))) = _
  rw [sh_lst, sh_lst, eqDs_uT]
  rfl
theorem ltR_uT (p q : List Int) : ltR (uT p) (uT q) = .ok (.bl (HT.lexLt p q)) := by
  have : ∀ l : List Int, (l.map D.int).all isInt = true := fun l => by
    rw [List.all_map]
    exact List.all_eq_true.mpr fun _ _ => rfl
  show need (((p.map D.int).all isInt && (q.map D.int).all isInt) || _) (.ok (.bl (ltDs _ _))) = _
  rw [this, this, ltDs_ints]
  rfl
theorem cutD_tail (x : D) (l : List D) : cutD (x :: l) (some 1) none = l := by
  unfold cutD
  have e1 : HT.sIx (x :: l).length 0 (some 1) = 1 := by
    unfold HT.sIx
    simp
  have e2 : HT.sIx (x :: l).length (x :: l).length none = (x :: l).length := rfl
  rw [e1, e2]
  simp
theorem zip_adj : ∀ {l : List (List Int)}, l.Pairwise (fun x y => HT.lexLt x y = true) → ∀ d ∈ zipD (l.map uT) ((l.map uT).drop 1), ∃ x y, d = .tup [uT x, uT y] ∧ HT.lexLt x y = true
  | [], _, d, hd => by cases hd
  | [x], _, d, hd => by cases hd
  | x :: y :: l, h, d, hd => by
    have hd : d ∈ D.tup [uT x, uT y] :: zipD ((y :: l).map uT) (l.map uT) := hd
    rcases List.mem_cons.mp hd with rfl | hd
    · exact ⟨x, y, rfl, (List.pairwise_cons.mp h).1 y List.mem_cons_self⟩
    · exact zip_adj (l := y :: l) (List.pairwise_cons.mp h).2 d hd
theorem lex_strict {l : List (List Int)} (h : SrtL l) (nd : l.Nodup) : l.Pairwise fun x y => HT.lexLt x y = true := by
  refine (List.Pairwise.and h nd).imp fun {x y} hxy => ?_
  cases e : HT.lexLt x y with
  | true => rfl
  | false => exact absurd (lex_anti e hxy.1) hxy.2
theorem nodup_len {l m : List (List Int)} (h : l.Nodup) (s : ∀ x ∈ l, x ∈ m) : l.length ≤ m.length := by
  induction l generalizing m with
  | nil => exact Nat.zero_le _
  | cons x l ih =>
    obtain ⟨h1, h2⟩ := List.nodup_cons.mp h
    have hx := s x List.mem_cons_self
    have := ih (m := m.erase x) h2 fun y hy => (List.mem_erase_of_ne (fun (e : y = x) => h1 (by rw [← e]; exact hy))).mpr (s y (List.mem_cons_of_mem _ hy))
    rw [List.length_erase_of_mem hx] at this
    have := List.length_pos_of_mem hx
    rw [List.length_cons]
    omega
theorem srtSet_uT {l : List (List Int)} (h : ∀ x ∈ l, x ≠ []) (hl : l.length < 300) : srtSetR (.lst (l.map uT)) = .ok (.lst ((sortL (onceL l)).map uT)) := by
  have e : (l.map uT).all isTI1 = true := by
    rw [List.all_eq_true]
    intro d hd
    obtain ⟨x, hx, rfl⟩ := List.mem_map.mp hd
    cases x with
    | nil => exact absurd rfl (h [] hx)
    | cons i x =>
      show (x.map D.int).all isInt = true
      rw [List.all_map]
      exact List.all_eq_true.mpr fun _ _ => rfl
  have hc : ((((l.map uT).all isTI1 || (l.map uT).all isInt) && decide ((l.map uT).length < 64)) || ((l.map uT).all isTI1 && decide ((onceD (l.map uT)).length < 63)) || ((l.map uT).all isTI1 && decide ((l.map uT).length < 300))) = true := by
    rw [e, List.length_map, decide_eq_true hl, Bool.true_and, Bool.true_and, Bool.or_true]
  refine (need_of hc _).trans ?_
  rw [onceD_uT, sortD_map ltD_uT fun _ _ => trivial]
theorem asB_of {r : Res D} {b : Bool} (h : r = .ok (.bl b)) : asB r = .ok b := by rw [h]; rfl
/-- a def that returns, from its run -/
theorem call_of {C : List D} {T : List Fn} {m n : Nat} {F : Fn} {ds : List D} {o : Out} (hF : T[n]? = some F) (hl : ds.length = F.ps.length) (h : exes C (callF C T m) F.body (startD F ds) = o) : callF C T (m + 1) n ds = outR o := by
  simp only [callF, hF, hl, if_true, h]
end Li

/-! running the small texts by simp, over typed data -/
namespace Li
open PySem PySem.Spec L2
open PyProof.Rows hiding St
/-! ### comprehensions over typed lists -/
def lcA {α : Type} (F : α → Res (Option D)) : List α → Res (List D)
  | [] => .ok []
  | x :: l => match F x with
    | .ok (some y) => (match lcA F l with
      | .ok r => .ok (y :: r)
      | .ex c => .ex c
      | .no => .no)
    | .ok none => lcA F l
    | .ex c => .ex c
    | .no => .no
theorem lcA_same {α : Type} {F G : α → Res (Option D)} {l : List α} (h : ∀ x, x ∈ l → F x = G x) : lcA F l = lcA G l := by
  induction l with
  | nil => rfl
  | cons x l ih => simp only [lcA, h x List.mem_cons_self, ih fun y hy => h y (List.mem_cons_of_mem _ hy)]
theorem lcGo_raw {α : Type} (F : D → Res (Option D)) (f : α → D) : ∀ l : List α, lcGo F (l.map f) = lcA (fun x => F (f x)) l
  | [] => rfl
  | x :: l => by simp only [List.map_cons, lcGo, lcA, lcGo_raw F f l] <;> rfl
/-- each item is told to be one of the list -/
theorem lcGo_A {α : Type} [DecidableEq α] (F : D → Res (Option D)) (f : α → D) (l : List α) : lcGo F (l.map f) = lcA (fun x => if x ∈ l then F (f x) else .no) l := by
  rw [lcGo_raw]
  exact lcA_same fun x hx => (if_pos hx).symm
theorem lcGo_nilA (F : D → Res (Option D)) : lcGo F [] = .ok [] := rfl
theorem lcGo_consA (F : D → Res (Option D)) (d : D) (l : List D) : lcGo F (d :: l) = match F d with
    | .ok (some y) => (match lcGo F l with
      | .ok r => .ok (y :: r)
      | .ex c => .ex c
      | .no => .no)
    | .ok none => lcGo F l
    | .ex c => .ex c
    | .no => .no := rfl
theorem lcR_some {α : Type} (g : α → D) : ∀ l : List α, lcA (fun x => .ok (some (g x))) l = .ok (l.map g)
  | [] => rfl
  | x :: l => by simp only [lcA, lcR_some g l, List.map_cons]
theorem lcR_if {α : Type} (c : α → Bool) (g : α → D) : ∀ l : List α, lcA (fun x => if c x = true then .ok (some (g x)) else .ok none) l = .ok ((l.filter c).map g)
  | [] => rfl
  | x :: l => by
    cases h : c x with
    | true => simp only [lcA, h, if_true, lcR_if c g l, List.filter_cons_of_pos h, List.map_cons]
    | false => simp only [lcA, h, Bool.false_eq_true, if_false, lcR_if c g l, List.filter_cons_of_neg (by rw [h]; decide : ¬ c x = true)]
theorem lcR_none {α : Type} : ∀ l : List α, lcA (fun _ => .ok none) l = .ok []
  | [] => rfl
  | x :: l => by simp only [lcA, lcR_none l]
theorem lcA_some {α : Type} (g : α → D) (l : List α) {d : ∀ x, Decidable (x ∈ l)} : lcA (fun x => @ite _ (x ∈ l) (d x) (.ok (some (g x))) .no) l = .ok (l.map g) := by
  rw [lcA_same (G := fun x => .ok (some (g x))) fun x hx => if_pos hx, lcR_some]
theorem lcA_if {α : Type} (c : α → Bool) (g : α → D) (l : List α) {d : ∀ x, Decidable (x ∈ l)} : lcA (fun x => @ite _ (x ∈ l) (d x) (if c x = true then .ok (some (g x)) else .ok none) .no) l = .ok ((l.filter c).map g) := by
  rw [lcA_same (G := fun x => if c x = true then .ok (some (g x)) else .ok none) fun x hx => if_pos hx, lcR_if]
theorem lcA_none {α : Type} (l : List α) {d : ∀ x, Decidable (x ∈ l)} : lcA (fun x => @ite _ (x ∈ l) (d x) (.ok none) .no) l = .ok [] := by
  rw [lcA_same (G := fun _ => .ok none) fun x hx => if_pos hx, lcR_none]
theorem lcI_some {α : Type} [DecidableEq α] (g : α → D) (l : List α) : lcA (fun x => if x ∈ l then .ok (some (g x)) else .no) l = .ok (l.map g) := lcA_some g l
theorem lcI_if {α : Type} [DecidableEq α] (c : α → Bool) (g : α → D) (l : List α) : lcA (fun x => if x ∈ l then (if c x = true then .ok (some (g x)) else .ok none) else .no) l = .ok ((l.filter c).map g) := lcA_if c g l
theorem lcI_none {α : Type} [DecidableEq α] (l : List α) : lcA (fun x => if x ∈ l then .ok none else .no) l = .ok [] := lcA_none l
theorem need_len {α β : Type} {f : α → β} {l : List α} (r : Res D) (h : l.length ≤ 1000000) : need (decide ((l.map f).length ≤ LIM)) r = r := by
  rw [List.length_map, decide_eq_true (show l.length ≤ LIM from h)]
  rfl
theorem need_le {a b : Nat} (r : Res D) (h : a ≤ b) : need (decide (a ≤ b)) r = r := by
  rw [decide_eq_true h]
  rfl
/-! ### plain data by its kind -/
class Pl {α : Type} [DecidableEq α] (f : α → D) (k : outParam Nat) : Prop where
  eq : ∀ a b, eqD (f a) (f b) = decide (a = b)
  sh : ∀ n a, sh (n + k) (f a) = true
instance : Pl D.int 0 where
  eq := fun a b => by
    show (a == b) = _
    by_cases h : a = b <;> simp [h]
  sh := fun n a => by simp [Li.sh]
instance : Pl D.bl 0 where
  eq := fun a b => by cases a <;> cases b <;> rfl
  sh := fun n a => by simp [Li.sh]
instance : Pl uT 1 where
  eq := fun a b => eqDs_ints a b
  sh := fun n a => sh_uT n a
def memB {α : Type} [DecidableEq α] (x : α) (l : List α) : Bool := decide (x ∈ l)
section
variable {α : Type} [DecidableEq α] {f : α → D} {k : Nat}
theorem sh_of [P : Pl f k] (a : α) {n : Nat} (h : k ≤ n) : sh n (f a) = true := by
  have := P.sh (n - k) a
  rwa [Nat.sub_add_cancel h] at this
theorem shs_of [P : Pl f k] (l : List α) {n : Nat} (h : k ≤ n) : shs n (l.map f) = true := shs_all fun d hd => by
  obtain ⟨x, _, rfl⟩ := List.mem_map.mp hd
  exact sh_of x h
theorem eqDs_of [P : Pl f k] : ∀ l m : List α, eqDs (l.map f) (m.map f) = decide (l = m)
  | [], [] => rfl
  | [], _ :: _ => rfl
  | _ :: _, [] => rfl
  | x :: l, y :: m => by
    show (eqD (f x) (f y) && eqDs (l.map f) (m.map f)) = _
    rw [P.eq, eqDs_of l m]
    by_cases h : x = y <;> simp [h]
theorem sh_lstE [P : Pl f k] (l : List α) {n : Nat} (h : k < n) : sh n (.lst (l.map f)) = true := by
  obtain ⟨m, rfl⟩ : ∃ m, n = m + 1 := ⟨n - 1, by omega⟩
  show shs m (l.map f) = true
  exact shs_of l (by omega)
theorem sh_tupE [P : Pl f k] (l : List α) {n : Nat} (h : k < n) : sh n (.tup (l.map f)) = true := by
  obtain ⟨m, rfl⟩ : ∃ m, n = m + 1 := ⟨n - 1, by omega⟩
  show shs m (l.map f) = true
  exact shs_of l (by omega)
theorem eqR_of {a b : D} {t : Bool} (ha : sh 60 a = true) (hb : sh 60 b = true) (e : eqD a b = t) : eqR a b = .ok (.bl t) := by
  have : eqR a b = need (sh 60 a && sh 60 b) (.ok (.bl (eqD a b))) := by
    cases a <;> first | rfl | (cases b <;> first | rfl | (simp [sh] at ha))
  rw [this, ha, hb, e]
  rfl
theorem neR_of {a b : D} {t : Bool} (ha : sh 60 a = true) (hb : sh 60 b = true) (e : eqD a b = t) : neR a b = .ok (.bl (!t)) := by
  show need (sh 60 a && sh 60 b) (.ok (.bl (!eqD a b))) = _
  rw [ha, hb, e]
  rfl
theorem eqL [P : Pl f k] (l m : List α) (h : k < 60) : eqR (.lst (l.map f)) (.lst (m.map f)) = .ok (.bl (decide (l = m))) := eqR_of (sh_lstE l h) (sh_lstE m h) (eqDs_of l m)
theorem neL [P : Pl f k] (l m : List α) (h : k < 60) : neR (.lst (l.map f)) (.lst (m.map f)) = .ok (.bl (!decide (l = m))) := neR_of (sh_lstE l h) (sh_lstE m h) (eqDs_of l m)
theorem g_eqT [P : Pl f k] (l m : List α) (h : k < 60) : eqR (.tup (l.map f)) (.tup (m.map f)) = .ok (.bl (decide (l = m))) := eqR_of (sh_tupE l h) (sh_tupE m h) (eqDs_of l m)
theorem g_neT [P : Pl f k] (l m : List α) (h : k < 60) : neR (.tup (l.map f)) (.tup (m.map f)) = .ok (.bl (!decide (l = m))) := neR_of (sh_tupE l h) (sh_tupE m h) (eqDs_of l m)
theorem eqL0 [P : Pl f k] (l : List α) (h : k < 60) : eqR (.lst (l.map f)) (.lst []) = .ok (.bl (decide (l = []))) := eqL l [] h
theorem neL0 [P : Pl f k] (l : List α) (h : k < 60) : neR (.lst (l.map f)) (.lst []) = .ok (.bl (!decide (l = []))) := neL l [] h
theorem g_eqT0 [P : Pl f k] (l : List α) (h : k < 60) : eqR (.tup (l.map f)) (.tup []) = .ok (.bl (decide (l = []))) := g_eqT l [] h
theorem g_neT0 [P : Pl f k] (l : List α) (h : k < 60) : neR (.tup (l.map f)) (.tup []) = .ok (.bl (!decide (l = []))) := g_neT l [] h
theorem memB_t {x : α} {l : List α} (h : x ∈ l) : memB x l = true := decide_eq_true h
theorem memB_f {x : α} {l : List α} (h : x ∉ l) : memB x l = false := decide_eq_false h
theorem memB_iff {x : α} {l : List α} : memB x l = true ↔ x ∈ l := decide_eq_true_iff
theorem inD_of [P : Pl f k] (x : α) : ∀ l : List α, inD (f x) (l.map f) = decide (x ∈ l)
  | [] => rfl
  | y :: l => by
    show (eqD (f y) (f x) || inD (f x) (l.map f)) = _
    rw [P.eq, inD_of x l]
    by_cases h : y = x
    · simp [h]
    · have : ¬ x = y := fun z => h z.symm
      simp [h, this]
theorem inL [P : Pl f k] (x : α) (l : List α) (h : k < 60) : inR (f x) (.lst (l.map f)) = .ok (.bl (memB x l)) := by
  show need (sh 60 (f x) && shs 59 (l.map f)) (.ok (.bl (inD (f x) (l.map f)))) = _
  rw [sh_of x (by omega), shs_of l (by omega), inD_of]
  rfl
theorem inT [P : Pl f k] (x : α) (l : List α) (h : k < 60) : inR (f x) (.tup (l.map f)) = .ok (.bl (memB x l)) := by
  show need (sh 60 (f x) && shs 59 (l.map f)) (.ok (.bl (inD (f x) (l.map f)))) = _
  rw [sh_of x (by omega), shs_of l (by omega), inD_of]
  rfl
end
theorem eqI (i j : Int) : eqR (.int i) (.int j) = .ok (.bl (decide (i = j))) := by
  show Res.ok (D.bl (i == j)) = _
  by_cases h : i = j <;> simp [h]
theorem neI (i j : Int) : neR (.int i) (.int j) = .ok (.bl (!decide (i = j))) := by
  show Res.ok (D.bl (!(i == j))) = _
  by_cases h : i = j <;> simp [h]
theorem eqN : eqR .non .non = .ok (.bl true) := by kernel_rfl
theorem neN : neR .non .non = .ok (.bl false) := by kernel_rfl
theorem eqL00 : eqR (.lst []) (.lst []) = .ok (.bl true) := by kernel_rfl
theorem neL00 : neR (.lst []) (.lst []) = .ok (.bl false) := by kernel_rfl
theorem eqT00 : eqR (.tup []) (.tup []) = .ok (.bl true) := by kernel_rfl
theorem neT00 : neR (.tup []) (.tup []) = .ok (.bl false) := by kernel_rfl
theorem eqB (i j : Bool) : eqR (.bl i) (.bl j) = .ok (.bl (decide (i = j))) := by cases i <;> cases j <;> rfl
theorem neB (i j : Bool) : neR (.bl i) (.bl j) = .ok (.bl (!decide (i = j))) := by cases i <;> cases j <;> rfl
/-! ### pairs and triples of ints -/
def u2 (x : Int × Int) : D := .tup [.int x.1, .int x.2]
def u3 (x : Int × Int × Int) : D := .tup [.int x.1, .int x.2.1, .int x.2.2]
instance : Pl u2 1 where
  eq := fun a b => by
    show ((a.1 == b.1) && ((a.2 == b.2) && true)) = _
    obtain ⟨a1, a2⟩ := a
    obtain ⟨b1, b2⟩ := b
    by_cases h : a1 = b1 <;> by_cases h2 : a2 = b2 <;> simp [h, h2]
  sh := fun n a => by simp [Li.sh, u2, shs]
instance : Pl u3 1 where
  eq := fun a b => by
    show ((a.1 == b.1) && ((a.2.1 == b.2.1) && ((a.2.2 == b.2.2) && true))) = _
    obtain ⟨a1, a2, a3⟩ := a
    obtain ⟨b1, b2, b3⟩ := b
    by_cases h : a1 = b1 <;> by_cases h2 : a2 = b2 <;> by_cases h3 : a3 = b3 <;> simp [h, h2, h3]
  sh := fun n a => by simp [Li.sh, u3, shs]
theorem bindT2 (v1 v2 : Vn) (k : Nat) (p : Pos) (x : Int × Int) (env : En) : bindT (.tup [v1, v2] k p) (u2 x) env = some ((env.set v1.i (some (.int x.1))).set v2.i (some (.int x.2))) := rfl
theorem bindT3 (v1 v2 v3 : Vn) (k : Nat) (p : Pos) (x : Int × Int × Int) (env : En) : bindT (.tup [v1, v2, v3] k p) (u3 x) env = some (((env.set v1.i (some (.int x.1))).set v2.i (some (.int x.2.1))).set v3.i (some (.int x.2.2))) := rfl
theorem bindT_n (v : Vn) (d : D) (env : En) : bindT (.name v) d env = some (env.set v.i (some d)) := rfl
theorem bindT_t (vs : List Vn) (k : Nat) (p : Pos) (ds : List D) (env : En) : bindT (.tup vs k p) (.tup ds) env = setAll vs ds env := rfl
theorem tupU2 (a b : Int) : D.tup [.int a, .int b] = u2 (a, b) := rfl
theorem tupU3 (a b c : Int) : D.tup [.int a, .int b, .int c] = u3 (a, b, c) := rfl
theorem len_u2 (x : Int × Int) : lenR (u2 x) = .ok (.int 2) := rfl
theorem len_u3 (x : Int × Int × Int) : lenR (u3 x) = .ok (.int 3) := rfl
theorem len_uT (l : List Int) : lenR (uT l) = .ok (.int l.length) := by
  show Res.ok (D.int ((l.map D.int).length : Nat)) = _
  rw [List.length_map]
theorem ln_L {α : Type} {f : α → D} (l : List α) : lenR (.lst (l.map f)) = .ok (.int l.length) := by
  show Res.ok (D.int ((l.map f).length : Nat)) = _
  rw [List.length_map]
theorem ln_T {α : Type} {f : α → D} (l : List α) : lenR (.tup (l.map f)) = .ok (.int l.length) := by
  show Res.ok (D.int ((l.map f).length : Nat)) = _
  rw [List.length_map]
theorem isi_u2 (x : Int × Int) : isiR .tuple (u2 x) = .ok (.bl true) := rfl
theorem isi_u3 (x : Int × Int × Int) : isiR .tuple (u3 x) = .ok (.bl true) := rfl
theorem isi_uT (l : List Int) : isiR .tuple (uT l) = .ok (.bl true) := rfl
theorem isi_T (l : List D) : isiR .tuple (.tup l) = .ok (.bl true) := rfl
theorem isi_I (i : Int) : isiR .int (.int i) = .ok (.bl true) := rfl
theorem isi_I' (i : Int) : isiR .bool (.int i) = .ok (.bl false) := rfl
theorem ix_u2a (x : Int × Int) : ixR (u2 x) (.int 0) = .ok (.int x.1) := rfl
theorem ix_u2b (x : Int × Int) : ixR (u2 x) (.int 1) = .ok (.int x.2) := rfl
theorem ix_u3a (x : Int × Int × Int) : ixR (u3 x) (.int 0) = .ok (.int x.1) := rfl
theorem ix_u3b (x : Int × Int × Int) : ixR (u3 x) (.int 1) = .ok (.int x.2.1) := rfl
theorem ix_u3c (x : Int × Int × Int) : ixR (u3 x) (.int 2) = .ok (.int x.2.2) := rfl
theorem ix_L {α : Type} {f : α → D} {l : List α} {i : Int} {x : α} (h0 : 0 ≤ i) (h : l[i.toNat]? = some x) : ixR (.lst (l.map f)) (.int i) = .ok (f x) := by
  have hl : i.toNat < l.length := (List.getElem?_eq_some_iff.mp h).1
  have e : atI (l.map f) i = some (f x) := by
    unfold atI L2.ixN
    rw [if_pos h0, List.length_map, if_pos (by omega)]
    show (l.map f)[i.toNat]? = _
    rw [List.getElem?_map, h]
    rfl
  simp only [ixR, e]
theorem ix_T {α : Type} {f : α → D} {l : List α} {i : Int} {x : α} (h0 : 0 ≤ i) (h : l[i.toNat]? = some x) : ixR (.tup (l.map f)) (.int i) = .ok (f x) := by
  have hl : i.toNat < l.length := (List.getElem?_eq_some_iff.mp h).1
  have e : atI (l.map f) i = some (f x) := by
    unfold atI L2.ixN
    rw [if_pos h0, List.length_map, if_pos (by omega)]
    show (l.map f)[i.toNat]? = _
    rw [List.getElem?_map, h]
    rfl
  simp only [ixR, e]
theorem seq_uT (l : List Int) : seqS (uT l) = .ok (l.map D.int) := rfl
theorem seq_L (l : List D) : seqS (.lst l) = .ok l := rfl
theorem seq_T (l : List D) : seqS (.tup l) = .ok l := rfl
theorem sr_uT (l : List Int) : seqR (uT l) = .ok (l.map D.int) := rfl
theorem sr_L (l : List D) : seqR (.lst l) = .ok l := rfl
theorem sr_T (l : List D) : seqR (.tup l) = .ok l := rfl
/-! ### ints -/
theorem ltI_t {i j : Int} (h : i < j) : ltR (.int i) (.int j) = .ok (.bl true) := by
  show Res.ok (D.bl (decide (i < j))) = _
  rw [decide_eq_true h]
theorem ltI_f {i j : Int} (h : j ≤ i) : ltR (.int i) (.int j) = .ok (.bl false) := by
  show Res.ok (D.bl (decide (i < j))) = _
  rw [decide_eq_false (by omega)]
theorem leI_t {i j : Int} (h : i ≤ j) : leR (.int i) (.int j) = .ok (.bl true) := by
  show Res.ok (D.bl (decide (i ≤ j))) = _
  rw [decide_eq_true h]
theorem leI_f {i j : Int} (h : j < i) : leR (.int i) (.int j) = .ok (.bl false) := by
  show Res.ok (D.bl (decide (i ≤ j))) = _
  rw [decide_eq_false (by omega)]
theorem ltI (i j : Int) : ltR (.int i) (.int j) = .ok (.bl (decide (i < j))) := rfl
theorem leI (i j : Int) : leR (.int i) (.int j) = .ok (.bl (decide (i ≤ j))) := rfl
theorem mulI {i j : Int} (h : (-(18446744073709551616) < i ∧ i < 18446744073709551616) ∨ (-(18446744073709551616) < j ∧ j < 18446744073709551616)) : mulR (.int i) (.int j) = .ok (.int (i * j)) := by
  refine need_of ?_ _
  rcases h with h | h
  · exact mulOk_l h.1 h.2
  · exact mulOk_r h.1 h.2
theorem modI {i j : Int} (h : 0 < j) : binR .mod (.int i) (.int j) = .ok (.int (i % j)) := binR_mod i j h
theorem divI {i j : Int} (h : 0 < j ∧ j < 1073741824) : binR .fdiv (.int i) (.int j) = .ok (.int (i / j)) := binR_fdiv i j h.1 h.2
theorem addD (a b : D) : binR .add a b = addR a b := rfl
theorem mulD (a b : D) : binR .mul a b = mulR a b := rfl
theorem addI (i j : Int) : addR (.int i) (.int j) = .ok (.int (i + j)) := rfl
theorem addL {α : Type} {f : α → D} (a b : List α) (h : a.length + b.length ≤ 1000000) : addR (.lst (a.map f)) (.lst (b.map f)) = .ok (.lst ((a ++ b).map f)) := by
  show need (decide ((a.map f).length + (b.map f).length ≤ LIM)) (.ok (.lst (a.map f ++ b.map f))) = _
  rw [List.length_map, List.length_map, List.map_append]
  exact need_of (decide_eq_true h) _
theorem addT {α : Type} {f : α → D} (a b : List α) (h : a.length + b.length ≤ 1000000) : addR (.tup (a.map f)) (.tup (b.map f)) = .ok (.tup ((a ++ b).map f)) := by
  show need (decide ((a.map f).length + (b.map f).length ≤ LIM)) (.ok (.tup (a.map f ++ b.map f))) = _
  rw [List.length_map, List.length_map, List.map_append]
  exact need_of (decide_eq_true h) _
theorem rng0 {j : Int} (h : 0 ≤ j ∧ j ≤ 1000000000) : rngR 0 j = .ok ((List.range j.toNat).map fun k : Nat => D.int (k : Int)) := by
  rw [rngR_ok j h.1 h.2]
  unfold rngL
  rw [Int.sub_zero]
  congr 1
  refine List.map_congr_left fun k _ => ?_
  rw [Int.zero_add]
theorem mulL0 (x : D) : mulR (.lst [x]) (.int 0) = .ok (.lst []) := by kernel_rfl
theorem mulL1 (x : D) : mulR (.lst [x]) (.int 1) = .ok (.lst [x]) := by kernel_rfl
theorem addL0 {α : Type} {f : α → D} (a : List α) (h : a.length ≤ 1000000) : addR (.lst (a.map f)) (.lst []) = .ok (.lst (a.map f)) := by
  have := addL (f := f) a [] (by simpa using h)
  rw [List.append_nil] at this
  exact this
theorem addL1 {α : Type} {f : α → D} (a : List α) (x : α) (h : a.length < 1000000) : addR (.lst (a.map f)) (.lst [f x]) = .ok (.lst ((a ++ [x]).map f)) := addL (f := f) a [x] h
theorem appL {α : Type} {f : α → D} (a : List α) (x : α) (h : a.length < 1000000) : mutR .append (a.map f) (f x) = .ok ((a ++ [x]).map f) := by
  show (if (a.map f).length < LIM then Res.ok (a.map f ++ [f x]) else .no) = _
  rw [List.length_map, if_pos (show a.length < LIM from h), List.map_append]
  rfl
theorem app_any (l : List D) (d : D) (h : l.length < 1000000) : mutR .append l d = .ok (l ++ [d]) := if_pos h
theorem extL {α : Type} {f : α → D} (a b : List α) (h : a.length + b.length ≤ 1000000) : mutR .extend (a.map f) (.lst (b.map f)) = .ok ((a ++ b).map f) := by
  show (if (a.map f).length + (b.map f).length ≤ LIM then Res.ok (a.map f ++ b.map f) else .no) = _
  rw [List.length_map, List.length_map, if_pos (show a.length + b.length ≤ LIM from h), List.map_append]
theorem allR_map {α : Type} (c : α → Bool) (l : List α) : allR (.lst (l.map fun x => .bl (c x))) = .ok (.bl (l.all c)) := by
  have h1 : (l.map fun x => D.bl (c x)).all isBl = true := List.all_eq_true.mpr fun y hy => by
    obtain ⟨x, _, rfl⟩ := List.mem_map.mp hy
    rfl
  have h2 : (l.map fun x => D.bl (c x)).all toB = l.all c := by
    rw [List.all_map]
    rfl
  show need ((l.map fun x => D.bl (c x)).all isBl) (.ok (.bl ((l.map fun x => D.bl (c x)).all toB))) = _
  rw [h1, h2]
  rfl
theorem allR_t {α : Type} (l : List α) : allR (.lst (l.map fun _ => .bl true)) = .ok (.bl true) := by
  rw [allR_map fun _ => true]
  congr 2
  exact List.all_eq_true.mpr fun _ _ => rfl
section
variable {α : Type} [DecidableEq α] {f : α → D} {k : Nat}
theorem once_go [P : Pl f k] : ∀ (l a : List α), (a ++ l).Nodup → (l.map f).foldl (fun acc x => if inD x acc = true then acc else acc ++ [x]) (a.map f) = (a ++ l).map f
  | [], a, _ => by rw [List.append_nil]; rfl
  | x :: l, a, h => by
    have hx : x ∉ a := fun hx => by
      have := (List.nodup_append.mp h).2.2 x hx x List.mem_cons_self
      exact this rfl
    rw [List.map_cons, List.foldl_cons, inD_of x a, decide_eq_false hx, if_neg (by decide)]
    have e : a.map f ++ [f x] = (a ++ [x]).map f := by rw [List.map_append]; rfl
    rw [e, once_go l (a ++ [x]) (by rw [List.append_assoc]; exact h), List.append_assoc]
    rfl
theorem once_nd [P : Pl f k] {l : List α} (h : l.Nodup) : onceD (l.map f) = l.map f := once_go l [] h
end
theorem lenSet2 {l : List (Int × Int)} (h : l.Nodup) (hl : l.length < 64) : lenSetR (.tup (l.map u2)) = .ok (.int l.length) := by
  have a : (l.map u2).all isTI = true := List.all_eq_true.mpr fun d hd => by
    obtain ⟨x, _, rfl⟩ := List.mem_map.mp hd
    rfl
  show need ((l.map u2).all isTI && decide ((l.map u2).length < 64)) (.ok (.int (onceD (l.map u2)).length)) = _
  rw [a, once_nd h, List.length_map, decide_eq_true hl]
  rfl
theorem and_ok (a b : Bool) : (if a = true then Res.ok (D.bl b) else .ok (.bl a)) = .ok (.bl (a && b)) := by cases a <;> rfl
theorem or_ok (a b : Bool) : (if a = false then Res.ok (D.bl b) else .ok (.bl a)) = .ok (.bl (a || b)) := by cases a <;> rfl
theorem chain_ok (a b : Bool) : (if a = true then Res.ok (D.bl b) else .ok (.bl false)) = .ok (.bl (a && b)) := by cases a <;> rfl
theorem ix_0 (d : D) (l : List D) : ixR (.lst (d :: l)) (.int 0) = .ok d := by
  have : atI (d :: l) 0 = some d := by
    unfold atI L2.ixN
    rw [if_pos (Int.le_refl 0), if_pos (by rw [List.length_cons]; omega)]
    rfl
  simp only [ixR, this]
theorem sIx_pos (n d : Nat) {k : Int} (h : 0 ≤ k) : HT.sIx n d (some k) = min k.toNat n := by
  unfold HT.sIx
  simp only
  split <;> omega
theorem cut_to {α : Type} {f : α → D} (l : List α) {k : Int} (h : 0 ≤ k) : cutD (l.map f) none (some k) = (l.take k.toNat).map f := by
  unfold cutD
  have e : HT.sIx (l.map f).length 0 none = 0 := rfl
  rw [sIx_pos _ _ h, e, List.drop_zero, Nat.sub_zero, List.map_take, List.length_map]
  by_cases hk : k.toNat ≤ l.length
  · rw [Nat.min_eq_left hk]
  · rw [Nat.min_eq_right (by omega), List.take_of_length_le (by rw [List.length_map]; exact Nat.le_refl _), List.take_of_length_le (by rw [List.length_map]; omega)]
theorem cut_from {α : Type} {f : α → D} (l : List α) {k : Int} (h : 0 ≤ k) : cutD (l.map f) (some k) none = (l.drop k.toNat).map f := by
  unfold cutD
  have e : HT.sIx (l.map f).length (l.map f).length none = (l.map f).length := rfl
  rw [sIx_pos _ _ h, e, List.map_drop, List.length_map]
  by_cases hk : k.toNat ≤ l.length
  · rw [Nat.min_eq_left hk, List.take_of_length_le (by rw [List.length_drop, List.length_map]; exact Nat.le_refl _)]
  · rw [Nat.min_eq_right (by omega), Nat.sub_self, List.take_zero, List.drop_of_length_le (by rw [List.length_map]; omega)]
theorem slcTo_L {α : Type} {f : α → D} (l : List α) {k : Int} (h : 0 ≤ k) : slcR (.lst (l.map f)) none (some k) = .ok (.lst ((l.take k.toNat).map f)) := by
  show Res.ok (D.lst (cutD (l.map f) none (some k))) = _
  rw [cut_to l h]
theorem slcTo_T {α : Type} {f : α → D} (l : List α) {k : Int} (h : 0 ≤ k) : slcR (.tup (l.map f)) none (some k) = .ok (.tup ((l.take k.toNat).map f)) := by
  show Res.ok (D.tup (cutD (l.map f) none (some k))) = _
  rw [cut_to l h]
theorem slcFrom_L {α : Type} {f : α → D} (l : List α) {k : Int} (h : 0 ≤ k) : slcR (.lst (l.map f)) (some k) none = .ok (.lst ((l.drop k.toNat).map f)) := by
  show Res.ok (D.lst (cutD (l.map f) (some k) none)) = _
  rw [cut_from l h]
theorem slcFrom_T {α : Type} {f : α → D} (l : List α) {k : Int} (h : 0 ≤ k) : slcR (.tup (l.map f)) (some k) none = .ok (.tup ((l.drop k.toNat).map f)) := by
  show Res.ok (D.tup (cutD (l.map f) (some k) none)) = _
  rw [cut_from l h]
theorem rev_T {α : Type} {f : α → D} (l : List α) : revR (.tup (l.map f)) = .ok (.tup (l.reverse.map f)) := by
  show Res.ok (D.tup (l.map f).reverse) = _
  rw [List.map_reverse]
theorem rev_L {α : Type} {f : α → D} (l : List α) : revR (.lst (l.map f)) = .ok (.lst (l.reverse.map f)) := by
  show Res.ok (D.lst (l.map f).reverse) = _
  rw [List.map_reverse]
def repL {α : Type} (l : List α) (k : Nat) : List α := (List.replicate k l).flatten
theorem repD_map {α : Type} {f : α → D} (l : List α) (k : Int) : repD (l.map f) k = (repL l k.toNat).map f := by
  unfold repD repL
  generalize k.toNat = n
  induction n with
  | zero => rfl
  | succ n ih => rw [List.replicate_succ, List.replicate_succ, List.flatten_cons, List.flatten_cons, List.map_append, ih]
theorem mulRep {α : Type} {f : α → D} (l : List α) {k : Int} (h : 0 ≤ k ∧ k ≤ 1000) (hl : l.length ≤ 1000) : mulR (.lst (l.map f)) (.int k) = .ok (.lst ((repL l k.toNat).map f)) := by
  show need (decide (-1000000000 ≤ k) && decide (k ≤ 1000000000) && decide ((l.map f).length * k.toNat ≤ LIM)) (.ok (.lst (repD (l.map f) k))) = _
  rw [repD_map, List.length_map]
  refine need_of ?_ _
  have : l.length * k.toNat ≤ 1000 * 1000 := Nat.mul_le_mul hl (by omega)
  rw [decide_eq_true (by omega), decide_eq_true (by omega), decide_eq_true (show l.length * k.toNat ≤ LIM from this)]
  rfl
theorem repL_one {α : Type} (x : α) (k : Nat) : repL [x] k = List.replicate k x := by
  unfold repL
  induction k with
  | zero => rfl
  | succ k ih => rw [List.replicate_succ, List.flatten_cons, ih, List.replicate_succ]; rfl
theorem mulOne {α : Type} {f : α → D} (x : α) {k : Int} (h : 0 ≤ k ∧ k ≤ 1000) : mulR (.lst [f x]) (.int k) = .ok (.lst ((List.replicate k.toNat x).map f)) := by
  have := mulRep (f := f) [x] h (by simp)
  rw [repL_one] at this
  exact this
theorem slcMid_L {α : Type} {f : α → D} (l : List α) {s e : Int} (h0 : 0 ≤ s) (h1 : s ≤ e) (h2 : e ≤ (l.length : Int)) : slcR (.lst (l.map f)) (some s) (some e) = .ok (.lst (((l.drop s.toNat).take (e.toNat - s.toNat)).map f)) := by
  show Res.ok (D.lst (cutD (l.map f) (some s) (some e))) = _
  unfold cutD
  rw [sIx_pos _ _ h0, sIx_pos _ _ (by omega), List.length_map, Nat.min_eq_left (by omega), Nat.min_eq_left (by omega), List.map_take, List.map_drop]
theorem slcIn_L {α : Type} {f : α → D} (x y : α) (l : List α) : slcR (.lst ((x :: (l ++ [y])).map f)) (some 1) (some (-1)) = .ok (.lst (l.map f)) := by
  show Res.ok (D.lst (cutD ((x :: (l ++ [y])).map f) (some 1) (some (-1)))) = _
  unfold cutD
  have e1 : HT.sIx ((x :: (l ++ [y])).map f).length 0 (some 1) = 1 := by
    rw [sIx_pos _ _ (by decide), List.length_map]
    simp
  have e2 : HT.sIx ((x :: (l ++ [y])).map f).length ((x :: (l ++ [y])).map f).length (some (-1)) = l.length + 1 := by
    unfold HT.sIx
    rw [List.length_map]
    simp
    omega
  rw [e1, e2]
  congr 2
  simp
/-! ### statements -/
def setR : D → D → D → Res D
  | .lst l, .int k, d => (match ixN l.length k with
    | some j => .ok (.lst (l.set j d))
    | none => .no)
  | _, _, _ => .no
section
variable {C : List D} {cf : Nat → List D → Res D} {env : En}
theorem exe_asg (v : Vn) (e : Ex) (p : Pos) : exe C cf (.asg v e p) env = (ev C cf e env).out env fun d => .nx (env.set v.i (some d)) := by simp only [exe]
theorem exe_asgt (vs : List Vn) (k : Nat) (pt : Pos) (e : Ex) (p : Pos) : exe C cf (.asgt vs k pt e p) env = (ev C cf e env).out env fun d => match bindT (.tup vs k pt) d env with
    | some en => .nx en
    | none => .no := by
  simp only [exe] <;> cases ev C cf e env <;> first | rfl | (rename_i o; cases o <;> rfl)
theorem exe_setix (v : Vn) (i : Ex) (ps : Pos) (e : Ex) (p : Pos) : exe C cf (.setix v i ps e p) env = (ev C cf e env).out env fun d => (env.get v.i).out env fun o => (ev C cf i env).out env fun k => (setR o k d).out env fun o' => .nx (env.set v.i (some o')) := by
  simp only [exe]
  cases ev C cf e env with
  | ok d =>
    show ((env.get v.i).out env fun o => _) = ((env.get v.i).out env fun o => _)
    cases env.get v.i with
    | ok o =>
      show ((ev C cf i env).out env fun k => _) = ((ev C cf i env).out env fun k => _)
      cases ev C cf i env with
      | ok k =>
        cases o with
        | lst l =>
          cases k with
          | int j =>
            show (match ixN l.length j with
              | some j => Out.nx (env.set v.i (some (.lst (l.set j d))))
              | none => .no) = (match ixN l.length j with
              | some j => Res.ok (D.lst (l.set j d))
              | none => .no).out env fun o' => .nx (env.set v.i (some o'))
            cases ixN l.length j <;> rfl
          | _ => rfl
        | _ => rfl
      | ex c => rfl
      | no => rfl
    | ex c => rfl
    | no => rfl
  | ex c => rfl
  | no => rfl
theorem exe_mut (m : Mm) (v : Vn) (e : Ex) (pa pc p : Pos) : exe C cf (.mut m v e pa pc p) env = (env.get v.i).out env fun o => match o with
    | .lst l => (ev C cf e env).out env fun d => (mutR m l d).out env fun l' => .nx (env.set v.i (some (.lst l')))
    | _ => .no := by
  simp only [exe] <;> cases env.get v.i <;> first | rfl | (rename_i o; cases o <;> rfl)
theorem exe_expr (e : Ex) (p : Pos) : exe C cf (.expr e p) env = (ev C cf e env).out env fun _ => .nx env := by simp only [exe]
theorem exe_ret (e : Ex) (p : Pos) : exe C cf (.ret e p) env = (ev C cf e env).out env fun d => .ret d := by simp only [exe]
theorem exe_cond (c : Ex) (a b : Sms) (p : Pos) : exe C cf (.cond c a b p) env = (asB (ev C cf c env)).out env fun t => if t = true then exes C cf a env else exes C cf b env := by simp only [exe]
theorem exe_rais (c : Nat) (x msg : Str) (k : Nat) (px pm pc p : Pos) : exe C cf (.rais c x msg k px pm pc p) env = .ex c env := by simp only [exe]
theorem exe_pass (p : Pos) : exe C cf (.pass p) env = .nx env := by simp only [exe]
end
theorem bnd_ex {α β : Type} (c : Nat) (f : α → Res β) : (Res.ex c : Res α).bind f = .ex c := rfl
theorem out_ex {α : Type} {env : En} (c : Nat) (f : α → Out) : (Res.ex c : Res α).out env f = .ex c env := rfl
theorem asB_ex (c : Nat) : asB (.ex c) = .ex c := rfl
theorem notR_ex (c : Nat) : notR (.ex c) = .ex c := rfl
theorem exe_tryr {C : List D} {cf : Nat → List D → Res D} {env : En} (b : Sms) (r : RefE) (np : Pos) (v : Vn) (pf pc pr ph p : Pos) : exe C cf (.tryr b r np v pf pc pr ph p) env = match exes C cf b env with
    | .ex c en => (match r.tap[c]? with
      | some true => if v.i < en.length then .ret (refV r c) else .no
      | some false => .ex c en
      | none => .no)
    | o => o := by
  simp only [exe] <;> cases exes C cf b env <;> rfl
theorem isi_no (t : Ty) : isiR t .non = .ok (.bl false) := by cases t <;> rfl
theorem isi_bt (b : Bool) : isiR .bool (.bl b) = .ok (.bl true) := rfl
theorem isi_bi (b : Bool) : isiR .int (.bl b) = .ok (.bl true) := rfl
theorem isi_bp (b : Bool) : isiR .tuple (.bl b) = .ok (.bl false) := rfl
theorem isi_si (s : Str) : isiR .int (.str s) = .ok (.bl false) := rfl
theorem isi_st (s : Str) : isiR .tuple (.str s) = .ok (.bl false) := rfl
theorem isi_li (l : List D) : isiR .int (.lst l) = .ok (.bl false) := rfl
theorem isi_lt (l : List D) : isiR .tuple (.lst l) = .ok (.bl false) := rfl
theorem isi_ti (l : List D) : isiR .int (.tup l) = .ok (.bl false) := rfl
theorem isi_it (i : Int) : isiR .tuple (.int i) = .ok (.bl false) := rfl
theorem nl0 (r : Res D) : need (decide (([] : List D).length ≤ LIM)) r = r := need_of (by kernel_rfl) r
theorem tl0 : lenR (.tup ([] : List D)) = .ok (.int 0) := rfl
theorem ll0 : lenR (.lst ([] : List D)) = .ok (.int 0) := rfl
theorem nl1 (a0 : D) (r : Res D) : need (decide ([a0].length ≤ LIM)) r = r := need_of (by kernel_rfl) r
theorem tl1 (a0 : D) : lenR (.tup [a0]) = .ok (.int 1) := rfl
theorem ll1 (a0 : D) : lenR (.lst [a0]) = .ok (.int 1) := rfl
theorem nl2 (a0 : D) (a1 : D) (r : Res D) : need (decide ([a0, a1].length ≤ LIM)) r = r := need_of (by kernel_rfl) r
theorem tl2 (a0 : D) (a1 : D) : lenR (.tup [a0, a1]) = .ok (.int 2) := rfl
theorem ll2 (a0 : D) (a1 : D) : lenR (.lst [a0, a1]) = .ok (.int 2) := rfl
theorem nl3 (a0 : D) (a1 : D) (a2 : D) (r : Res D) : need (decide ([a0, a1, a2].length ≤ LIM)) r = r := need_of (by kernel_rfl) r
theorem tl3 (a0 : D) (a1 : D) (a2 : D) : lenR (.tup [a0, a1, a2]) = .ok (.int 3) := rfl
theorem ll3 (a0 : D) (a1 : D) (a2 : D) : lenR (.lst [a0, a1, a2]) = .ok (.int 3) := rfl
theorem nl4 (a0 : D) (a1 : D) (a2 : D) (a3 : D) (r : Res D) : need (decide ([a0, a1, a2, a3].length ≤ LIM)) r = r := need_of (by kernel_rfl) r
theorem tl4 (a0 : D) (a1 : D) (a2 : D) (a3 : D) : lenR (.tup [a0, a1, a2, a3]) = .ok (.int 4) := rfl
theorem ll4 (a0 : D) (a1 : D) (a2 : D) (a3 : D) : lenR (.lst [a0, a1, a2, a3]) = .ok (.int 4) := rfl
theorem nl5 (a0 : D) (a1 : D) (a2 : D) (a3 : D) (a4 : D) (r : Res D) : need (decide ([a0, a1, a2, a3, a4].length ≤ LIM)) r = r := need_of (by kernel_rfl) r
theorem tl5 (a0 : D) (a1 : D) (a2 : D) (a3 : D) (a4 : D) : lenR (.tup [a0, a1, a2, a3, a4]) = .ok (.int 5) := rfl
theorem ll5 (a0 : D) (a1 : D) (a2 : D) (a3 : D) (a4 : D) : lenR (.lst [a0, a1, a2, a3, a4]) = .ok (.int 5) := rfl
theorem nl6 (a0 : D) (a1 : D) (a2 : D) (a3 : D) (a4 : D) (a5 : D) (r : Res D) : need (decide ([a0, a1, a2, a3, a4, a5].length ≤ LIM)) r = r := need_of (by kernel_rfl) r
theorem tl6 (a0 : D) (a1 : D) (a2 : D) (a3 : D) (a4 : D) (a5 : D) : lenR (.tup [a0, a1, a2, a3, a4, a5]) = .ok (.int 6) := rfl
theorem ll6 (a0 : D) (a1 : D) (a2 : D) (a3 : D) (a4 : D) (a5 : D) : lenR (.lst [a0, a1, a2, a3, a4, a5]) = .ok (.int 6) := rfl
theorem nl7 (a0 : D) (a1 : D) (a2 : D) (a3 : D) (a4 : D) (a5 : D) (a6 : D) (r : Res D) : need (decide ([a0, a1, a2, a3, a4, a5, a6].length ≤ LIM)) r = r := need_of (by kernel_rfl) r
theorem tl7 (a0 : D) (a1 : D) (a2 : D) (a3 : D) (a4 : D) (a5 : D) (a6 : D) : lenR (.tup [a0, a1, a2, a3, a4, a5, a6]) = .ok (.int 7) := rfl
theorem ll7 (a0 : D) (a1 : D) (a2 : D) (a3 : D) (a4 : D) (a5 : D) (a6 : D) : lenR (.lst [a0, a1, a2, a3, a4, a5, a6]) = .ok (.int 7) := rfl
theorem nl8 (a0 : D) (a1 : D) (a2 : D) (a3 : D) (a4 : D) (a5 : D) (a6 : D) (a7 : D) (r : Res D) : need (decide ([a0, a1, a2, a3, a4, a5, a6, a7].length ≤ LIM)) r = r := need_of (by kernel_rfl) r
theorem tl8 (a0 : D) (a1 : D) (a2 : D) (a3 : D) (a4 : D) (a5 : D) (a6 : D) (a7 : D) : lenR (.tup [a0, a1, a2, a3, a4, a5, a6, a7]) = .ok (.int 8) := rfl
theorem ll8 (a0 : D) (a1 : D) (a2 : D) (a3 : D) (a4 : D) (a5 : D) (a6 : D) (a7 : D) : lenR (.lst [a0, a1, a2, a3, a4, a5, a6, a7]) = .ok (.int 8) := rfl
theorem refD_eq (n : Int) : refD n = .tup [.str "refused", .int n] := rfl
/-! ### marks of places -/
def endsD (n : Nat) (en : Int → Int) : D := .lst ((List.range n).map fun q : Nat => D.int (en (q : Int)))
theorem ends0 {n : Nat} (h : n ≤ 1000000) : mulR (.lst [.int 0]) (.int (n : Int)) = .ok (endsD n fun _ => 0) := by
  show need (decide (-1000000000 ≤ (n : Int)) && decide ((n : Int) ≤ 1000000000) && decide ([D.int 0].length * (n : Int).toNat ≤ LIM)) (.ok (.lst (repD [D.int 0] (n : Int)))) = _
  have e : repD [D.int 0] (n : Int) = (List.range n).map fun q : Nat => D.int 0 := by
    unfold repD
    rw [Int.toNat_natCast]
    refine List.ext_getElem? fun i => ?_
    have : (List.replicate n [D.int 0]).flatten = List.replicate n (D.int 0) := by
      clear h
      induction n with
      | zero => rfl
      | succ n ih => rw [List.replicate_succ, List.flatten_cons, ih]; rfl
    rw [this, List.getElem?_map, List.getElem?_replicate]
    by_cases hi : i < n
    · rw [if_pos hi, List.getElem?_range hi]
      rfl
    · rw [if_neg hi, List.getElem?_eq_none (by rw [List.length_range]; omega)]
      rfl
  rw [e]
  refine need_of ?_ _
  rw [decide_eq_true (by omega), decide_eq_true (by omega), decide_eq_true (by simp; omega)]
  rfl
theorem ends_ix {n : Nat} {en : Int → Int} {p : Int} (h0 : 0 ≤ p) (h1 : p < (n : Int)) : ixR (endsD n en) (.int p) = .ok (.int (en p)) := by
  unfold endsD
  rw [ix_L (x := p.toNat) h0 (by rw [List.getElem?_range (by omega)])]
  rw [Int.toNat_of_nonneg h0]
theorem ends_set {n : Nat} {en : Int → Int} {p x : Int} (h0 : 0 ≤ p) (h1 : p < (n : Int)) : setR (endsD n en) (.int p) (.int x) = .ok (endsD n fun q => if q = p then x else en q) := by
  unfold endsD setR
  have e : ixN ((List.range n).map fun q : Nat => D.int (en (q : Int))).length p = some p.toNat := by
    unfold L2.ixN
    rw [if_pos h0, List.length_map, List.length_range, if_pos h1]
  simp only [e]
  congr 2
  refine List.ext_getElem? fun i => ?_
  rw [List.getElem?_set, List.getElem?_map, List.length_map, List.length_range]
  by_cases hi : p.toNat = i
  · subst hi
    have hp : p.toNat < n := by omega
    rw [if_pos rfl, if_pos hp, List.getElem?_map, List.getElem?_range hp]
    show some (D.int x) = some (D.int (if ((p.toNat : Nat) : Int) = p then x else en (p.toNat : Nat)))
    rw [if_pos (Int.toNat_of_nonneg h0)]
  · rw [if_neg hi]
    by_cases hn : i < n
    · rw [List.getElem?_map, List.getElem?_range hn]
      show some (D.int (en i)) = some (D.int (if (i : Int) = p then x else en i))
      rw [if_neg (by omega)]
    · rw [List.getElem?_map, List.getElem?_eq_none (by rw [List.length_range]; omega)]
      rfl
theorem mx2 (i j : Int) : max2 i j = max i j := by
  unfold max2
  split <;> omega
theorem mn2 (i j : Int) : min2 i j = min i j := by
  unfold min2
  split <;> omega
theorem zip_map {α β : Type} {f : α → D} {g : β → D} : ∀ (l : List α) (r : List β), zipD (l.map f) (r.map g) = (l.zip r).map fun x => D.tup [f x.1, g x.2]
  | [], _ => by cases ‹List β› <;> rfl
  | _ :: _, [] => rfl
  | x :: l, y :: r => by
    show D.tup [f x, g y] :: zipD (l.map f) (r.map g) = _
    rw [zip_map l r]
    rfl
def optI : Option Int → D
  | none => .non
  | some i => .int i
def maxO : List Int → Option Int
  | [] => none
  | x :: l => some (maxI (x :: l))
theorem mxd_max (l : List Int) : mxdR true (.lst (l.map D.int)) .non = .ok (optI (maxO l)) := by
  have a : (l.map D.int).all isInt = true := by
    rw [List.all_map]
    exact List.all_eq_true.mpr fun _ _ => rfl
  show need ((l.map D.int).all isInt && true) (.ok (if (l.map D.int).isEmpty then .non else .int (maxI ((l.map D.int).map toI)))) = _
  rw [a, List.map_map]
  have e : (toI ∘ D.int) = id := rfl
  rw [e, List.map_id]
  cases l <;> rfl
theorem max_list {l : List Int} {i : Int} (h : maxO l = some i) : bltR .max [.lst (l.map D.int)] = .ok (.int i) := by
  have a : (l.map D.int).all isInt = true := by
    rw [List.all_map]
    exact List.all_eq_true.mpr fun _ _ => rfl
  cases l with
  | nil => cases h
  | cons x l =>
    show need (((x :: l).map D.int).all isInt && true) (.ok (.int (maxI (((x :: l).map D.int).map toI)))) = _
    rw [a, List.map_map]
    have e : (toI ∘ D.int) = id := rfl
    rw [e, List.map_id]
    have : maxI (x :: l) = i := Option.some.inj h
    rw [this]
    rfl
theorem eqO (a b : Option Int) : eqR (optI a) (optI b) = .ok (.bl (decide (a = b))) := by
  cases a with
  | none => cases b <;> rfl
  | some i => cases b with
    | none => rfl
    | some j =>
      show eqR (.int i) (.int j) = _
      rw [eqI]
      congr 2
      by_cases h : i = j <;> simp [h]
theorem neO (a b : Option Int) : neR (optI a) (optI b) = .ok (.bl (!decide (a = b))) := by
  cases a with
  | none => cases b <;> rfl
  | some i => cases b with
    | none => rfl
    | some j =>
      show neR (.int i) (.int j) = _
      rw [neI]
      congr 3
      by_cases h : i = j <;> simp [h]
/-! ### loops -/
section
variable {C : List D} {cf : Nat → List D → Res D}
/-- a loop that returns nothing, by what holds behind each part of its items -/
theorem forGo_pre {α : Type} {f : D → En → Out} {enc : α → D} (P : List α → En → Prop) {l : List α} : ∀ (pre post : List α) (env : En), pre ++ post = l → P pre env → (∀ pre x post env, pre ++ x :: post = l → P pre env → ∃ en', f (enc x) env = .nx en' ∧ P (pre ++ [x]) en') → ∃ en', forGo f (post.map enc) env = .nx en' ∧ P l en'
  | pre, [], env, e, h, _ => ⟨env, rfl, by rw [← e, List.append_nil]; exact h⟩
  | pre, x :: post, env, e, h, hs => by
    obtain ⟨en', h1, h2⟩ := hs pre x post env e h
    obtain ⟨e2, h3, h4⟩ := forGo_pre P (pre ++ [x]) post en' (by rw [List.append_assoc]; exact e) h2 hs
    exact ⟨e2, by simp only [List.map_cons, forGo, h1]; exact h3, h4⟩
theorem loop_pre {α : Type} {s : Sm} {env : En} {enc : α → D} {l : List α} (P : List α → En → Prop) (hs : s.isL = true) (hi : evi C cf s.itx env = .ok (l.map enc)) (h0 : P [] env)
    (hst : ∀ pre x post en, pre ++ x :: post = l → P pre en → ∃ en', forB C cf s.tg s.inn (enc x) en = .nx en' ∧ P (pre ++ [x]) en') : ∃ en', exe C cf s env = .nx en' ∧ P l en' := by
  rw [loop_of hs hi]
  exact forGo_pre P [] l env rfl h0 hst
/-- by what holds all the time -/
theorem loop_inv {α : Type} {s : Sm} {env : En} {enc : α → D} {l : List α} (P : En → Prop) (hs : s.isL = true) (hi : evi C cf s.itx env = .ok (l.map enc)) (h0 : P env)
    (hst : ∀ x en, x ∈ l → P en → ∃ en', forB C cf s.tg s.inn (enc x) en = .nx en' ∧ P en') : ∃ en', exe C cf s env = .nx en' ∧ P en' :=
  loop_pre (fun _ => P) hs hi h0 fun pre x post en e h => hst x en (by rw [← e]; simp) h
end
end Li

/-! pulls and runs, in plain -/
namespace Li
open PySem PySem.Spec L2
open PyProof.Rows hiding St
abbrev PullT := Int × Int
abbrev RunT := Int × Int × Int
/-! ### pulls in order -/
def l2 (p : PullT) : List Int := [p.1, p.2]
def b2 : List Int → PullT
  | [a, b] => (a, b)
  | _ => (0, 0)
def le2 (p q : PullT) : Prop := p.1 < q.1 ∨ (p.1 = q.1 ∧ p.2 ≤ q.2)
def sortP (ps : List PullT) : List PullT := (sortL (ps.map l2)).map b2
theorem b2_l2 (p : PullT) : b2 (l2 p) = p := rfl
theorem sortP_l2 (ps : List PullT) : (sortP ps).map l2 = sortL (ps.map l2) := by
  unfold sortP
  rw [List.map_map]
  have : ∀ x ∈ sortL (ps.map l2), (l2 ∘ b2) x = x := fun x hx => by
    obtain ⟨p, _, rfl⟩ := List.mem_map.mp ((sortL_perm _).mem_iff.mp hx)
    rfl
  rw [List.map_congr_left this, List.map_id']
theorem sortP_perm (ps : List PullT) : (sortP ps).Perm ps := by
  have := (sortL_perm (ps.map l2)).map b2
  rw [List.map_map] at this
  have e : (ps.map (b2 ∘ l2)) = ps := by
    have : (b2 ∘ l2) = id := rfl
    rw [this, List.map_id]
  rw [e] at this
  exact this
theorem le2_iff (p q : PullT) : le2 p q ↔ HT.lexLt (l2 q) (l2 p) = false := by
  unfold le2 l2
  rw [HT.lexLt_cons, HT.lexLt_cons, HT.lexLt_nil_nil]
  by_cases h : q.1 = p.1
  · rw [if_pos h]
    by_cases h2 : q.2 = p.2
    · rw [if_pos h2]
      simp
      omega
    · rw [if_neg h2]
      simp
      omega
  · rw [if_neg h]
    simp
    omega
theorem sortP_srt (ps : List PullT) : (sortP ps).Pairwise le2 := by
  have h : SrtL ((sortP ps).map l2) := by rw [sortP_l2]; exact sortL_srt _
  rw [SrtL, List.pairwise_map] at h
  exact h.imp fun {a b} hab => (le2_iff a b).mpr hab
theorem l2_inj : ∀ {a b : List PullT}, a.map l2 = b.map l2 → a = b
  | [], [], _ => rfl
  | [], _ :: _, h => by cases h
  | _ :: _, [], h => by cases h
  | x :: a, y :: b, h => by
    rw [List.map_cons, List.map_cons] at h
    injection h with h1 h2
    have e : x = y := by
      have := congrArg b2 h1
      exact this
    rw [e, l2_inj h2]
theorem sortP_uniq {qs ps : List PullT} (h : qs.Pairwise le2) (p : qs.Perm ps) : sortP ps = qs := by
  refine l2_inj ?_
  rw [sortP_l2]
  refine srtL_uniq (sortL_srt _) ?_ ((sortL_perm _).trans (p.map l2).symm)
  rw [SrtL, List.pairwise_map]
  exact h.imp fun {a b} hab => (le2_iff a b).mp hab
theorem sortP_congr {ps qs : List PullT} (h : ps.Perm qs) : sortP ps = sortP qs := (sortP_uniq (sortP_srt ps) ((sortP_perm ps).trans h)).symm
theorem sortP_filter (ps : List PullT) (c : PullT → Bool) : sortP (ps.filter c) = (sortP ps).filter c := sortP_uniq ((sortP_srt ps).filter _) ((sortP_perm ps).filter _)
def shP (b : Int) (p : PullT) : PullT := (p.1 + b, p.2)
theorem sortP_shift (ps : List PullT) (b : Int) : sortP (ps.map (shP b)) = (sortP ps).map (shP b) := by
  refine sortP_uniq ?_ ((sortP_perm ps).map _)
  rw [List.pairwise_map]
  refine (sortP_srt ps).imp fun {x y} h => ?_
  unfold le2 shP at *
  simp only
  omega
theorem mem_sortP {ps : List PullT} {p : PullT} : p ∈ sortP ps ↔ p ∈ ps := (sortP_perm ps).mem_iff
theorem sortP_nodup {ps : List PullT} (h : ps.Nodup) : (sortP ps).Nodup := (sortP_perm ps).nodup_iff.mpr h
theorem sortP_len (ps : List PullT) : (sortP ps).length = ps.length := (sortP_perm ps).length_eq
theorem u2_l2 (ps : List PullT) : ps.map u2 = (ps.map l2).map uT := by
  rw [List.map_map]
  rfl
theorem sortD_u2 (ps : List PullT) : sortD (ps.map u2) = (sortP ps).map u2 := by
  rw [u2_l2, sortD_map ltD_uT fun _ _ => trivial, u2_l2, sortP_l2]
theorem all_ti1 (ps : List PullT) : (ps.map u2).all isTI1 = true := List.all_eq_true.mpr fun d hd => by
  obtain ⟨x, _, rfl⟩ := List.mem_map.mp hd
  rfl
theorem sort2T (ps : List PullT) : sortR (.tup (ps.map u2)) = .ok (.lst ((sortP ps).map u2)) := by
  show need ((ps.map u2).all isTI1 || sortE (ps.map u2)) (.ok (.lst (sortD (ps.map u2)))) = _
  rw [all_ti1, sortD_u2]
  rfl
theorem sort2L (ps : List PullT) : sortR (.lst (ps.map u2)) = .ok (.lst ((sortP ps).map u2)) := by
  show need (sortable (ps.map u2)) (.ok (.lst (sortD (ps.map u2)))) = _
  unfold sortable
  rw [all_ti1, sortD_u2]
  simp only [Bool.or_true, Bool.true_or]
  rfl
/-! ### runs -/
def updE (en : Int → Int) (p e : Int) : Int → Int := fun q => if q = p then e else en q
theorem updE_same (en : Int → Int) (p e : Int) : updE en p e p = e := if_pos rfl
theorem updE_ne (en : Int → Int) {p q : Int} (e : Int) (h : q ≠ p) : updE en p e q = en q := if_neg h
def ann (len : Int → Int) : Int → (Int → Int) → List PullT → List (PullT × Option RunT)
  | _, _, [] => []
  | fr, en, p :: r => if en p.2 ≤ p.1 then (p, some (max fr p.1, max fr p.1 + len p.2, p.2)) :: ann len (max fr p.1 + len p.2) (updE en p.2 (max fr p.1 + len p.2)) r
    else (p, none) :: ann len fr en r
theorem ann_take (len : Int → Int) {fr : Int} {en : Int → Int} {p : PullT} (r : List PullT) (h : en p.2 ≤ p.1) : ann len fr en (p :: r) = (p, some (max fr p.1, max fr p.1 + len p.2, p.2)) :: ann len (max fr p.1 + len p.2) (updE en p.2 (max fr p.1 + len p.2)) r := by simp only [ann, if_pos h]
theorem ann_idle (len : Int → Int) {fr : Int} {en : Int → Int} {p : PullT} (r : List PullT) (h : ¬ en p.2 ≤ p.1) : ann len fr en (p :: r) = (p, none) :: ann len fr en r := by simp only [ann, if_neg h]
theorem ann_fst (len : Int → Int) : ∀ (l : List PullT) (fr : Int) (en : Int → Int), (ann len fr en l).map (·.1) = l
  | [], _, _ => rfl
  | p :: r, fr, en => by
    by_cases h : en p.2 ≤ p.1
    · rw [ann_take len r h, List.map_cons, ann_fst len r]
    · rw [ann_idle len r h, List.map_cons, ann_fst len r]
def isSm (x : PullT × Option RunT) : Bool := x.2.isSome
def runsA (A : List (PullT × Option RunT)) : List RunT := A.filterMap (·.2)
def takenA (A : List (PullT × Option RunT)) : List PullT := (A.filter isSm).map (·.1)
def idleA (A : List (PullT × Option RunT)) : List PullT := (A.filter fun x => !isSm x).map (·.1)
def waitsA (A : List (PullT × Option RunT)) : List Int := A.filterMap fun x => x.2.map fun r => r.1 - x.1.1
theorem runsA_some (p : PullT) (r : RunT) (A : List (PullT × Option RunT)) : runsA ((p, some r) :: A) = r :: runsA A := rfl
theorem runsA_none (p : PullT) (A : List (PullT × Option RunT)) : runsA ((p, none) :: A) = runsA A := rfl
theorem takenA_some (p : PullT) (r : RunT) (A : List (PullT × Option RunT)) : takenA ((p, some r) :: A) = p :: takenA A := rfl
theorem takenA_none (p : PullT) (A : List (PullT × Option RunT)) : takenA ((p, none) :: A) = takenA A := rfl
theorem idleA_some (p : PullT) (r : RunT) (A : List (PullT × Option RunT)) : idleA ((p, some r) :: A) = idleA A := rfl
theorem idleA_none (p : PullT) (A : List (PullT × Option RunT)) : idleA ((p, none) :: A) = p :: idleA A := rfl
theorem waitsA_some (p : PullT) (r : RunT) (A : List (PullT × Option RunT)) : waitsA ((p, some r) :: A) = (r.1 - p.1) :: waitsA A := rfl
theorem waitsA_none (p : PullT) (A : List (PullT × Option RunT)) : waitsA ((p, none) :: A) = waitsA A := rfl
theorem runsA_app (A B : List (PullT × Option RunT)) : runsA (A ++ B) = runsA A ++ runsA B := List.filterMap_append
theorem takenA_app (A B : List (PullT × Option RunT)) : takenA (A ++ B) = takenA A ++ takenA B := by unfold takenA; rw [List.filter_append, List.map_append]
theorem idleA_app (A B : List (PullT × Option RunT)) : idleA (A ++ B) = idleA A ++ idleA B := by unfold idleA; rw [List.filter_append, List.map_append]
/-- where the line stands behind some pulls -/
def stA (len : Int → Int) : Int → (Int → Int) → List PullT → Int × (Int → Int)
  | fr, en, [] => (fr, en)
  | fr, en, p :: r => if en p.2 ≤ p.1 then stA len (max fr p.1 + len p.2) (updE en p.2 (max fr p.1 + len p.2)) r else stA len fr en r
theorem ann_app (len : Int → Int) (r : List PullT) : ∀ (l : List PullT) (fr : Int) (en : Int → Int), ann len fr en (l ++ r) = ann len fr en l ++ ann len (stA len fr en l).1 (stA len fr en l).2 r
  | [], _, _ => rfl
  | p :: l, fr, en => by
    rw [List.cons_append]
    by_cases h : en p.2 ≤ p.1
    · rw [ann_take len _ h, ann_take len _ h, ann_app len r l, List.cons_append]
      simp only [stA, if_pos h]
    · rw [ann_idle len _ h, ann_idle len _ h, ann_app len r l, List.cons_append]
      simp only [stA, if_neg h]
theorem stA_app (len : Int → Int) (r : List PullT) : ∀ (l : List PullT) (fr : Int) (en : Int → Int), stA len fr en (l ++ r) = stA len (stA len fr en l).1 (stA len fr en l).2 r
  | [], _, _ => rfl
  | p :: l, fr, en => by
    rw [List.cons_append]
    by_cases h : en p.2 ≤ p.1
    · simp only [stA, if_pos h, stA_app len r l]
    · simp only [stA, if_neg h, stA_app len r l]
theorem len_ann (len : Int → Int) (l : List PullT) (fr : Int) (en : Int → Int) : (ann len fr en l).length = l.length := by
  have := congrArg List.length (ann_fst len l fr en)
  rwa [List.length_map] at this
theorem runs_len (len : Int → Int) (l : List PullT) (fr : Int) (en : Int → Int) : (runsA (ann len fr en l)).length ≤ l.length := by
  refine Nat.le_trans (List.length_filterMap_le _ _) ?_
  rw [len_ann]
  exact Nat.le_refl _
/-- runs of each box end by its mark -/
theorem ends_le (len : Int → Int) (hl : ∀ p, 0 < len p) : ∀ (l : List PullT) (fr : Int) (en : Int → Int) (r0 : List RunT), (∀ r ∈ r0, r.2.1 ≤ en r.2.2) → ∀ r ∈ r0 ++ runsA (ann len fr en l), r.2.1 ≤ (stA len fr en l).2 r.2.2
  | [], fr, en, r0, h, r, hr => by
    have : r ∈ r0 := by simpa [ann, runsA] using hr
    exact h r this
  | p :: l, fr, en, r0, h, r, hr => by
    by_cases hp : en p.2 ≤ p.1
    · rw [ann_take len _ hp, runsA_some] at hr
      simp only [stA, if_pos hp]
      refine ends_le len hl l _ _ (r0 ++ [(max fr p.1, max fr p.1 + len p.2, p.2)]) (fun q hq => ?_) r (by rw [List.append_assoc]; exact hr)
      rcases List.mem_append.mp hq with hq | hq
      · by_cases e : q.2.2 = p.2
        · rw [e, updE_same]
          have h1 := h q hq
          have h2 := hl p.2
          rw [e] at h1
          omega
        · rw [updE_ne _ _ e]
          exact h q hq
      · rw [List.mem_singleton.mp hq, updE_same]
        exact Int.le_refl _
    · rw [ann_idle len _ hp, runsA_none] at hr
      simp only [stA, if_neg hp]
      exact ends_le len hl l _ _ r0 h r hr
/-- the run of a pull that counts is the first one of its box that ends behind it -/
theorem first_run (len : Int → Int) (hl : ∀ p, 0 < len p) {S pre post : List PullT} {p : PullT} (e : pre ++ p :: post = S) (h : (stA len 0 (fun _ => 0) pre).2 p.2 ≤ p.1) :
    ∃ r, ((runsA (ann len 0 (fun _ => 0) S)).filter fun x => decide (x.2.2 = p.2) && decide (p.1 < x.2.1)).map (fun x => x.2.1) = (max (stA len 0 (fun _ => 0) pre).1 p.1 + len p.2) :: r := by
  rw [← e, ann_app, runsA_app, ann_take len _ h, runsA_some, List.filter_append]
  have e1 : (runsA (ann len 0 (fun _ => 0) pre)).filter (fun x => decide (x.2.2 = p.2) && decide (p.1 < x.2.1)) = [] := by
    rw [List.filter_eq_nil_iff]
    intro x hx
    have := ends_le len hl pre 0 (fun _ => 0) [] (fun _ h => (nomatch h)) x (by simpa using hx)
    by_cases e : x.2.2 = p.2
    · rw [e] at this
      simp
      omega
    · simp [e]
  have h2 := hl p.2
  rw [e1, List.nil_append, List.filter_cons_of_pos (by simp; omega), List.map_cons]
  exact ⟨_, rfl⟩
theorem zip_runs (len : Int → Int) : ∀ (l : List PullT) (fr : Int) (en : Int → Int), ((runsA (ann len fr en l)).zip (takenA (ann len fr en l))).map (fun x => x.1.1 - x.2.1) = waitsA (ann len fr en l)
  | [], _, _ => rfl
  | p :: l, fr, en => by
    by_cases h : en p.2 ≤ p.1
    · rw [ann_take len _ h, runsA_some, takenA_some, waitsA_some, List.zip_cons_cons, List.map_cons, zip_runs len l]
    · rw [ann_idle len _ h, runsA_none, takenA_none, waitsA_none, zip_runs len l]
theorem taken_filter (len : Int → Int) : ∀ (l : List PullT) (fr : Int) (en : Int → Int) (I : List PullT), l.Nodup → (∀ p ∈ l, p ∈ I ↔ p ∈ idleA (ann len fr en l)) → l.filter (fun p => !memB p I) = takenA (ann len fr en l)
  | [], _, _, _, _, _ => rfl
  | p :: l, fr, en, I, nd, h => by
    obtain ⟨n1, n2⟩ := List.nodup_cons.mp nd
    have sub : ∀ {fr en q}, q ∈ idleA (ann len fr en l) → q ∈ l := fun {fr en q} hq => by
      unfold idleA at hq
      obtain ⟨x, hx, rfl⟩ := List.mem_map.mp hq
      have : x.1 ∈ (ann len fr en l).map (·.1) := List.mem_map.mpr ⟨x, (List.mem_filter.mp hx).1, rfl⟩
      rw [ann_fst] at this
      exact this
    by_cases hp : en p.2 ≤ p.1
    · rw [ann_take len _ hp, takenA_some]
      rw [ann_take len _ hp, idleA_some] at h
      have : p ∉ I := fun hI => n1 (sub ((h p List.mem_cons_self).mp hI))
      rw [List.filter_cons_of_pos (by rw [memB_f this]; rfl), taken_filter len l _ _ I n2 fun q hq => h q (List.mem_cons_of_mem _ hq)]
    · rw [ann_idle len _ hp, takenA_none]
      rw [ann_idle len _ hp, idleA_none] at h
      have : p ∈ I := (h p List.mem_cons_self).mpr List.mem_cons_self
      rw [List.filter_cons_of_neg (by rw [memB_t this]; decide), taken_filter len l _ _ I n2 fun q hq => ?_]
      rw [h q (List.mem_cons_of_mem _ hq)]
      constructor
      · intro hm
        rcases List.mem_cons.mp hm with rfl | hm
        · exact absurd hq n1
        · exact hm
      · exact List.mem_cons_of_mem _
theorem taken_of (len : Int → Int) {l : List PullT} (fr : Int) (en : Int → Int) (nd : l.Nodup) : l.filter (fun p => !memB p (idleA (ann len fr en l))) = takenA (ann len fr en l) := taken_filter len l fr en _ nd fun _ _ => Iff.rfl
/-- without idle pulls -/
theorem ann_taken (len : Int → Int) : ∀ (l : List PullT) (fr : Int) (en : Int → Int), ann len fr en (takenA (ann len fr en l)) = (ann len fr en l).filter isSm
  | [], _, _ => rfl
  | p :: l, fr, en => by
    by_cases h : en p.2 ≤ p.1
    · rw [ann_take len _ h, takenA_some, ann_take len _ h, ann_taken len l]
      rfl
    · rw [ann_idle len _ h, takenA_none, ann_taken len l]
      rfl
theorem runsA_filter : ∀ A : List (PullT × Option RunT), runsA (A.filter isSm) = runsA A
  | [] => rfl
  | (p, some r) :: A => by
    have : ((p, some r) :: A).filter isSm = (p, some r) :: A.filter isSm := rfl
    rw [this, runsA_some, runsA_some, runsA_filter A]
  | (p, none) :: A => by
    have : ((p, (none : Option RunT)) :: A).filter isSm = A.filter isSm := rfl
    rw [this, runsA_none, runsA_filter A]
theorem idleA_filter (A : List (PullT × Option RunT)) : idleA (A.filter isSm) = [] := by
  unfold idleA
  rw [List.filter_filter]
  have : (A.filter fun x => (!isSm x) && isSm x) = [] := List.filter_eq_nil_iff.mpr fun x _ => by cases isSm x <;> simp
  rw [this]
  rfl
theorem runs_taken_len : ∀ A : List (PullT × Option RunT), (runsA A).length = (takenA A).length
  | [] => rfl
  | (p, some r) :: A => by rw [runsA_some, takenA_some, List.length_cons, List.length_cons, runs_taken_len A]
  | (p, none) :: A => by rw [runsA_none, takenA_none, runs_taken_len A]
theorem runs_place (len : Int → Int) : ∀ (l : List PullT) (fr : Int) (en : Int → Int), (runsA (ann len fr en l)).map (fun r => r.2.2) = (takenA (ann len fr en l)).map fun p => p.2
  | [], _, _ => rfl
  | p :: l, fr, en => by
    by_cases h : en p.2 ≤ p.1
    · rw [ann_take len _ h, runsA_some, takenA_some, List.map_cons, List.map_cons, runs_place len l]
    · rw [ann_idle len _ h, runsA_none, takenA_none, runs_place len l]
/-- runs stand one behind the other -/
def chB (len : Int → Int) : Int → List RunT → Prop
  | _, [] => True
  | fr, r :: l => fr ≤ r.1 ∧ r.2.1 = r.1 + len r.2.2 ∧ chB len r.2.1 l
theorem runs_chain (len : Int → Int) : ∀ (l : List PullT) (fr : Int) (en : Int → Int), chB len fr (runsA (ann len fr en l))
  | [], _, _ => trivial
  | p :: l, fr, en => by
    by_cases h : en p.2 ≤ p.1
    · rw [ann_take len _ h, runsA_some]
      exact ⟨by show fr ≤ max fr p.1; omega, rfl, runs_chain len l _ _⟩
    · rw [ann_idle len _ h, runsA_none]
      exact runs_chain len l _ _
theorem chB_zip (len : Int → Int) : ∀ {fr : Int} {l : List RunT}, chB len fr l → ∀ x ∈ l.zip (l.drop 1), x.1.2.1 ≤ x.2.1
  | _, [], _, x, hx => by cases hx
  | _, [r], _, x, hx => by cases hx
  | fr, r :: q :: l, h, x, hx => by
    have hx : x ∈ (r, q) :: (q :: l).zip l := hx
    rcases List.mem_cons.mp hx with rfl | hx
    · exact h.2.2.1
    · exact chB_zip len h.2.2 x hx
theorem waits_len : ∀ A : List (PullT × Option RunT), (waitsA A).length = (takenA A).length
  | [] => rfl
  | (p, some r) :: A => by rw [waitsA_some, takenA_some, List.length_cons, List.length_cons, waits_len A]
  | (p, none) :: A => by rw [waitsA_none, takenA_none, waits_len A]
/-! all later -/
def shR (b : Int) (r : RunT) : RunT := (r.1 + b, r.2.1 + b, r.2.2)
def shA (b : Int) (x : PullT × Option RunT) : PullT × Option RunT := (shP b x.1, x.2.map (shR b))
theorem ann_shift (len : Int → Int) {b : Int} (hb : 0 ≤ b) : ∀ (l : List PullT) (fr fr' : Int) (en en' : Int → Int), (∀ p ∈ l, 0 ≤ p.1) → (fr' = fr + b ∨ (fr = 0 ∧ fr' = 0)) → (∀ q, en' q = en q + b ∨ (en q = 0 ∧ en' q = 0)) → ann len fr' en' (l.map (shP b)) = (ann len fr en l).map (shA b)
  | [], _, _, _, _, _, _, _ => rfl
  | p :: l, fr, fr', en, en', hp, hf, he => by
    have h0 := hp p List.mem_cons_self
    have ht : ∀ q ∈ l, 0 ≤ q.1 := fun q hq => hp q (List.mem_cons_of_mem _ hq)
    rw [List.map_cons]
    have hs : max fr' (p.1 + b) = max fr p.1 + b := by omega
    by_cases h : en p.2 ≤ p.1
    · have h' : en' (shP b p).2 ≤ (shP b p).1 := by
        show en' p.2 ≤ p.1 + b
        have := he p.2
        omega
      rw [ann_take len _ h, ann_take len _ h', List.map_cons]
      have e1 : ((shP b p, some (max fr' (shP b p).1, max fr' (shP b p).1 + len (shP b p).2, (shP b p).2)) : PullT × Option RunT) = shA b (p, some (max fr p.1, max fr p.1 + len p.2, p.2)) := by
        show ((shP b p, some (max fr' (p.1 + b), max fr' (p.1 + b) + len p.2, p.2)) : PullT × Option RunT) = (shP b p, some (max fr p.1 + b, max fr p.1 + len p.2 + b, p.2))
        rw [hs, Int.add_right_comm]
      rw [e1]
      congr 1
      refine ann_shift len hb l _ _ _ _ ht (.inl ?_) fun q => ?_
      · show max fr' (p.1 + b) + len p.2 = _
        omega
      · show updE en' p.2 (max fr' (p.1 + b) + len p.2) q = _ ∨ _
        by_cases e : q = p.2
        · subst e
          rw [updE_same, updE_same]
          left
          omega
        · have a1 : updE en' (shP b p).2 (max fr' (shP b p).1 + len (shP b p).2) q = en' q := updE_ne _ _ e
          have a2 : updE en p.2 (max fr p.1 + len p.2) q = en q := updE_ne _ _ e
          have a3 : updE en' p.2 (max fr' (p.1 + b) + len p.2) q = en' q := updE_ne _ _ e
          rw [a1, a2, a3]
          exact he q
    · have h' : ¬ en' (shP b p).2 ≤ (shP b p).1 := by
        show ¬ en' p.2 ≤ p.1 + b
        have := he p.2
        omega
      rw [ann_idle len _ h, ann_idle len _ h', List.map_cons, ann_shift len hb l _ _ _ _ ht hf he]
      rfl
theorem runsA_shift (b : Int) : ∀ A : List (PullT × Option RunT), runsA (A.map (shA b)) = (runsA A).map (shR b)
  | [] => rfl
  | (p, some r) :: A => by
    show shR b r :: runsA (A.map (shA b)) = _
    rw [runsA_shift b A, runsA_some, List.map_cons]
  | (p, none) :: A => by
    show runsA (A.map (shA b)) = _
    rw [runsA_shift b A, runsA_none]
theorem idleA_shift (b : Int) : ∀ A : List (PullT × Option RunT), idleA (A.map (shA b)) = (idleA A).map (shP b)
  | [] => rfl
  | (p, some r) :: A => by
    show idleA (A.map (shA b)) = _
    rw [idleA_shift b A, idleA_some]
  | (p, none) :: A => by
    show shP b p :: idleA (A.map (shA b)) = _
    rw [idleA_shift b A, idleA_none, List.map_cons]
theorem waitsA_shift (b : Int) : ∀ A : List (PullT × Option RunT), waitsA (A.map (shA b)) = waitsA A
  | [] => rfl
  | (p, some r) :: A => by
    show (r.1 + b - (p.1 + b)) :: waitsA (A.map (shA b)) = _
    rw [waitsA_shift b A, waitsA_some]
    congr 1
    omega
  | (p, none) :: A => by
    show waitsA (A.map (shA b)) = _
    rw [waitsA_shift b A, waitsA_none]
theorem waitsA_filter : ∀ A : List (PullT × Option RunT), waitsA (A.filter isSm) = waitsA A
  | [] => rfl
  | (p, some r) :: A => by
    have : ((p, some r) :: A).filter isSm = (p, some r) :: A.filter isSm := rfl
    rw [this, waitsA_some, waitsA_some, waitsA_filter A]
  | (p, none) :: A => by
    have : ((p, (none : Option RunT)) :: A).filter isSm = A.filter isSm := rfl
    rw [this, waitsA_none, waitsA_filter A]
end Li

/-! the line of some runs, in plain -/
namespace Li
open PySem PySem.Spec L2
open PyProof.Rows hiding St
theorem rngIJ {i j : Int} (h : -1000000000 ≤ i ∧ i ≤ 1000000000 ∧ -1000000000 ≤ j ∧ j ≤ 1000000000) : rngR i j = .ok ((List.range (j - i).toNat).map fun k : Nat => D.int (i + (k : Int))) := by
  unfold rngR
  rw [if_pos h]
  rfl
theorem range_at : ∀ {n : Nat} {pre post : List Nat} {k : Nat}, pre ++ k :: post = List.range n → k = pre.length ∧ pre.length < n := by
  intro n pre post k h
  have hl := congrArg List.length h
  rw [List.length_append, List.length_cons, List.length_range] at hl
  have hk : (List.range n)[pre.length]? = some k := by
    rw [← h, List.getElem?_append_right (Nat.le_refl _), Nat.sub_self]
    rfl
  rw [List.getElem?_range (by omega)] at hk
  exact ⟨(Option.some.inj hk).symm, by omega⟩
section
variable (bits : Int → List Int)
def lineG (R : List RunT) (t a : Int) : Int := R.foldl (fun a r => if r.1 ≤ t ∧ t < r.2.1 then (bits r.2.2).getD (t - r.1).toNat 0 else a) a
theorem lineG_app (R S : List RunT) (t a : Int) : lineG bits (R ++ S) t a = lineG bits S t (lineG bits R t a) := List.foldl_append
def segL : Int → List RunT → List Int
  | _, [] => []
  | fr, r :: R => List.replicate (r.1 - fr).toNat 0 ++ (bits r.2.2 ++ segL r.2.1 R)
def lastE : Int → List RunT → Int
  | fr, [] => fr
  | _, r :: R => lastE r.2.1 R
def lineL (n : Nat) (R : List RunT) : List Int := (List.range n).map fun t : Nat => lineG bits R (t : Int) 0
variable {bits} {len : Int → Int} (hlen : ∀ p, ((bits p).length : Int) = len p)
include hlen
theorem lineG_ahead : ∀ (R : List RunT) {fr t : Int} (a : Int), chB len fr R → t < fr → lineG bits R t a = a
  | [], _, _, _, _, _ => rfl
  | r :: R, fr, t, a, h, ht => by
    obtain ⟨h1, h2, h3⟩ := h
    have := hlen r.2.2
    show lineG bits R t (if r.1 ≤ t ∧ t < r.2.1 then (bits r.2.2).getD (t - r.1).toNat 0 else a) = a
    rw [if_neg (by omega)]
    exact lineG_ahead R a h3 (by omega)
theorem lineG_seg : ∀ (R : List RunT) {fr t : Int}, chB len fr R → fr ≤ t → lineG bits R t 0 = (segL bits fr R).getD (t - fr).toNat 0
  | [], _, _, _, _ => by simp [lineG, segL]
  | r :: R, fr, t, h, ht => by
    obtain ⟨h1, h2, h3⟩ := h
    have hl := hlen r.2.2
    show lineG bits R t (if r.1 ≤ t ∧ t < r.2.1 then (bits r.2.2).getD (t - r.1).toNat 0 else 0) = (List.replicate (r.1 - fr).toNat 0 ++ (bits r.2.2 ++ segL bits r.2.1 R)).getD (t - fr).toNat 0
    by_cases c1 : t < r.1
    · rw [if_neg (by omega), lineG_ahead hlen R 0 h3 (by omega)]
      rw [List.getD_eq_getElem?_getD, List.getElem?_append_left (by rw [List.length_replicate]; omega), List.getElem?_replicate, if_pos (by omega)]
      rfl
    · have e1 : (List.replicate (r.1 - fr).toNat 0 ++ (bits r.2.2 ++ segL bits r.2.1 R)).getD (t - fr).toNat 0 = (bits r.2.2 ++ segL bits r.2.1 R).getD (t - r.1).toNat 0 := by
        rw [List.getD_eq_getElem?_getD, List.getElem?_append_right (by rw [List.length_replicate]; omega), List.length_replicate, List.getD_eq_getElem?_getD]
        congr 2
        omega
      rw [e1]
      by_cases c2 : t < r.2.1
      · rw [if_pos (by omega), lineG_ahead hlen R _ h3 c2, List.getD_eq_getElem?_getD, List.getD_eq_getElem?_getD, List.getElem?_append_left (by omega)]
      · rw [if_neg (by omega), lineG_seg R h3 (by omega), List.getD_eq_getElem?_getD, List.getD_eq_getElem?_getD, List.getElem?_append_right (by omega)]
        congr 2
        omega
theorem segL_len : ∀ (R : List RunT) {fr : Int}, chB len fr R → ((segL bits fr R).length : Int) = lastE fr R - fr
  | [], _, _ => by simp [segL, lastE]
  | r :: R, fr, h => by
    obtain ⟨h1, h2, h3⟩ := h
    have hl := hlen r.2.2
    have ih := segL_len R h3
    simp only [segL, lastE, List.length_append, List.length_replicate]
    omega
theorem lineL_len (n : Nat) (R : List RunT) : (lineL bits n R).length = n := by
  unfold lineL
  rw [List.length_map, List.length_range]
theorem lineL_take (n : Nat) {R : List RunT} (h : chB len 0 R) : lineL bits n R = (segL bits 0 R ++ List.replicate n 0).take n := by
  refine List.ext_getElem? fun i => ?_
  unfold lineL
  by_cases hi : i < n
  · rw [List.getElem?_map, List.getElem?_range hi, List.getElem?_take, if_pos hi]
    show some (lineG bits R (i : Int) 0) = _
    rw [lineG_seg hlen R h (by omega)]
    have : ((i : Int) - 0).toNat = i := by omega
    rw [this, List.getD_eq_getElem?_getD]
    by_cases hs : i < (segL bits 0 R).length
    · rw [List.getElem?_append_left hs, List.getElem?_eq_getElem hs]
      rfl
    · rw [List.getElem?_append_right (by omega), List.getElem?_replicate, if_pos (by omega), List.getElem?_eq_none (by omega)]
      rfl
  · rw [List.getElem?_eq_none (by rw [List.length_map, List.length_range]; omega), List.getElem?_eq_none (by rw [List.length_take]; omega)]
theorem lineL_all {n : Nat} {R : List RunT} (h : chB len 0 R) (hn : (n : Int) = lastE 0 R) : lineL bits n R = segL bits 0 R := by
  have hl := segL_len hlen R h
  rw [lineL_take hlen n h, List.take_append_of_le_length (by omega), List.take_of_length_le (by omega)]
end
end Li
namespace Li
open PySem PySem.Spec L2
open PyProof.Rows hiding St
theorem enum_map {α : Type} {f : α → D} : ∀ (l : List α) (n : Nat), enumFrom' n (l.map f) = (l.zipIdx n).map fun x => D.tup [.int (x.2 : Int), f x.1]
  | [], _ => rfl
  | x :: l, n => by
    show D.tup [.int (n : Int), f x] :: enumFrom' (n + 1) (l.map f) = _
    rw [enum_map l (n + 1), List.zipIdx_cons]
    rfl
theorem zipIdx_at {l : List Int} {pre post : List (Int × Nat)} {x : Int × Nat} (h : pre ++ x :: post = l.zipIdx) : x.2 = pre.length ∧ x.1 = l.getD pre.length 0 ∧ pre.length < l.length := by
  have hl := congrArg List.length h
  rw [List.length_append, List.length_cons, List.length_zipIdx] at hl
  have hk : l.zipIdx[pre.length]? = some x := by
    rw [← h, List.getElem?_append_right (Nat.le_refl _), Nat.sub_self]
    rfl
  have hlt : pre.length < l.length := by omega
  rw [List.getElem?_zipIdx, List.getElem?_eq_getElem hlt] at hk
  have : (l[pre.length], 0 + pre.length) = x := Option.some.inj hk
  rw [← this]
  refine ⟨by simp, ?_, hlt⟩
  rw [List.getD_eq_getElem?_getD, List.getElem?_eq_getElem hlt]
  rfl
end Li

/-! more of runs, in plain -/
namespace Li
open PySem PySem.Spec L2
open PyProof.Rows hiding St
/-- runs with their pulls -/
def zipA (A : List (PullT × Option RunT)) : List (RunT × PullT) := (runsA A).zip (takenA A)
theorem zipA_some (p : PullT) (r : RunT) (A : List (PullT × Option RunT)) : zipA ((p, some r) :: A) = (r, p) :: zipA A := rfl
theorem zipA_none (p : PullT) (A : List (PullT × Option RunT)) : zipA ((p, none) :: A) = zipA A := rfl
def chZ (len : Int → Int) : Int → List (RunT × PullT) → Prop
  | _, [] => True
  | fr, x :: l => x.1.1 = max fr x.2.1 ∧ x.1.2.1 = x.1.1 + len x.1.2.2 ∧ x.1.2.2 = x.2.2 ∧ chZ len x.1.2.1 l
theorem zip_chain (len : Int → Int) : ∀ (l : List PullT) (fr : Int) (en : Int → Int), chZ len fr (zipA (ann len fr en l))
  | [], _, _ => trivial
  | p :: l, fr, en => by
    by_cases h : en p.2 ≤ p.1
    · rw [ann_take len _ h, zipA_some]
      exact ⟨rfl, rfl, rfl, zip_chain len l _ _⟩
    · rw [ann_idle len _ h, zipA_none]
      exact zip_chain len l _ _
theorem chZ_app (len : Int → Int) : ∀ (pre : List (RunT × PullT)) {fr : Int} {x : RunT × PullT} {post : List (RunT × PullT)}, chZ len fr (pre ++ x :: post) → x.1.1 = max (lastE fr (pre.map (·.1))) x.2.1 ∧ x.1.2.1 = x.1.1 + len x.1.2.2 ∧ x.1.2.2 = x.2.2
  | [], _, _, _, h => ⟨h.1, h.2.1, h.2.2.1⟩
  | y :: pre, fr, x, post, h => chZ_app len pre h.2.2.2
theorem zipA_fst : ∀ A : List (PullT × Option RunT), (zipA A).map (·.1) = runsA A
  | [] => rfl
  | (p, some r) :: A => by rw [zipA_some, runsA_some, List.map_cons, zipA_fst A]
  | (p, none) :: A => by rw [zipA_none, runsA_none, zipA_fst A]
theorem zipA_snd : ∀ A : List (PullT × Option RunT), (zipA A).map (·.2) = takenA A
  | [] => rfl
  | (p, some r) :: A => by rw [zipA_some, takenA_some, List.map_cons, zipA_snd A]
  | (p, none) :: A => by rw [zipA_none, takenA_none, zipA_snd A]
/-- an idle pull is of a box that was pulled ahead and is not over -/
theorem idle_why (len : Int → Int) : ∀ (l : List PullT) (fr : Int) (en : Int → Int) (Z : List (RunT × PullT)), l.Pairwise le2 → (∀ p ∈ l, 0 ≤ p.1) → (∀ q, en q ≤ 0 ∨ ∃ z ∈ Z, z.1.2.2 = q ∧ z.1.2.1 = en q ∧ ∀ p ∈ l, z.2.1 ≤ p.1) →
    ∀ x ∈ idleA (ann len fr en l), ∃ z ∈ Z ++ zipA (ann len fr en l), z.1.2.2 = x.2 ∧ z.2.1 ≤ x.1 ∧ x.1 < z.1.2.1
  | [], _, _, _, _, _, _, x, hx => by cases hx
  | p :: l, fr, en, Z, hs, h0, he, x, hx => by
    obtain ⟨s1, s2⟩ := List.pairwise_cons.mp hs
    have h0' : ∀ q ∈ l, 0 ≤ q.1 := fun q hq => h0 q (List.mem_cons_of_mem _ hq)
    by_cases h : en p.2 ≤ p.1
    · rw [ann_take len _ h, idleA_some] at hx
      rw [ann_take len _ h, zipA_some]
      obtain ⟨z, hz, r⟩ := idle_why len l _ _ (Z ++ [((max fr p.1, max fr p.1 + len p.2, p.2), p)]) s2 h0' (fun q => by
        by_cases e : q = p.2
        · subst e
          right
          refine ⟨((max fr p.1, max fr p.1 + len p.2, p.2), p), by simp, rfl, ?_, fun r hr => ?_⟩
          · rw [updE_same]
          · have := s1 r hr
            unfold le2 at this
            show p.1 ≤ r.1
            omega
        · rw [updE_ne _ _ e]
          rcases he q with h | ⟨z, hz, h1, h2, h3⟩
          · exact .inl h
          · exact .inr ⟨z, List.mem_append_left _ hz, h1, h2, fun r hr => h3 r (List.mem_cons_of_mem _ hr)⟩) x hx
      rw [List.append_assoc] at hz
      exact ⟨z, hz, r⟩
    · rw [ann_idle len _ h, idleA_none] at hx
      rw [ann_idle len _ h, zipA_none]
      rcases List.mem_cons.mp hx with rfl | hx
      · rcases he x.2 with h' | ⟨z, hz, h1, h2, h3⟩
        · have := h0 x List.mem_cons_self
          omega
        · exact ⟨z, List.mem_append_left _ hz, h1, h3 x List.mem_cons_self, by omega⟩
      · exact idle_why len l _ _ Z s2 h0' (fun q => by
          rcases he q with h | ⟨z, hz, h1, h2, h3⟩
          · exact .inl h
          · exact .inr ⟨z, hz, h1, h2, fun r hr => h3 r (List.mem_cons_of_mem _ hr)⟩) x hx
/-! a pull more -/
theorem le2_total (p q : PullT) : le2 p q ∨ le2 q p := by
  unfold le2
  omega
theorem le2_trans {p q r : PullT} (h1 : le2 p q) (h2 : le2 q r) : le2 p r := by
  unfold le2 at *
  omega
theorem split_at (S : List PullT) (hs : S.Pairwise le2) (x : PullT) : ∃ S1 S2, S = S1 ++ S2 ∧ (∀ p ∈ S1, le2 p x) ∧ (∀ p ∈ S2, ¬ le2 p x) := by
  induction S with
  | nil => exact ⟨[], [], rfl, fun _ h => (nomatch h), fun _ h => (nomatch h)⟩
  | cons p S ih =>
    obtain ⟨s1, s2⟩ := List.pairwise_cons.mp hs
    by_cases h : le2 p x
    · obtain ⟨S1, S2, e, h1, h2⟩ := ih s2
      refine ⟨p :: S1, S2, by rw [e]; rfl, fun q hq => ?_, h2⟩
      rcases List.mem_cons.mp hq with rfl | hq
      · exact h
      · exact h1 q hq
    · refine ⟨[], p :: S, rfl, fun _ h => (nomatch h), fun q hq hqx => ?_⟩
      rcases List.mem_cons.mp hq with rfl | hq
      · exact h hqx
      · exact h (le2_trans (s1 q hq) hqx)
theorem sort_more {ps S1 S2 : List PullT} {x : PullT} (e : sortP ps = S1 ++ S2) (h1 : ∀ p ∈ S1, le2 p x) (h2 : ∀ p ∈ S2, ¬ le2 p x) : sortP (ps ++ [x]) = S1 ++ x :: S2 := by
  refine sortP_uniq ?_ ?_
  · have hs := sortP_srt ps
    rw [e] at hs
    obtain ⟨a, b, c⟩ := List.pairwise_append.mp hs
    refine List.pairwise_append.mpr ⟨a, List.pairwise_cons.mpr ⟨fun p hp => (le2_total x p).resolve_right (h2 p hp), b⟩, fun p hp q hq => ?_⟩
    rcases List.mem_cons.mp hq with rfl | hq
    · exact h1 p hp
    · exact c p hp q hq
  · have : (S1 ++ x :: S2).Perm (x :: (S1 ++ S2)) := List.perm_middle
    refine this.trans ?_
    rw [← e]
    refine (List.Perm.cons x (sortP_perm ps)).trans ?_
    exact (List.perm_append_comm (l₁ := [x]) (l₂ := ps))
/-- whose pull a run is of -/
theorem run_pull (len : Int → Int) : ∀ (l : List PullT) (fr : Int) (en : Int → Int), ∀ r ∈ runsA (ann len fr en l), ∃ p ∈ l, p.2 = r.2.2 ∧ p.1 ≤ r.1
  | [], _, _, r, hr => by cases hr
  | p :: l, fr, en, r, hr => by
    by_cases h : en p.2 ≤ p.1
    · rw [ann_take len _ h, runsA_some] at hr
      rcases List.mem_cons.mp hr with rfl | hr
      · exact ⟨p, List.mem_cons_self, rfl, by show p.1 ≤ max fr p.1; omega⟩
      · obtain ⟨q, hq, e⟩ := run_pull len l _ _ r hr
        exact ⟨q, List.mem_cons_of_mem _ hq, e⟩
    · rw [ann_idle len _ h, runsA_none] at hr
      obtain ⟨q, hq, e⟩ := run_pull len l _ _ r hr
      exact ⟨q, List.mem_cons_of_mem _ hq, e⟩
theorem run_parts (len : Int → Int) {S1 S2 : List PullT} {r : RunT} (hr : r ∈ runsA (ann len 0 (fun _ => 0) (S1 ++ S2))) : r ∈ runsA (ann len 0 (fun _ => 0) S1) ∨ ∃ p ∈ S2, p.2 = r.2.2 ∧ p.1 ≤ r.1 := by
  rw [ann_app, runsA_app] at hr
  rcases List.mem_append.mp hr with hr | hr
  · exact .inl hr
  · exact .inr (run_pull len S2 _ _ r hr)
theorem runs_more (len : Int → Int) (hl : ∀ p, 0 < len p) {ps : List PullT} {r : RunT} (hr : r ∈ runsA (ann len 0 (fun _ => 0) (sortP ps))) {d : Int} (d0 : 0 ≤ d) (d1 : d < r.2.1 - r.1) (hn : (r.1 + d, r.2.2) ∉ ps) :
    runsA (ann len 0 (fun _ => 0) (sortP (ps ++ [(r.1 + d, r.2.2)]))) = runsA (ann len 0 (fun _ => 0) (sortP ps)) := by
  obtain ⟨S1, S2, e, h1, h2⟩ := split_at (sortP ps) (sortP_srt ps) (r.1 + d, r.2.2)
  rw [sort_more e h1 h2]
  rw [e] at hr ⊢
  have hin : r ∈ runsA (ann len 0 (fun _ => 0) S1) := by
    rcases run_parts len hr with h | ⟨p, hp, p1, p2⟩
    · exact h
    · exfalso
      refine h2 p hp ?_
      unfold le2
      show p.1 < r.1 + d ∨ (p.1 = r.1 + d ∧ p.2 ≤ r.2.2)
      omega
  have hen := ends_le len hl S1 0 (fun _ => 0) [] (fun _ h => (nomatch h)) r (by simpa using hin)
  have hid : ¬ (stA len 0 (fun _ => 0) S1).2 (r.1 + d, r.2.2).2 ≤ (r.1 + d, r.2.2).1 := by
    show ¬ (stA len 0 (fun _ => 0) S1).2 r.2.2 ≤ r.1 + d
    omega
  rw [ann_app, ann_idle len _ hid, ann_app, runsA_app, runsA_app, runsA_none]
end Li
namespace Li
open PySem PySem.Spec L2
open PyProof.Rows hiding St
theorem st_had (len : Int → Int) : ∀ (l : List PullT) (fr : Int) (en : Int → Int) (R0 : List RunT), (∀ q, en q = 0 ∨ ∃ r ∈ R0, r.2.2 = q ∧ r.2.1 = en q) → ∀ q, (stA len fr en l).2 q = 0 ∨ ∃ r ∈ R0 ++ runsA (ann len fr en l), r.2.2 = q ∧ r.2.1 = (stA len fr en l).2 q
  | [], fr, en, R0, h, q => by
    rcases h q with h | ⟨r, hr, e⟩
    · exact .inl h
    · exact .inr ⟨r, List.mem_append_left _ hr, e⟩
  | p :: l, fr, en, R0, h, q => by
    by_cases hp : en p.2 ≤ p.1
    · rw [ann_take len _ hp, runsA_some]
      simp only [stA, if_pos hp]
      have := st_had len l (max fr p.1 + len p.2) (updE en p.2 (max fr p.1 + len p.2)) (R0 ++ [(max fr p.1, max fr p.1 + len p.2, p.2)]) (fun q' => by
        by_cases e : q' = p.2
        · subst e
          exact .inr ⟨(max fr p.1, max fr p.1 + len p.2, p.2), by simp, rfl, (updE_same _ _ _).symm⟩
        · rw [updE_ne _ _ e]
          rcases h q' with h | ⟨r, hr, e⟩
          · exact .inl h
          · exact .inr ⟨r, List.mem_append_left _ hr, e⟩) q
      rw [List.append_assoc] at this
      exact this
    · rw [ann_idle len _ hp, runsA_none]
      simp only [stA, if_neg hp]
      exact st_had len l fr en R0 h q
theorem free_iff (len : Int → Int) (hl : ∀ p, 0 < len p) (pre : List PullT) {p m : Int} (h0 : 0 ≤ m) : (runsA (ann len 0 (fun _ => 0) pre)).filter (fun x => decide (x.2.2 = p) && decide (m < x.2.1)) = [] ↔ (stA len 0 (fun _ => 0) pre).2 p ≤ m := by
  rw [List.filter_eq_nil_iff]
  constructor
  · intro h
    rcases st_had len pre 0 (fun _ => 0) [] (fun _ => .inl rfl) p with e | ⟨r, hr, e1, e2⟩
    · rw [e]; exact h0
    · have := h r (by simpa using hr)
      simp [e1] at this
      omega
  · intro h x hx hc
    have := ends_le len hl pre 0 (fun _ => 0) [] (fun _ h => (nomatch h)) x (by simpa using hx)
    simp at hc
    rw [hc.1] at this
    omega
end Li

/-! runs, tick by tick, in plain -/
namespace Li
open PySem PySem.Spec L2
open PyProof.Rows hiding St
def RS (len : Int → Int) (S : List PullT) : List RunT := runsA (ann len 0 (fun _ => 0) S)
def IS (len : Int → Int) (S : List PullT) : List PullT := idleA (ann len 0 (fun _ => 0) S)
def fdT (R : List RunT) (t : Int) : List RunT := R.filter fun r => decide (r.1 < t)
def wtT (R : List RunT) (t : Int) : List RunT := R.filter fun r => decide (t ≤ r.1)
def hereT (R : List RunT) (t : Int) : Option Int := match (fdT R t).getLast? with
  | some r => if t < r.2.1 then some r.2.2 else none
  | none => none
section
variable {len : Int → Int} (hl : ∀ p, 0 < len p)
include hl
theorem chB_ge : ∀ {R : List RunT} {fr : Int}, chB len fr R → ∀ r ∈ R, fr ≤ r.1 ∧ r.2.1 = r.1 + len r.2.2
  | [], _, _, _, h => (nomatch h)
  | x :: R, fr, h, r, hr => by
    obtain ⟨h1, h2, h3⟩ := h
    rcases List.mem_cons.mp hr with rfl | hr
    · exact ⟨h1, h2⟩
    · have k := chB_ge h3 r hr
      have := hl x.2.2
      exact ⟨by omega, k.2⟩
theorem fd_wt : ∀ {R : List RunT} {fr : Int} (t : Int), chB len fr R → fdT R t ++ wtT R t = R
  | [], _, _, _ => rfl
  | x :: R, fr, t, h => by
    obtain ⟨h1, h2, h3⟩ := h
    unfold fdT wtT
    by_cases c : x.1 < t
    · rw [List.filter_cons_of_pos (by simpa using c), List.filter_cons_of_neg (by simpa using c), List.cons_append]
      exact congrArg (x :: ·) (fd_wt t h3)
    · have hx := hl x.2.2
      rw [List.filter_cons_of_neg (by simpa using c), List.filter_cons_of_pos (by simpa using c)]
      have e1 : R.filter (fun r => decide (r.1 < t)) = [] := List.filter_eq_nil_iff.mpr fun r hr => by
        have := chB_ge hl h3 r hr
        simp
        omega
      have e2 : R.filter (fun r => decide (t ≤ r.1)) = R := List.filter_eq_self.mpr fun r hr => by
        have := chB_ge hl h3 r hr
        simp
        omega
      rw [e1, e2]
      rfl
theorem last_fd : ∀ {R : List RunT} {fr t : Int} {r : RunT}, chB len fr R → r ∈ R → r.1 < t → t < r.2.1 → (fdT R t).getLast? = some r
  | [], _, _, _, _, h, _, _ => (nomatch h)
  | x :: R, fr, t, r, h, hr, h4, h5 => by
    obtain ⟨h1, h2, h3⟩ := h
    have hx := hl x.2.2
    rcases List.mem_cons.mp hr with rfl | hr
    · have e1 : fdT R t = [] := List.filter_eq_nil_iff.mpr fun q hq => by
        have := chB_ge hl h3 q hq
        simp
        omega
      have e2 : fdT (r :: R) t = r :: fdT R t := List.filter_cons_of_pos (by simpa using h4)
      rw [e2, e1]
      rfl
    · have ih := last_fd h3 hr h4 h5
      have hxr := (chB_ge hl h3 r hr).1
      have e2 : fdT (x :: R) t = x :: fdT R t := List.filter_cons_of_pos (by simp; omega)
      rw [e2]
      cases e : fdT R t with
      | nil => rw [e] at ih; cases ih
      | cons a l =>
        rw [List.getLast?_cons_cons, ← e]
        exact ih
theorem busy_iff {R : List RunT} {fr : Int} (h : chB len fr R) (t q : Int) : (hereT R t = some q ∨ q ∈ (wtT R t).map fun r => r.2.2) ↔ ∃ r ∈ R, r.2.2 = q ∧ t < r.2.1 := by
  constructor
  · rintro (c | c)
    · unfold hereT at c
      cases e : (fdT R t).getLast? with
      | none => rw [e] at c; cases c
      | some r =>
        rw [e] at c
        have hm : r ∈ fdT R t := List.mem_of_getLast? e
        by_cases g : t < r.2.1
        · simp only [if_pos g] at c
          exact ⟨r, (List.mem_filter.mp hm).1, Option.some.inj c, g⟩
        · simp only [if_neg g] at c
          cases c
    · obtain ⟨r, hr, rfl⟩ := List.mem_map.mp c
      obtain ⟨h1, h2⟩ := List.mem_filter.mp hr
      have h2 := of_decide_eq_true h2
      have := chB_ge hl h r h1
      have := hl r.2.2
      exact ⟨r, h1, rfl, by omega⟩
  · rintro ⟨r, hr, rfl, h2⟩
    by_cases c : r.1 < t
    · refine .inl ?_
      unfold hereT
      rw [last_fd hl h hr c h2]
      simp only [if_pos h2]
    · exact .inr (List.mem_map.mpr ⟨r, List.mem_filter.mpr ⟨hr, by simp; omega⟩, rfl⟩)
theorem busy_en (S : List PullT) {t q : Int} (h0 : 0 ≤ t) : (hereT (RS len S) t = some q ∨ q ∈ (wtT (RS len S) t).map fun r => r.2.2) ↔ ¬ (stA len 0 (fun _ => 0) S).2 q ≤ t := by
  rw [busy_iff (R := RS len S) hl (runs_chain len S 0 (fun _ => 0)), ← free_iff len hl S h0]
  constructor
  · rintro ⟨r, hr, h1, h2⟩ e
    have := List.filter_eq_nil_iff.mp e r hr
    simp [h1, h2] at this
  · intro h
    obtain ⟨r, hr⟩ := List.exists_mem_of_ne_nil _ h
    obtain ⟨h1, h2⟩ := List.mem_filter.mp hr
    simp at h2
    exact ⟨r, h1, h2.1, h2.2⟩
omit hl in
theorem RS_take {S : List PullT} {p : PullT} (h : (stA len 0 (fun _ => 0) S).2 p.2 ≤ p.1) : RS len (S ++ [p]) = RS len S ++ [(max (stA len 0 (fun _ => 0) S).1 p.1, max (stA len 0 (fun _ => 0) S).1 p.1 + len p.2, p.2)] ∧ IS len (S ++ [p]) = IS len S := by
  unfold RS IS
  rw [ann_app, ann_take len [] h, runsA_app, idleA_app]
  exact ⟨rfl, by rw [idleA_some]; exact List.append_nil _⟩
omit hl in
theorem RS_idle {S : List PullT} {p : PullT} (h : ¬ (stA len 0 (fun _ => 0) S).2 p.2 ≤ p.1) : RS len (S ++ [p]) = RS len S ∧ IS len (S ++ [p]) = IS len S ++ [p] := by
  unfold RS IS
  rw [ann_app, ann_idle len [] h, runsA_app, idleA_app]
  exact ⟨by rw [runsA_none]; exact List.append_nil _, rfl⟩
omit hl in
theorem fd_more (R : List RunT) {t : Int} {r : RunT} (h : t ≤ r.1) : fdT (R ++ [r]) t = fdT R t ∧ wtT (R ++ [r]) t = wtT R t ++ [r] ∧ hereT (R ++ [r]) t = hereT R t := by
  have e1 : fdT (R ++ [r]) t = fdT R t := by
    unfold fdT
    rw [List.filter_append, List.filter_cons_of_neg (by simp; omega)]
    simp
  refine ⟨e1, ?_, by unfold hereT; rw [e1]⟩
  unfold wtT
  rw [List.filter_append, List.filter_cons_of_pos (by simp; omega)]
  rfl
omit hl in
theorem chB_parts : ∀ (A : List RunT) {fr : Int} {B : List RunT}, chB len fr (A ++ B) → chB len (lastE fr A) B
  | [], _, _, h => h
  | x :: A, fr, B, h => chB_parts A h.2.2
omit hl in
theorem lastE_last : ∀ (A : List RunT) (fr : Int), lastE fr A = match A.getLast? with | some r => r.2.1 | none => fr
  | [], _ => rfl
  | [x], _ => rfl
  | x :: y :: A, fr => by
    rw [List.getLast?_cons_cons]
    have := lastE_last (y :: A) x.2.1
    show lastE x.2.1 (y :: A) = _
    rw [this]
    cases h : (y :: A).getLast? with
    | none => simp at h
    | some r => rfl
/-- the first one that waits begins when none taps -/
theorem start_now {S : List PullT} {t : Int} (h0 : 0 ≤ t) (hS : ∀ p ∈ S, p.1 ≤ t) {r0 : RunT} {W : List RunT} (hn : hereT (RS len S) t = none) (hw : wtT (RS len S) t = r0 :: W) : r0.1 = t := by
  have hch : chB len 0 (RS len S) := runs_chain len S 0 (fun _ => 0)
  have e := fd_wt hl t hch
  have hr0 : r0 ∈ wtT (RS len S) t := by rw [hw]; exact List.mem_cons_self
  have hge := of_decide_eq_true (List.mem_filter.mp hr0).2
  have e' : fdT (RS len S) t ++ r0 :: W = RS len S := by rw [← hw]; exact e
  have hz := zip_chain len S 0 (fun _ => 0)
  have hf := zipA_fst (ann len 0 (fun _ => 0) S)
  have hf : (zipA (ann len 0 (fun _ => 0) S)).map (·.1) = fdT (RS len S) t ++ r0 :: W := by rw [hf, e']; rfl
  obtain ⟨Z1, Z2, ez, ez1, ez2⟩ := List.map_eq_append_iff.mp hf
  obtain ⟨z, Z3, ez3, ez4, ez5⟩ := List.map_eq_cons_iff.mp ez2
  rw [ez, ez3] at hz
  obtain ⟨c1, c2, c3⟩ := chZ_app len Z1 hz
  rw [ez1, ez4] at c1
  have hzt : z.2 ∈ S := by
    have : z.2 ∈ (zipA (ann len 0 (fun _ => 0) S)).map (·.2) := List.mem_map.mpr ⟨z, by rw [ez, ez3]; simp, rfl⟩
    rw [zipA_snd] at this
    unfold takenA at this
    obtain ⟨x, hx, hx2⟩ := List.mem_map.mp this
    have hx3 : x.1 ∈ (ann len 0 (fun _ => 0) S).map (·.1) := List.mem_map.mpr ⟨x, (List.mem_filter.mp hx).1, rfl⟩
    rw [ann_fst] at hx3
    rw [← hx2]
    exact hx3
  have hm := hS _ hzt
  have hla : lastE 0 (fdT (RS len S) t) ≤ t := by
    rw [lastE_last]
    unfold hereT at hn
    cases g : (fdT (RS len S) t).getLast? with
    | none => exact h0
    | some r =>
      rw [g] at hn
      by_cases c : t < r.2.1
      · simp only [if_pos c] at hn
        cases hn
      · show r.2.1 ≤ t
        omega
  omega
theorem next_start {S : List PullT} {t : Int} {r0 : RunT} {W : List RunT} (hw : wtT (RS len S) t = r0 :: W) (hr : r0.1 = t) : fdT (RS len S) (t + 1) = fdT (RS len S) t ++ [r0] ∧ wtT (RS len S) (t + 1) = W ∧ r0.2.1 = t + len r0.2.2 := by
  have hch : chB len 0 (RS len S) := runs_chain len S 0 (fun _ => 0)
  have e := fd_wt hl t hch
  have e' : fdT (RS len S) t ++ r0 :: W = RS len S := by rw [← hw]; exact e
  have hch' : chB len 0 (fdT (RS len S) t ++ r0 :: W) := by rw [e']; exact hch
  obtain ⟨k1, k2, k3⟩ := chB_parts _ hch'
  have hp := hl r0.2.2
  have a1 : fdT (fdT (RS len S) t) (t + 1) = fdT (RS len S) t := List.filter_eq_self.mpr fun q hq => by
    have := of_decide_eq_true (List.mem_filter.mp hq).2
    simp
    omega
  have a2 : wtT (fdT (RS len S) t) (t + 1) = [] := List.filter_eq_nil_iff.mpr fun q hq => by
    have := of_decide_eq_true (List.mem_filter.mp hq).2
    simp
    omega
  have a3 : fdT (r0 :: W) (t + 1) = [r0] := by
    unfold fdT
    rw [List.filter_cons_of_pos (by simp; omega)]
    congr 1
    exact List.filter_eq_nil_iff.mpr fun q hq => by
      have := (chB_ge hl k3 q hq).1
      simp
      omega
  have a4 : wtT (r0 :: W) (t + 1) = W := by
    unfold wtT
    rw [List.filter_cons_of_neg (by simp; omega)]
    exact List.filter_eq_self.mpr fun q hq => by
      have := (chB_ge hl k3 q hq).1
      simp
      omega
  refine ⟨?_, ?_, by omega⟩
  · conv => lhs; rw [← e']
    unfold fdT at a1 a3 ⊢
    rw [List.filter_append, a1, a3]
  · conv => lhs; rw [← e']
    unfold wtT at a2 a4 ⊢
    rw [List.filter_append, a2, a4]
    rfl
theorem next_none {S : List PullT} {t : Int} (h : hereT (RS len S) t ≠ none ∨ wtT (RS len S) t = []) : fdT (RS len S) (t + 1) = fdT (RS len S) t ∧ wtT (RS len S) (t + 1) = wtT (RS len S) t := by
  have hch : chB len 0 (RS len S) := runs_chain len S 0 (fun _ => 0)
  have e := fd_wt hl t hch
  have hno : ∀ r ∈ RS len S, r.1 ≠ t := by
    intro r hr ht
    have hw : r ∈ wtT (RS len S) t := List.mem_filter.mpr ⟨hr, by simp; omega⟩
    rcases h with h | h
    · unfold hereT at h
      cases g : (fdT (RS len S) t).getLast? with
      | none => rw [g] at h; exact h rfl
      | some x =>
        rw [g] at h
        by_cases c : t < x.2.1
        · have hch' : chB len 0 (fdT (RS len S) t ++ wtT (RS len S) t) := by rw [e]; exact hch
          have k := chB_parts _ hch'
          rw [lastE_last, g] at k
          have := (chB_ge hl k r hw).1
          have : x.2.1 ≤ r.1 := this
          omega
        · simp only [if_neg c] at h
          exact h rfl
    · rw [h] at hw
      cases hw
  constructor
  · refine List.filter_congr fun r hr => ?_
    have := hno r hr
    by_cases c : r.1 < t
    · rw [decide_eq_true c, decide_eq_true (by omega)]
    · rw [decide_eq_false c, decide_eq_false (by omega)]
  · refine List.filter_congr fun r hr => ?_
    have := hno r hr
    by_cases c : t ≤ r.1
    · rw [decide_eq_true c, decide_eq_true (by omega)]
    · rw [decide_eq_false c, decide_eq_false (by omega)]
end
/-! ### the pulls before a moment, in order -/
def pfB (t j : Int) (p : PullT) : Bool := decide (p.1 < t) || (decide (p.1 = t) && decide (p.2 < j))
def pf (ps : List PullT) (t j : Int) : List PullT := (sortP ps).filter (pfB t j)
theorem pf_next {ps : List PullT} (nd : ps.Nodup) (t j : Int) : pf ps t (j + 1) = pf ps t j ++ if (t, j) ∈ ps then [(t, j)] else [] := by
  unfold pf
  rw [← sortP_filter, ← sortP_filter]
  refine sortP_uniq ?_ ?_
  · rw [List.pairwise_append]
    refine ⟨sortP_srt _, ?_, ?_⟩
    · split
      · exact List.pairwise_singleton _ _
      · exact List.Pairwise.nil
    · intro a ha b hb
      split at hb
      · rw [List.mem_singleton.mp hb]
        have := (List.mem_filter.mp (mem_sortP.mp ha)).2
        unfold pfB at this
        simp at this
        unfold le2
        show a.1 < t ∨ (a.1 = t ∧ a.2 ≤ j)
        omega
      · cases hb
  · have key : ∀ x : PullT, pfB t (j + 1) x = true ↔ (pfB t j x = true ∨ x = (t, j)) := by
      intro x
      unfold pfB
      simp only [Bool.or_eq_true, Bool.and_eq_true, decide_eq_true_eq]
      constructor
      · rintro (h | ⟨h1, h2⟩)
        · exact .inl (.inl h)
        · by_cases c : x.2 < j
          · exact .inl (.inr ⟨h1, c⟩)
          · exact .inr (Prod.ext h1 (by show x.2 = j; omega))
      · rintro ((h | ⟨h1, h2⟩) | rfl)
        · exact .inl h
        · exact .inr ⟨h1, by omega⟩
        · exact .inr ⟨rfl, by show j < j + 1; omega⟩
    refine (List.perm_ext_iff_of_nodup ?_ (nd.filter _)).mpr fun x => ?_
    · rw [List.nodup_append]
      refine ⟨sortP_nodup (nd.filter _), ?_, ?_⟩
      · split
        · exact List.nodup_cons.mpr ⟨List.not_mem_nil, List.nodup_nil⟩
        · exact List.nodup_nil
      · intro a ha b hb e
        split at hb
        · rw [List.mem_singleton.mp hb] at e
          subst e
          have := (List.mem_filter.mp (mem_sortP.mp ha)).2
          unfold pfB at this
          simp at this
        · cases hb
    · rw [List.mem_append, mem_sortP, List.mem_filter, List.mem_filter, key]
      constructor
      · rintro (⟨h1, h2⟩ | h)
        · exact ⟨h1, .inl h2⟩
        · split at h
          · rename_i hm
            rw [List.mem_singleton.mp h]
            exact ⟨hm, .inr rfl⟩
          · cases h
      · rintro ⟨h1, h2 | rfl⟩
        · exact .inl ⟨h1, h2⟩
        · rw [if_pos h1]
          exact .inr List.mem_cons_self
theorem pf_turn {ps : List PullT} {n : Int} (h : ∀ p ∈ ps, 0 ≤ p.2 ∧ p.2 < n) (t : Int) : pf ps (t + 1) 0 = pf ps t n := by
  unfold pf
  refine List.filter_congr fun p hp => ?_
  have := h p (mem_sortP.mp hp)
  unfold pfB
  by_cases c : p.1 < t
  · simp [c]
    omega
  · by_cases d : p.1 = t
    · simp [d, this.2]
      omega
    · have : ¬ p.1 < t + 1 := by omega
      simp [c, d, this]
      omega
theorem pf_zero {ps : List PullT} (h : ∀ p ∈ ps, 0 ≤ p.1 ∧ 0 ≤ p.2) : pf ps 0 0 = [] := List.filter_eq_nil_iff.mpr fun p hp => by
  have := h p (mem_sortP.mp hp)
  unfold pfB
  simp
  omega
theorem pf_all {ps : List PullT} {t : Int} (h : ∀ p ∈ ps, p.1 < t) : pf ps t 0 = sortP ps := List.filter_eq_self.mpr fun p hp => by
  have := h p (mem_sortP.mp hp)
  unfold pfB
  simp [this]
theorem pf_le {ps : List PullT} {t j : Int} : ∀ p ∈ pf ps t j, p.1 ≤ t := fun p hp => by
  have := (List.mem_filter.mp hp).2
  unfold pfB at this
  simp at this
  omega
theorem pf_sub {ps : List PullT} {t j : Int} : ∀ p ∈ pf ps t j, p ∈ ps := fun p hp => mem_sortP.mp (List.mem_filter.mp hp).1
/-- no run begins late -/
theorem chZ_le (len : Int → Int) {B : Int} (hl : ∀ p, len p ≤ B) (h0 : 0 ≤ B) : ∀ (Z : List (RunT × PullT)) {fr : Int}, chZ len fr Z → (∀ z ∈ Z, z.2.1 ≤ 300) → ∀ z ∈ Z, z.1.1 ≤ max fr 300 + B * Z.length
  | [], _, _, _, _, h => (nomatch h)
  | x :: Z, fr, hz, hm, z, hz' => by
    obtain ⟨h1, h2, h3, h4⟩ := hz
    have hx := hm x List.mem_cons_self
    have hlx := hl x.1.2.2
    have e : (B * ((x :: Z).length : Nat) : Int) = B * (Z.length : Int) + B := by
      rw [List.length_cons, Int.natCast_add, Int.mul_add]
      simp
    have hn : 0 ≤ B * (Z.length : Int) := Int.mul_nonneg h0 (by omega)
    rw [e]
    rcases List.mem_cons.mp hz' with rfl | hz'
    · omega
    · have := chZ_le len hl h0 Z h4 (fun z h => hm z (List.mem_cons_of_mem _ h)) z hz'
      omega
/-! ### while -/
theorem while_ok {c : En → Res Bool} {f : En → Out} (P : Nat → En → Prop) (Q : En → Prop) (B : Nat) (h : ∀ t env, P t env → (c env = .ok true ∧ t < B ∧ ∃ env', f env = .nx env' ∧ P (t + 1) env') ∨ (c env = .ok false ∧ Q env)) : ∀ (n t : Nat) (env : En), P t env → B - t < n → ∃ env', whileGo c f n env = .nx env' ∧ Q env'
  | 0, _, _, _, hb => absurd hb (Nat.not_lt_zero _)
  | n + 1, t, env, hp, hb => by
    rcases h t env hp with ⟨h1, h2, env', h3, h4⟩ | ⟨h1, h2⟩
    · obtain ⟨e2, h5, h6⟩ := while_ok P Q B h n (t + 1) env' h4 (by omega)
      refine ⟨e2, ?_, h6⟩
      simp only [whileGo, h1, h3]
      exact h5
    · refine ⟨env, ?_, h2⟩
      simp only [whileGo, h1]
      rfl
end Li

namespace Lw
open PySem PySem.Spec L2 Li
open PyProof.Rows hiding St
def top (i : Nat) : Stmt := PySem.Challenge.pw_boxtaps_k71_whole_joining.main.body.getD i (.Pass ⟨0, 0, 0, 0⟩)
abbrev cs (l : List (Str × NameKind)) : Scope := ⟨.function, l, false, false, []⟩
def RX : List RefX := []
def RI : List RefE := []
def RN : List RefE := []
def s_is_count_0 : Sm := (.ret (.bool true (.isi (.var ⟨0, "thing", ⟨17, 22, 17, 27⟩⟩) .int ⟨17, 29, 17, 32⟩ ⟨17, 11, 17, 21⟩ ⟨17, 11, 17, 33⟩) (.cons (.nott (.isi (.var ⟨0, "thing", ⟨17, 54, 17, 59⟩⟩) .bool ⟨17, 61, 17, 65⟩ ⟨17, 43, 17, 53⟩ ⟨17, 43, 17, 66⟩) ⟨17, 39, 17, 66⟩) (.cons (.chain .le .le (.var ⟨1, "low", ⟨17, 73, 17, 76⟩⟩) (.var ⟨0, "thing", ⟨17, 80, 17, 85⟩⟩) (.var ⟨2, "high", ⟨17, 89, 17, 93⟩⟩) ⟨17, 73, 17, 93⟩) .nil)) ⟨17, 11, 17, 94⟩) ⟨17, 4, 17, 94⟩)
def b_is_count : Sms := (.cons s_is_count_0 .nil)
def F_is_count : Fn := ⟨"is_count", ["thing", "low", "high"], ["thing", "low", "high"], b_is_count⟩
def s_is_number_0_0 : Sm := (.ret (.con (.bl false) 0 ⟨20, 15, 20, 20⟩) ⟨20, 8, 20, 20⟩)
def s_is_number_0 : Sm := (.cond (.bool false (.nott (.isi (.var ⟨0, "thing", ⟨19, 22, 19, 27⟩⟩) .tuple ⟨19, 29, 19, 34⟩ ⟨19, 11, 19, 21⟩ ⟨19, 11, 19, 35⟩) ⟨19, 7, 19, 35⟩) (.cons (.nott (.chain .le .le (.con (.int 1) 0 ⟨19, 43, 19, 44⟩) (.blt .len (.var ⟨0, "thing", ⟨19, 52, 19, 57⟩⟩) .nil ⟨19, 48, 19, 51⟩ ⟨19, 48, 19, 58⟩) (.glob 1 "MOST_DIGITS" ⟨19, 62, 19, 73⟩) ⟨19, 43, 19, 73⟩) ⟨19, 39, 19, 73⟩) .nil) ⟨19, 7, 19, 73⟩) (.cons s_is_number_0_0 .nil) .nil ⟨19, 4, 20, 20⟩)
def s_is_number_1 : Sm := (.ret (.blt .all (.lc (.call 0 "is_count" (.var ⟨1, "digit", ⟨21, 25, 21, 30⟩⟩) (.cons (.con (.int 1) 0 ⟨21, 32, 21, 33⟩) (.cons (.glob 2 "MOST_DIGIT" ⟨21, 35, 21, 45⟩) .nil)) ⟨21, 16, 21, 24⟩ ⟨21, 16, 21, 46⟩) (.name ⟨1, "digit", ⟨21, 51, 21, 56⟩⟩) (.seq (.var ⟨0, "thing", ⟨21, 60, 21, 65⟩⟩)) .none (cs [(".0", .local), ("digit", .local), ("is_count", .globalImplicit), ("MOST_DIGIT", .globalImplicit)]) [("digit", 1)] ⟨21, 15, 21, 66⟩) .nil ⟨21, 11, 21, 14⟩ ⟨21, 11, 21, 67⟩) ⟨21, 4, 21, 67⟩)
def b_is_number : Sms := (.cons s_is_number_0 (.cons s_is_number_1 .nil))
def F_is_number : Fn := ⟨"is_number", ["thing"], ["thing", "digit"], b_is_number⟩
def s_need_number_0_0 : Sm := (.rais 1 "NoNumber" "no number" 0 ⟨24, 14, 24, 22⟩ ⟨24, 23, 24, 34⟩ ⟨24, 14, 24, 35⟩ ⟨24, 8, 24, 35⟩)
def s_need_number_0 : Sm := (.cond (.nott (.call 1 "is_number" (.var ⟨0, "number", ⟨23, 21, 23, 27⟩⟩) .nil ⟨23, 11, 23, 20⟩ ⟨23, 11, 23, 28⟩) ⟨23, 7, 23, 28⟩) (.cons s_need_number_0_0 .nil) .nil ⟨23, 4, 24, 35⟩)
def b_need_number : Sms := (.cons s_need_number_0 .nil)
def F_need_number : Fn := ⟨"need_number", ["number"], ["number"], b_need_number⟩
def s_need_rounds_0_0 : Sm := (.rais 2 "NoCount" "not so many rounds" 0 ⟨27, 14, 27, 21⟩ ⟨27, 22, 27, 42⟩ ⟨27, 14, 27, 43⟩ ⟨27, 8, 27, 43⟩)
def s_need_rounds_0 : Sm := (.cond (.nott (.call 0 "is_count" (.var ⟨0, "many", ⟨26, 20, 26, 24⟩⟩) (.cons (.con (.int 1) 0 ⟨26, 26, 26, 27⟩) (.cons (.glob 3 "MOST_ROUNDS" ⟨26, 29, 26, 40⟩) .nil)) ⟨26, 11, 26, 19⟩ ⟨26, 11, 26, 41⟩) ⟨26, 7, 26, 41⟩) (.cons s_need_rounds_0_0 .nil) .nil ⟨26, 4, 27, 43⟩)
def b_need_rounds : Sms := (.cons s_need_rounds_0 .nil)
def F_need_rounds : Fn := ⟨"need_rounds", ["many"], ["many"], b_need_rounds⟩
def s_bits_of_0 : Sm := (.asg ⟨1, "found", ⟨29, 4, 29, 9⟩⟩ (.lst .nil ⟨29, 12, 29, 14⟩) ⟨29, 4, 29, 14⟩)
def s_bits_of_1_0 : Sm := (.mut .extend ⟨1, "found", ⟨31, 8, 31, 13⟩⟩ (.bin .mul (.bin .mul (.lst (.cons (.con (.int 0) 0 ⟨31, 22, 31, 23⟩) .nil) ⟨31, 21, 31, 24⟩) (.bin .sub (.glob 4 "DIGIT_REST" ⟨31, 28, 31, 38⟩) (.con (.int 1) 0 ⟨31, 41, 31, 42⟩) ⟨31, 28, 31, 42⟩) ⟨31, 21, 31, 43⟩) (.blt .int (.cmp .ne (.var ⟨1, "found", ⟨31, 50, 31, 55⟩⟩) (.lst .nil ⟨31, 59, 31, 61⟩) ⟨31, 50, 31, 61⟩) .nil ⟨31, 46, 31, 49⟩ ⟨31, 46, 31, 62⟩) ⟨31, 21, 31, 62⟩) ⟨31, 8, 31, 20⟩ ⟨31, 8, 31, 63⟩ ⟨31, 8, 31, 63⟩)
def s_bits_of_1_1 : Sm := (.mut .extend ⟨1, "found", ⟨32, 8, 32, 13⟩⟩ (.bin .mul (.lst (.cons (.con (.int 1) 0 ⟨32, 22, 32, 23⟩) (.cons (.con (.int 0) 0 ⟨32, 25, 32, 26⟩) .nil)) ⟨32, 21, 32, 27⟩) (.var ⟨2, "digit", ⟨32, 30, 32, 35⟩⟩) ⟨32, 21, 32, 35⟩) ⟨32, 8, 32, 20⟩ ⟨32, 8, 32, 36⟩ ⟨32, 8, 32, 36⟩)
def s_bits_of_1 : Sm := (.loop (.name ⟨2, "digit", ⟨30, 8, 30, 13⟩⟩) (.seq (.var ⟨0, "number", ⟨30, 17, 30, 23⟩⟩)) (.cons s_bits_of_1_0 (.cons s_bits_of_1_1 .nil)) ⟨30, 4, 32, 36⟩)
def s_bits_of_2 : Sm := (.ret (.bin .add (.var ⟨1, "found", ⟨33, 11, 33, 16⟩⟩) (.bin .mul (.lst (.cons (.con (.int 0) 0 ⟨33, 20, 33, 21⟩) .nil) ⟨33, 19, 33, 22⟩) (.bin .sub (.glob 5 "ROUND_REST" ⟨33, 26, 33, 36⟩) (.con (.int 1) 0 ⟨33, 39, 33, 40⟩) ⟨33, 26, 33, 40⟩) ⟨33, 19, 33, 41⟩) ⟨33, 11, 33, 41⟩) ⟨33, 4, 33, 41⟩)
def b_bits_of : Sms := (.cons s_bits_of_0 (.cons s_bits_of_1 (.cons s_bits_of_2 .nil)))
def F_bits_of : Fn := ⟨"bits_of", ["number"], ["number", "found", "digit"], b_bits_of⟩
def s_long_of_0 : Sm := (.expr (.call 2 "need_number" (.var ⟨0, "number", ⟨35, 16, 35, 22⟩⟩) .nil ⟨35, 4, 35, 15⟩ ⟨35, 4, 35, 23⟩) ⟨35, 4, 35, 23⟩)
def s_long_of_1 : Sm := (.expr (.call 3 "need_rounds" (.var ⟨1, "many", ⟨36, 16, 36, 20⟩⟩) .nil ⟨36, 4, 36, 15⟩ ⟨36, 4, 36, 21⟩) ⟨36, 4, 36, 21⟩)
def s_long_of_2 : Sm := (.ret (.bin .mul (.blt .len (.call 4 "bits_of" (.var ⟨0, "number", ⟨37, 23, 37, 29⟩⟩) .nil ⟨37, 15, 37, 22⟩ ⟨37, 15, 37, 30⟩) .nil ⟨37, 11, 37, 14⟩ ⟨37, 11, 37, 31⟩) (.var ⟨1, "many", ⟨37, 34, 37, 38⟩⟩) ⟨37, 11, 37, 38⟩) ⟨37, 4, 37, 38⟩)
def b_long_of : Sms := (.cons s_long_of_0 (.cons s_long_of_1 (.cons s_long_of_2 .nil)))
def F_long_of : Fn := ⟨"long_of", ["number", "many"], ["number", "many"], b_long_of⟩
def s_order_0_0 : Sm := (.rais 1 "NoNumber" "no numbers" 0 ⟨40, 14, 40, 22⟩ ⟨40, 23, 40, 35⟩ ⟨40, 14, 40, 36⟩ ⟨40, 8, 40, 36⟩)
def s_order_0 : Sm := (.cond (.nott (.isi2 (.var ⟨0, "numbers", ⟨39, 22, 39, 29⟩⟩) 0 ⟨39, 32, 39, 36⟩ ⟨39, 38, 39, 43⟩ ⟨39, 31, 39, 44⟩ ⟨39, 11, 39, 21⟩ ⟨39, 11, 39, 45⟩) ⟨39, 7, 39, 45⟩) (.cons s_order_0_0 .nil) .nil ⟨39, 4, 40, 36⟩)
def s_order_1_0 : Sm := (.expr (.call 2 "need_number" (.var ⟨1, "number", ⟨42, 20, 42, 26⟩⟩) .nil ⟨42, 8, 42, 19⟩ ⟨42, 8, 42, 27⟩) ⟨42, 8, 42, 27⟩)
def s_order_1 : Sm := (.loop (.name ⟨1, "number", ⟨41, 8, 41, 14⟩⟩) (.seq (.var ⟨0, "numbers", ⟨41, 18, 41, 25⟩⟩)) (.cons s_order_1_0 .nil) ⟨41, 4, 42, 27⟩)
def s_order_2 : Sm := (.asg ⟨2, "rows", ⟨43, 4, 43, 8⟩⟩ (.blt .sorted (.lc (.tup (.cons (.blt .len (.call 4 "bits_of" (.var ⟨1, "number", ⟨43, 32, 43, 38⟩⟩) .nil ⟨43, 24, 43, 31⟩ ⟨43, 24, 43, 39⟩) .nil ⟨43, 20, 43, 23⟩ ⟨43, 20, 43, 40⟩) (.cons (.var ⟨1, "number", ⟨43, 42, 43, 48⟩⟩) .nil)) 0 ⟨43, 19, 43, 49⟩) (.name ⟨1, "number", ⟨43, 54, 43, 60⟩⟩) (.seq (.var ⟨0, "numbers", ⟨43, 64, 43, 71⟩⟩)) .none (cs [(".0", .local), ("number", .local), ("len", .globalImplicit), ("bits_of", .globalImplicit)]) [("number", 1)] ⟨43, 18, 43, 72⟩) .nil ⟨43, 11, 43, 17⟩ ⟨43, 11, 43, 73⟩) ⟨43, 4, 43, 73⟩)
def s_order_3 : Sm := (.ret (.lc (.var ⟨1, "number", ⟨44, 12, 44, 18⟩⟩) (.tup [⟨3, "long", ⟨44, 23, 44, 27⟩⟩, ⟨1, "number", ⟨44, 29, 44, 35⟩⟩] 0 ⟨44, 23, 44, 35⟩) (.seq (.var ⟨2, "rows", ⟨44, 39, 44, 43⟩⟩)) .none (cs [(".0", .local), ("long", .local), ("number", .local)]) [("long", 3), ("number", 1)] ⟨44, 11, 44, 44⟩) ⟨44, 4, 44, 44⟩)
def b_order : Sms := (.cons s_order_0 (.cons s_order_1 (.cons s_order_2 (.cons s_order_3 .nil))))
def F_order : Fn := ⟨"order", ["numbers"], ["numbers", "number", "rows", "long"], b_order⟩
def s_is_round_0_0 : Sm := (.ret (.con (.bl false) 0 ⟨50, 15, 50, 20⟩) ⟨50, 8, 50, 20⟩)
def s_is_round_0 : Sm := (.cond (.bool false (.nott (.isi (.var ⟨0, "thing", ⟨49, 22, 49, 27⟩⟩) .tuple ⟨49, 29, 49, 34⟩ ⟨49, 11, 49, 21⟩ ⟨49, 11, 49, 35⟩) ⟨49, 7, 49, 35⟩) (.cons (.nott (.chain .le .le (.con (.int 1) 0 ⟨49, 43, 49, 44⟩) (.blt .len (.var ⟨0, "thing", ⟨49, 52, 49, 57⟩⟩) .nil ⟨49, 48, 49, 51⟩ ⟨49, 48, 49, 58⟩) (.glob 6 "MOST_HEARD" ⟨49, 62, 49, 72⟩) ⟨49, 43, 49, 72⟩) ⟨49, 39, 49, 72⟩) .nil) ⟨49, 7, 49, 72⟩) (.cons s_is_round_0_0 .nil) .nil ⟨49, 4, 50, 20⟩)
def s_is_round_1 : Sm := (.ret (.blt .all (.lc (.call 0 "is_count" (.var ⟨1, "one", ⟨51, 25, 51, 28⟩⟩) (.cons (.con (.int 1) 0 ⟨51, 30, 51, 31⟩) (.cons (.glob 6 "MOST_HEARD" ⟨51, 33, 51, 43⟩) .nil)) ⟨51, 16, 51, 24⟩ ⟨51, 16, 51, 44⟩) (.name ⟨1, "one", ⟨51, 49, 51, 52⟩⟩) (.seq (.var ⟨0, "thing", ⟨51, 56, 51, 61⟩⟩)) .none (cs [(".0", .local), ("one", .local), ("is_count", .globalImplicit), ("MOST_HEARD", .globalImplicit)]) [("one", 1)] ⟨51, 15, 51, 62⟩) .nil ⟨51, 11, 51, 14⟩ ⟨51, 11, 51, 63⟩) ⟨51, 4, 51, 63⟩)
def b_is_round : Sms := (.cons s_is_round_0 (.cons s_is_round_1 .nil))
def F_is_round : Fn := ⟨"is_round", ["thing"], ["thing", "one"], b_is_round⟩
def s_need_round_0_0 : Sm := (.rais 1 "NoNumber" "no round" 0 ⟨54, 14, 54, 22⟩ ⟨54, 23, 54, 33⟩ ⟨54, 14, 54, 34⟩ ⟨54, 8, 54, 34⟩)
def s_need_round_0 : Sm := (.cond (.nott (.call 7 "is_round" (.var ⟨0, "digits", ⟨53, 20, 53, 26⟩⟩) .nil ⟨53, 11, 53, 19⟩ ⟨53, 11, 53, 27⟩) ⟨53, 7, 53, 27⟩) (.cons s_need_round_0_0 .nil) .nil ⟨53, 4, 54, 34⟩)
def b_need_round : Sms := (.cons s_need_round_0 .nil)
def F_need_round : Fn := ⟨"need_round", ["digits"], ["digits"], b_need_round⟩
def s_is_book_0_0 : Sm := (.ret (.con (.bl false) 0 ⟨57, 15, 57, 20⟩) ⟨57, 8, 57, 20⟩)
def s_is_book_0 : Sm := (.cond (.bool false (.nott (.isi (.var ⟨0, "thing", ⟨56, 22, 56, 27⟩⟩) .tuple ⟨56, 29, 56, 34⟩ ⟨56, 11, 56, 21⟩ ⟨56, 11, 56, 35⟩) ⟨56, 7, 56, 35⟩) (.cons (.nott (.chain .le .le (.con (.int 1) 0 ⟨56, 43, 56, 44⟩) (.blt .len (.var ⟨0, "thing", ⟨56, 52, 56, 57⟩⟩) .nil ⟨56, 48, 56, 51⟩ ⟨56, 48, 56, 58⟩) (.glob 0 "MOST_NUMBERS" ⟨56, 62, 56, 74⟩) ⟨56, 43, 56, 74⟩) ⟨56, 39, 56, 74⟩) .nil) ⟨56, 7, 56, 74⟩) (.cons s_is_book_0_0 .nil) .nil ⟨56, 4, 57, 20⟩)
def s_is_book_1_0 : Sm := (.ret (.con (.bl false) 0 ⟨59, 15, 59, 20⟩) ⟨59, 8, 59, 20⟩)
def s_is_book_1 : Sm := (.cond (.nott (.blt .all (.lc (.call 1 "is_number" (.var ⟨1, "one", ⟨58, 26, 58, 29⟩⟩) .nil ⟨58, 16, 58, 25⟩ ⟨58, 16, 58, 30⟩) (.name ⟨1, "one", ⟨58, 35, 58, 38⟩⟩) (.seq (.var ⟨0, "thing", ⟨58, 42, 58, 47⟩⟩)) .none (cs [(".0", .local), ("one", .local), ("is_number", .globalImplicit)]) [("one", 1)] ⟨58, 15, 58, 48⟩) .nil ⟨58, 11, 58, 14⟩ ⟨58, 11, 58, 49⟩) ⟨58, 7, 58, 49⟩) (.cons s_is_book_1_0 .nil) .nil ⟨58, 4, 59, 20⟩)
def s_is_book_2 : Sm := (.ret (.blt .all (.lc (.cmp .lt (.var ⟨1, "one", ⟨60, 16, 60, 19⟩⟩) (.var ⟨2, "other", ⟨60, 22, 60, 27⟩⟩) ⟨60, 16, 60, 27⟩) (.tup [⟨1, "one", ⟨60, 32, 60, 35⟩⟩, ⟨2, "other", ⟨60, 37, 60, 42⟩⟩] 0 ⟨60, 32, 60, 42⟩) (.zip (.var ⟨0, "thing", ⟨60, 50, 60, 55⟩⟩) (.slc (.var ⟨0, "thing", ⟨60, 57, 60, 62⟩⟩) (.some (.con (.int 1) 0 ⟨60, 63, 60, 64⟩)) .none ⟨60, 63, 60, 65⟩ ⟨60, 57, 60, 66⟩) ⟨60, 46, 60, 49⟩ ⟨60, 46, 60, 67⟩) .none (cs [(".0", .local), ("one", .local), ("other", .local)]) [("one", 1), ("other", 2)] ⟨60, 15, 60, 68⟩) .nil ⟨60, 11, 60, 14⟩ ⟨60, 11, 60, 69⟩) ⟨60, 4, 60, 69⟩)
def b_is_book : Sms := (.cons s_is_book_0 (.cons s_is_book_1 (.cons s_is_book_2 .nil)))
def F_is_book : Fn := ⟨"is_book", ["thing"], ["thing", "one", "other"], b_is_book⟩
def s_need_book_0_0 : Sm := (.rais 0 "NoBook" "no book" 0 ⟨63, 14, 63, 20⟩ ⟨63, 21, 63, 30⟩ ⟨63, 14, 63, 31⟩ ⟨63, 8, 63, 31⟩)
def s_need_book_0 : Sm := (.cond (.nott (.call 9 "is_book" (.var ⟨0, "book", ⟨62, 19, 62, 23⟩⟩) .nil ⟨62, 11, 62, 18⟩ ⟨62, 11, 62, 24⟩) ⟨62, 7, 62, 24⟩) (.cons s_need_book_0_0 .nil) .nil ⟨62, 4, 63, 31⟩)
def b_need_book : Sms := (.cons s_need_book_0 .nil)
def F_need_book : Fn := ⟨"need_book", ["book"], ["book"], b_need_book⟩
def s_cut_ahead_0 : Sm := (.asg ⟨1, "found", ⟨65, 4, 65, 9⟩⟩ (.lst .nil ⟨65, 12, 65, 14⟩) ⟨65, 4, 65, 14⟩)
def s_cut_ahead_1_0 : Sm := (.mut .extend ⟨1, "found", ⟨67, 8, 67, 13⟩⟩ (.lc (.bin .add (.tup (.cons (.var ⟨4, "less", ⟨67, 23, 67, 27⟩⟩) .nil) 0 ⟨67, 22, 67, 29⟩) (.slc (.var ⟨0, "number", ⟨67, 32, 67, 38⟩⟩) (.some (.bin .add (.var ⟨2, "place", ⟨67, 39, 67, 44⟩⟩) (.con (.int 1) 0 ⟨67, 47, 67, 48⟩) ⟨67, 39, 67, 48⟩)) .none ⟨67, 39, 67, 49⟩ ⟨67, 32, 67, 50⟩) ⟨67, 22, 67, 50⟩) (.name ⟨4, "less", ⟨67, 55, 67, 59⟩⟩) (.rng2 (.con (.int 1) 0 ⟨67, 69, 67, 70⟩) (.bin .add (.var ⟨3, "digit", ⟨67, 72, 67, 77⟩⟩) (.con (.int 1) 0 ⟨67, 80, 67, 81⟩) ⟨67, 72, 67, 81⟩) ⟨67, 63, 67, 68⟩ ⟨67, 63, 67, 82⟩) .none (cs [(".0", .local), ("less", .local), ("number", .free), ("place", .free)]) [("less", 4)] ⟨67, 21, 67, 83⟩) ⟨67, 8, 67, 20⟩ ⟨67, 8, 67, 84⟩ ⟨67, 8, 67, 84⟩)
def s_cut_ahead_1 : Sm := (.loop (.tup [⟨2, "place", ⟨66, 8, 66, 13⟩⟩, ⟨3, "digit", ⟨66, 15, 66, 20⟩⟩] 0 ⟨66, 8, 66, 20⟩) (.enum (.var ⟨0, "number", ⟨66, 34, 66, 40⟩⟩) ⟨66, 24, 66, 33⟩ ⟨66, 24, 66, 41⟩) (.cons s_cut_ahead_1_0 .nil) ⟨66, 4, 67, 84⟩)
def s_cut_ahead_2 : Sm := (.ret (.var ⟨1, "found", ⟨68, 11, 68, 16⟩⟩) ⟨68, 4, 68, 16⟩)
def b_cut_ahead : Sms := (.cons s_cut_ahead_0 (.cons s_cut_ahead_1 (.cons s_cut_ahead_2 .nil)))
def F_cut_ahead : Fn := ⟨"cut_ahead", ["number"], ["number", "found", "place", "digit", "less"], b_cut_ahead⟩
def s_late_0 : Sm := (.expr (.call 2 "need_number" (.var ⟨0, "number", ⟨70, 16, 70, 22⟩⟩) .nil ⟨70, 4, 70, 15⟩ ⟨70, 4, 70, 23⟩) ⟨70, 4, 70, 23⟩)
def s_late_1 : Sm := (.expr (.call 8 "need_round" (.var ⟨1, "digits", ⟨71, 15, 71, 21⟩⟩) .nil ⟨71, 4, 71, 14⟩ ⟨71, 4, 71, 22⟩) ⟨71, 4, 71, 22⟩)
def s_late_2 : Sm := (.ret (.cmp .isin (.var ⟨1, "digits", ⟨72, 11, 72, 17⟩⟩) (.call 11 "cut_ahead" (.var ⟨0, "number", ⟨72, 31, 72, 37⟩⟩) .nil ⟨72, 21, 72, 30⟩ ⟨72, 21, 72, 38⟩) ⟨72, 11, 72, 38⟩) ⟨72, 4, 72, 38⟩)
def b_late : Sms := (.cons s_late_0 (.cons s_late_1 (.cons s_late_2 .nil)))
def F_late : Fn := ⟨"late", ["number", "digits"], ["number", "digits"], b_late⟩
def s_mistaken_0 : Sm := (.expr (.call 10 "need_book" (.var ⟨0, "book", ⟨74, 14, 74, 18⟩⟩) .nil ⟨74, 4, 74, 13⟩ ⟨74, 4, 74, 19⟩) ⟨74, 4, 74, 19⟩)
def s_mistaken_1 : Sm := (.asg ⟨1, "found", ⟨75, 4, 75, 9⟩⟩ (.lst .nil ⟨75, 12, 75, 14⟩) ⟨75, 4, 75, 14⟩)
def s_mistaken_2_0 : Sm := (.mut .extend ⟨1, "found", ⟨77, 8, 77, 13⟩⟩ (.lc (.tup (.cons (.var ⟨2, "one", ⟨77, 23, 77, 26⟩⟩) (.cons (.var ⟨3, "other", ⟨77, 28, 77, 33⟩⟩) .nil)) 0 ⟨77, 22, 77, 34⟩) (.name ⟨3, "other", ⟨77, 39, 77, 44⟩⟩) (.seq (.var ⟨0, "book", ⟨77, 48, 77, 52⟩⟩)) (.some (.bool true (.cmp .ne (.var ⟨2, "one", ⟨77, 56, 77, 59⟩⟩) (.var ⟨3, "other", ⟨77, 63, 77, 68⟩⟩) ⟨77, 56, 77, 68⟩) (.cons (.call 12 "late" (.var ⟨3, "other", ⟨77, 78, 77, 83⟩⟩) (.cons (.var ⟨2, "one", ⟨77, 85, 77, 88⟩⟩) .nil) ⟨77, 73, 77, 77⟩ ⟨77, 73, 77, 89⟩) .nil) ⟨77, 56, 77, 89⟩)) (cs [(".0", .local), ("other", .local), ("late", .globalImplicit), ("one", .free)]) [("other", 3)] ⟨77, 21, 77, 90⟩) ⟨77, 8, 77, 20⟩ ⟨77, 8, 77, 91⟩ ⟨77, 8, 77, 91⟩)
def s_mistaken_2 : Sm := (.loop (.name ⟨2, "one", ⟨76, 8, 76, 11⟩⟩) (.seq (.var ⟨0, "book", ⟨76, 15, 76, 19⟩⟩)) (.cons s_mistaken_2_0 .nil) ⟨76, 4, 77, 91⟩)
def s_mistaken_3 : Sm := (.ret (.var ⟨1, "found", ⟨78, 11, 78, 16⟩⟩) ⟨78, 4, 78, 16⟩)
def b_mistaken : Sms := (.cons s_mistaken_0 (.cons s_mistaken_1 (.cons s_mistaken_2 (.cons s_mistaken_3 .nil))))
def F_mistaken : Fn := ⟨"mistaken", ["book"], ["book", "found", "one", "other"], b_mistaken⟩
def s_is_safe_0 : Sm := (.ret (.cmp .eq (.call 13 "mistaken" (.var ⟨0, "book", ⟨80, 20, 80, 24⟩⟩) .nil ⟨80, 11, 80, 19⟩ ⟨80, 11, 80, 25⟩) (.lst .nil ⟨80, 29, 80, 31⟩) ⟨80, 11, 80, 31⟩) ⟨80, 4, 80, 31⟩)
def b_is_safe : Sms := (.cons s_is_safe_0 .nil)
def F_is_safe : Fn := ⟨"is_safe", ["book"], ["book"], b_is_safe⟩
def s_all_numbers_0 : Sm := (.asg ⟨0, "found", ⟨83, 4, 83, 9⟩⟩ (.lst .nil ⟨83, 12, 83, 14⟩) ⟨83, 4, 83, 14⟩)
def s_all_numbers_1 : Sm := (.asg ⟨1, "some", ⟨84, 4, 84, 8⟩⟩ (.lst (.cons (.tup .nil 0 ⟨84, 12, 84, 14⟩) .nil) ⟨84, 11, 84, 15⟩) ⟨84, 4, 84, 15⟩)
def s_all_numbers_2_0 : Sm := (.asg ⟨3, "longer", ⟨86, 8, 86, 14⟩⟩ (.lst .nil ⟨86, 17, 86, 19⟩) ⟨86, 8, 86, 19⟩)
def s_all_numbers_2_1_0 : Sm := (.mut .extend ⟨3, "longer", ⟨88, 12, 88, 18⟩⟩ (.lc (.bin .add (.var ⟨4, "one", ⟨88, 27, 88, 30⟩⟩) (.tup (.cons (.var ⟨5, "digit", ⟨88, 34, 88, 39⟩⟩) .nil) 0 ⟨88, 33, 88, 41⟩) ⟨88, 27, 88, 41⟩) (.name ⟨5, "digit", ⟨88, 46, 88, 51⟩⟩) (.rng2 (.con (.int 1) 0 ⟨88, 61, 88, 62⟩) (.bin .add (.glob 2 "MOST_DIGIT" ⟨88, 64, 88, 74⟩) (.con (.int 1) 0 ⟨88, 77, 88, 78⟩) ⟨88, 64, 88, 78⟩) ⟨88, 55, 88, 60⟩ ⟨88, 55, 88, 79⟩) .none (cs [(".0", .local), ("digit", .local), ("one", .free)]) [("digit", 5)] ⟨88, 26, 88, 80⟩) ⟨88, 12, 88, 25⟩ ⟨88, 12, 88, 81⟩ ⟨88, 12, 88, 81⟩)
def s_all_numbers_2_1 : Sm := (.loop (.name ⟨4, "one", ⟨87, 12, 87, 15⟩⟩) (.seq (.var ⟨1, "some", ⟨87, 19, 87, 23⟩⟩)) (.cons s_all_numbers_2_1_0 .nil) ⟨87, 8, 88, 81⟩)
def s_all_numbers_2_2 : Sm := (.mut .extend ⟨0, "found", ⟨89, 8, 89, 13⟩⟩ (.var ⟨3, "longer", ⟨89, 21, 89, 27⟩⟩) ⟨89, 8, 89, 20⟩ ⟨89, 8, 89, 28⟩ ⟨89, 8, 89, 28⟩)
def s_all_numbers_2_3 : Sm := (.asg ⟨1, "some", ⟨90, 8, 90, 12⟩⟩ (.var ⟨3, "longer", ⟨90, 15, 90, 21⟩⟩) ⟨90, 8, 90, 21⟩)
def s_all_numbers_2 : Sm := (.loop (.name ⟨2, "turn", ⟨85, 8, 85, 12⟩⟩) (.rng1 (.glob 1 "MOST_DIGITS" ⟨85, 22, 85, 33⟩) ⟨85, 16, 85, 21⟩ ⟨85, 16, 85, 34⟩) (.cons s_all_numbers_2_0 (.cons s_all_numbers_2_1 (.cons s_all_numbers_2_2 (.cons s_all_numbers_2_3 .nil)))) ⟨85, 4, 90, 21⟩)
def s_all_numbers_3 : Sm := (.ret (.blt .sorted (.var ⟨0, "found", ⟨91, 18, 91, 23⟩⟩) .nil ⟨91, 11, 91, 17⟩ ⟨91, 11, 91, 24⟩) ⟨91, 4, 91, 24⟩)
def b_all_numbers : Sms := (.cons s_all_numbers_0 (.cons s_all_numbers_1 (.cons s_all_numbers_2 (.cons s_all_numbers_3 .nil))))
def F_all_numbers : Fn := ⟨"all_numbers", [], ["found", "some", "turn", "longer", "one", "digit"], b_all_numbers⟩
def s_are_safe_0_0 : Sm := (.asg ⟨2, "cut", ⟨94, 8, 94, 11⟩⟩ (.call 11 "cut_ahead" (.var ⟨1, "one", ⟨94, 24, 94, 27⟩⟩) .nil ⟨94, 14, 94, 23⟩ ⟨94, 14, 94, 28⟩) ⟨94, 8, 94, 28⟩)
def s_are_safe_0_1_0 : Sm := (.ret (.con (.bl false) 0 ⟨96, 19, 96, 24⟩) ⟨96, 12, 96, 24⟩)
def s_are_safe_0_1 : Sm := (.cond (.cmp .ne (.lc (.var ⟨3, "other", ⟨95, 12, 95, 17⟩⟩) (.name ⟨3, "other", ⟨95, 22, 95, 27⟩⟩) (.seq (.var ⟨0, "numbers", ⟨95, 31, 95, 38⟩⟩)) (.some (.bool true (.cmp .ne (.var ⟨3, "other", ⟨95, 42, 95, 47⟩⟩) (.var ⟨1, "one", ⟨95, 51, 95, 54⟩⟩) ⟨95, 42, 95, 54⟩) (.cons (.cmp .isin (.var ⟨3, "other", ⟨95, 59, 95, 64⟩⟩) (.var ⟨2, "cut", ⟨95, 68, 95, 71⟩⟩) ⟨95, 59, 95, 71⟩) .nil) ⟨95, 42, 95, 71⟩)) (cs [(".0", .local), ("other", .local), ("cut", .free), ("one", .free)]) [("other", 3)] ⟨95, 11, 95, 72⟩) (.lst .nil ⟨95, 76, 95, 78⟩) ⟨95, 11, 95, 78⟩) (.cons s_are_safe_0_1_0 .nil) .nil ⟨95, 8, 96, 24⟩)
def s_are_safe_0 : Sm := (.loop (.name ⟨1, "one", ⟨93, 8, 93, 11⟩⟩) (.seq (.var ⟨0, "numbers", ⟨93, 15, 93, 22⟩⟩)) (.cons s_are_safe_0_0 (.cons s_are_safe_0_1 .nil)) ⟨93, 4, 96, 24⟩)
def s_are_safe_1 : Sm := (.ret (.con (.bl true) 0 ⟨97, 11, 97, 15⟩) ⟨97, 4, 97, 15⟩)
def b_are_safe : Sms := (.cons s_are_safe_0 (.cons s_are_safe_1 .nil))
def F_are_safe : Fn := ⟨"are_safe", ["numbers"], ["numbers", "one", "cut", "other"], b_are_safe⟩
def s_may_join_0 : Sm := (.expr (.call 10 "need_book" (.var ⟨0, "book", ⟨99, 14, 99, 18⟩⟩) .nil ⟨99, 4, 99, 13⟩ ⟨99, 4, 99, 19⟩) ⟨99, 4, 99, 19⟩)
def s_may_join_1_0 : Sm := (.ret (.lst .nil ⟨101, 15, 101, 17⟩) ⟨101, 8, 101, 17⟩)
def s_may_join_1 : Sm := (.cond (.bool false (.cmp .eq (.blt .len (.var ⟨0, "book", ⟨100, 11, 100, 15⟩⟩) .nil ⟨100, 7, 100, 10⟩ ⟨100, 7, 100, 16⟩) (.glob 0 "MOST_NUMBERS" ⟨100, 20, 100, 32⟩) ⟨100, 7, 100, 32⟩) (.cons (.nott (.call 16 "are_safe" (.var ⟨0, "book", ⟨100, 49, 100, 53⟩⟩) .nil ⟨100, 40, 100, 48⟩ ⟨100, 40, 100, 54⟩) ⟨100, 36, 100, 54⟩) .nil) ⟨100, 7, 100, 54⟩) (.cons s_may_join_1_0 .nil) .nil ⟨100, 4, 101, 17⟩)
def s_may_join_2 : Sm := (.ret (.lc (.var ⟨1, "one", ⟨102, 12, 102, 15⟩⟩) (.name ⟨1, "one", ⟨102, 20, 102, 23⟩⟩) (.seq (.call0 15 "all_numbers" ⟨102, 27, 102, 38⟩ ⟨102, 27, 102, 40⟩)) (.some (.bool true (.cmp .notin (.var ⟨1, "one", ⟨102, 44, 102, 47⟩⟩) (.var ⟨0, "book", ⟨102, 55, 102, 59⟩⟩) ⟨102, 44, 102, 59⟩) (.cons (.call 16 "are_safe" (.bin .add (.var ⟨0, "book", ⟨102, 73, 102, 77⟩⟩) (.tup (.cons (.var ⟨1, "one", ⟨102, 81, 102, 84⟩⟩) .nil) 0 ⟨102, 80, 102, 86⟩) ⟨102, 73, 102, 86⟩) .nil ⟨102, 64, 102, 72⟩ ⟨102, 64, 102, 87⟩) .nil) ⟨102, 44, 102, 87⟩)) (cs [(".0", .local), ("one", .local), ("are_safe", .globalImplicit), ("book", .free)]) [("one", 1)] ⟨102, 11, 102, 88⟩) ⟨102, 4, 102, 88⟩)
def b_may_join : Sms := (.cons s_may_join_0 (.cons s_may_join_1 (.cons s_may_join_2 .nil)))
def F_may_join : Fn := ⟨"may_join", ["book"], ["book", "one"], b_may_join⟩
def s_best_joining_0 : Sm := (.asg ⟨1, "some", ⟨104, 4, 104, 8⟩⟩ (.call 6 "order" (.call 17 "may_join" (.var ⟨0, "book", ⟨104, 26, 104, 30⟩⟩) .nil ⟨104, 17, 104, 25⟩ ⟨104, 17, 104, 31⟩) .nil ⟨104, 11, 104, 16⟩ ⟨104, 11, 104, 32⟩) ⟨104, 4, 104, 32⟩)
def s_best_joining_1 : Sm := (.ret (.ife (.cmp .ne (.var ⟨1, "some", ⟨105, 22, 105, 26⟩⟩) (.lst .nil ⟨105, 30, 105, 32⟩) ⟨105, 22, 105, 32⟩) (.ix (.var ⟨1, "some", ⟨105, 11, 105, 15⟩⟩) (.con (.int 0) 0 ⟨105, 16, 105, 17⟩) ⟨105, 11, 105, 18⟩) (.con .non 0 ⟨105, 38, 105, 42⟩) ⟨105, 11, 105, 42⟩) ⟨105, 4, 105, 42⟩)
def b_best_joining : Sms := (.cons s_best_joining_0 (.cons s_best_joining_1 .nil))
def F_best_joining : Fn := ⟨"best_joining", ["book"], ["book", "some"], b_best_joining⟩
def s_safest_0 : Sm := (.expr (.call 10 "need_book" (.var ⟨0, "book", ⟨107, 14, 107, 18⟩⟩) .nil ⟨107, 4, 107, 13⟩ ⟨107, 4, 107, 19⟩) ⟨107, 4, 107, 19⟩)
def s_safest_1 : Sm := (.asg ⟨1, "best", ⟨108, 4, 108, 8⟩⟩ (.tup .nil 0 ⟨108, 11, 108, 13⟩) ⟨108, 4, 108, 13⟩)
def s_safest_2 : Sm := (.asg ⟨2, "some", ⟨109, 4, 109, 8⟩⟩ (.lst (.cons (.tup .nil 0 ⟨109, 12, 109, 14⟩) .nil) ⟨109, 11, 109, 15⟩) ⟨109, 4, 109, 15⟩)
def s_safest_3_0 : Sm := (.asg ⟨2, "some", ⟨111, 8, 111, 12⟩⟩ (.bin .add (.var ⟨2, "some", ⟨111, 15, 111, 19⟩⟩) (.lc (.bin .add (.var ⟨4, "one", ⟨111, 23, 111, 26⟩⟩) (.tup (.cons (.var ⟨3, "number", ⟨111, 30, 111, 36⟩⟩) .nil) 0 ⟨111, 29, 111, 38⟩) ⟨111, 23, 111, 38⟩) (.name ⟨4, "one", ⟨111, 43, 111, 46⟩⟩) (.seq (.var ⟨2, "some", ⟨111, 50, 111, 54⟩⟩)) .none (cs [(".0", .local), ("one", .local), ("number", .free)]) [("one", 4)] ⟨111, 22, 111, 55⟩) ⟨111, 15, 111, 55⟩) ⟨111, 8, 111, 55⟩)
def s_safest_3 : Sm := (.loop (.name ⟨3, "number", ⟨110, 8, 110, 14⟩⟩) (.seq (.var ⟨0, "book", ⟨110, 18, 110, 22⟩⟩)) (.cons s_safest_3_0 .nil) ⟨110, 4, 111, 55⟩)
def s_safest_4_0_0 : Sm := (.asg ⟨1, "best", ⟨114, 12, 114, 16⟩⟩ (.var ⟨4, "one", ⟨114, 19, 114, 22⟩⟩) ⟨114, 12, 114, 22⟩)
def s_safest_4_0 : Sm := (.cond (.bool true (.cmp .gt (.blt .len (.var ⟨4, "one", ⟨113, 15, 113, 18⟩⟩) .nil ⟨113, 11, 113, 14⟩ ⟨113, 11, 113, 19⟩) (.blt .len (.var ⟨1, "best", ⟨113, 26, 113, 30⟩⟩) .nil ⟨113, 22, 113, 25⟩ ⟨113, 22, 113, 31⟩) ⟨113, 11, 113, 31⟩) (.cons (.call 16 "are_safe" (.var ⟨4, "one", ⟨113, 45, 113, 48⟩⟩) .nil ⟨113, 36, 113, 44⟩ ⟨113, 36, 113, 49⟩) .nil) ⟨113, 11, 113, 49⟩) (.cons s_safest_4_0_0 .nil) .nil ⟨113, 8, 114, 22⟩)
def s_safest_4 : Sm := (.loop (.name ⟨4, "one", ⟨112, 8, 112, 11⟩⟩) (.seq (.blt .sorted (.var ⟨2, "some", ⟨112, 22, 112, 26⟩⟩) .nil ⟨112, 15, 112, 21⟩ ⟨112, 15, 112, 27⟩)) (.cons s_safest_4_0 .nil) ⟨112, 4, 114, 22⟩)
def s_safest_5 : Sm := (.ret (.var ⟨1, "best", ⟨115, 11, 115, 15⟩⟩) ⟨115, 4, 115, 15⟩)
def b_safest : Sms := (.cons s_safest_0 (.cons s_safest_1 (.cons s_safest_2 (.cons s_safest_3 (.cons s_safest_4 (.cons s_safest_5 .nil))))))
def F_safest : Fn := ⟨"safest", ["book"], ["book", "best", "some", "number", "one"], b_safest⟩
def s__law_cell_0_0 : Sm := (.ret (.bin .mul (.con (.int 7) 0 ⟨119, 15, 119, 16⟩) (.var ⟨1, "k", ⟨119, 19, 119, 20⟩⟩) ⟨119, 15, 119, 20⟩) ⟨119, 8, 119, 20⟩)
def s__law_cell_0 : Sm := (.cond (.cmp .eq (.var ⟨0, "script", ⟨118, 7, 118, 13⟩⟩) (.lst .nil ⟨118, 17, 118, 19⟩) ⟨118, 7, 118, 19⟩) (.cons s__law_cell_0_0 .nil) .nil ⟨118, 4, 119, 20⟩)
def s__law_cell_1 : Sm := (.ret (.bin .add (.ix (.var ⟨0, "script", ⟨120, 11, 120, 17⟩⟩) (.bin .mod (.var ⟨1, "k", ⟨120, 18, 120, 19⟩⟩) (.blt .len (.var ⟨0, "script", ⟨120, 26, 120, 32⟩⟩) .nil ⟨120, 22, 120, 25⟩ ⟨120, 22, 120, 33⟩) ⟨120, 18, 120, 33⟩) ⟨120, 11, 120, 34⟩) (.bin .mul (.con (.int 6553) 0 ⟨120, 37, 120, 41⟩) (.bin .fdiv (.var ⟨1, "k", ⟨120, 45, 120, 46⟩⟩) (.blt .len (.var ⟨0, "script", ⟨120, 54, 120, 60⟩⟩) .nil ⟨120, 50, 120, 53⟩ ⟨120, 50, 120, 61⟩) ⟨120, 45, 120, 61⟩) ⟨120, 37, 120, 62⟩) ⟨120, 11, 120, 62⟩) ⟨120, 4, 120, 62⟩)
def b__law_cell : Sms := (.cons s__law_cell_0 (.cons s__law_cell_1 .nil))
def F__law_cell : Fn := ⟨"_law_cell", ["script", "k"], ["script", "k"], b__law_cell⟩
def s__law_drawn_0 : Sm := (.asg ⟨3, "cell", ⟨122, 4, 122, 8⟩⟩ (.bin .mod (.bin .add (.bin .mul (.bin .mod (.call 20 "_law_cell" (.var ⟨0, "script", ⟨122, 22, 122, 28⟩⟩) (.cons (.var ⟨1, "k", ⟨122, 30, 122, 31⟩⟩) .nil) ⟨122, 12, 122, 21⟩ ⟨122, 12, 122, 32⟩) (.con (.int 2147483563) 0 ⟨122, 35, 122, 45⟩) ⟨122, 12, 122, 45⟩) (.con (.int 69069) 0 ⟨122, 48, 122, 53⟩) ⟨122, 12, 122, 53⟩) (.bin .mul (.con (.int 104723) 0 ⟨122, 56, 122, 62⟩) (.bin .add (.var ⟨1, "k", ⟨122, 66, 122, 67⟩⟩) (.con (.int 1) 0 ⟨122, 70, 122, 71⟩) ⟨122, 66, 122, 71⟩) ⟨122, 56, 122, 72⟩) ⟨122, 12, 122, 72⟩) (.con (.int 2147483563) 0 ⟨122, 76, 122, 86⟩) ⟨122, 11, 122, 86⟩) ⟨122, 4, 122, 86⟩)
def s__law_drawn_1 : Sm := (.asg ⟨3, "cell", ⟨123, 4, 123, 8⟩⟩ (.bin .mod (.bin .add (.bin .mul (.var ⟨3, "cell", ⟨123, 12, 123, 16⟩⟩) (.var ⟨3, "cell", ⟨123, 19, 123, 23⟩⟩) ⟨123, 12, 123, 23⟩) (.bin .fdiv (.var ⟨3, "cell", ⟨123, 26, 123, 30⟩⟩) (.con (.int 3) 0 ⟨123, 34, 123, 35⟩) ⟨123, 26, 123, 35⟩) ⟨123, 12, 123, 35⟩) (.con (.int 2147483399) 0 ⟨123, 39, 123, 49⟩) ⟨123, 11, 123, 49⟩) ⟨123, 4, 123, 49⟩)
def s__law_drawn_2 : Sm := (.ret (.bin .mod (.bin .fdiv (.bin .mod (.bin .add (.bin .mul (.var ⟨3, "cell", ⟨124, 12, 124, 16⟩⟩) (.var ⟨3, "cell", ⟨124, 19, 124, 23⟩⟩) ⟨124, 12, 124, 23⟩) (.bin .fdiv (.var ⟨3, "cell", ⟨124, 26, 124, 30⟩⟩) (.con (.int 7) 0 ⟨124, 34, 124, 35⟩) ⟨124, 26, 124, 35⟩) ⟨124, 12, 124, 35⟩) (.con (.int 2147483647) 0 ⟨124, 39, 124, 49⟩) ⟨124, 11, 124, 49⟩) (.con (.int 11) 0 ⟨124, 53, 124, 55⟩) ⟨124, 11, 124, 55⟩) (.var ⟨2, "many", ⟨124, 58, 124, 62⟩⟩) ⟨124, 11, 124, 62⟩) ⟨124, 4, 124, 62⟩)
def b__law_drawn : Sms := (.cons s__law_drawn_0 (.cons s__law_drawn_1 (.cons s__law_drawn_2 .nil)))
def F__law_drawn : Fn := ⟨"_law_drawn", ["script", "k", "many"], ["script", "k", "many", "cell"], b__law_drawn⟩
def s__law_number_0 : Sm := (.asg ⟨2, "many", ⟨126, 4, 126, 8⟩⟩ (.bin .add (.con (.int 1) 0 ⟨126, 11, 126, 12⟩) (.call 21 "_law_drawn" (.var ⟨0, "script", ⟨126, 26, 126, 32⟩⟩) (.cons (.var ⟨1, "at", ⟨126, 34, 126, 36⟩⟩) (.cons (.con (.int 3) 0 ⟨126, 38, 126, 39⟩) .nil)) ⟨126, 15, 126, 25⟩ ⟨126, 15, 126, 40⟩) ⟨126, 11, 126, 40⟩) ⟨126, 4, 126, 40⟩)
def s__law_number_1 : Sm := (.ret (.blt .tuple (.lc (.bin .add (.con (.int 1) 0 ⟨127, 18, 127, 19⟩) (.call 21 "_law_drawn" (.var ⟨0, "script", ⟨127, 33, 127, 39⟩⟩) (.cons (.bin .add (.bin .add (.var ⟨1, "at", ⟨127, 41, 127, 43⟩⟩) (.con (.int 1) 0 ⟨127, 46, 127, 47⟩) ⟨127, 41, 127, 47⟩) (.var ⟨3, "k", ⟨127, 50, 127, 51⟩⟩) ⟨127, 41, 127, 51⟩) (.cons (.con (.int 3) 0 ⟨127, 53, 127, 54⟩) .nil)) ⟨127, 22, 127, 32⟩ ⟨127, 22, 127, 55⟩) ⟨127, 18, 127, 55⟩) (.name ⟨3, "k", ⟨127, 60, 127, 61⟩⟩) (.rng1 (.var ⟨2, "many", ⟨127, 71, 127, 75⟩⟩) ⟨127, 65, 127, 70⟩ ⟨127, 65, 127, 76⟩) .none (cs [(".0", .local), ("k", .local), ("_law_drawn", .globalImplicit), ("at", .free), ("script", .free)]) [("k", 3)] ⟨127, 17, 127, 77⟩) .nil ⟨127, 11, 127, 16⟩ ⟨127, 11, 127, 78⟩) ⟨127, 4, 127, 78⟩)
def b__law_number : Sms := (.cons s__law_number_0 (.cons s__law_number_1 .nil))
def F__law_number : Fn := ⟨"_law_number", ["script", "at"], ["script", "at", "many", "k"], b__law_number⟩
def s__law_book_0 : Sm := (.asg ⟨3, "found", ⟨129, 4, 129, 9⟩⟩ (.lc (.call 22 "_law_number" (.var ⟨0, "script", ⟨129, 25, 129, 31⟩⟩) (.cons (.bin .add (.bin .add (.var ⟨1, "at", ⟨129, 33, 129, 35⟩⟩) (.con (.int 1) 0 ⟨129, 38, 129, 39⟩) ⟨129, 33, 129, 39⟩) (.bin .mul (.con (.int 5) 0 ⟨129, 42, 129, 43⟩) (.var ⟨4, "k", ⟨129, 46, 129, 47⟩⟩) ⟨129, 42, 129, 47⟩) ⟨129, 33, 129, 47⟩) .nil) ⟨129, 13, 129, 24⟩ ⟨129, 13, 129, 48⟩) (.name ⟨4, "k", ⟨129, 53, 129, 54⟩⟩) (.rng1 (.bin .add (.con (.int 1) 0 ⟨129, 64, 129, 65⟩) (.call 21 "_law_drawn" (.var ⟨0, "script", ⟨129, 79, 129, 85⟩⟩) (.cons (.var ⟨1, "at", ⟨129, 87, 129, 89⟩⟩) (.cons (.var ⟨2, "most", ⟨129, 91, 129, 95⟩⟩) .nil)) ⟨129, 68, 129, 78⟩ ⟨129, 68, 129, 96⟩) ⟨129, 64, 129, 96⟩) ⟨129, 58, 129, 63⟩ ⟨129, 58, 129, 97⟩) .none (cs [(".0", .local), ("k", .local), ("_law_number", .globalImplicit), ("at", .free), ("script", .free)]) [("k", 4)] ⟨129, 12, 129, 98⟩) ⟨129, 4, 129, 98⟩)
def s__law_book_1 : Sm := (.ret (.blt .tuple (.srtset true (.var ⟨3, "found", ⟨130, 28, 130, 33⟩⟩) ⟨130, 24, 130, 27⟩ ⟨130, 24, 130, 34⟩ ⟨130, 17, 130, 23⟩ ⟨130, 17, 130, 35⟩) .nil ⟨130, 11, 130, 16⟩ ⟨130, 11, 130, 36⟩) ⟨130, 4, 130, 36⟩)
def b__law_book : Sms := (.cons s__law_book_0 (.cons s__law_book_1 .nil))
def F__law_book : Fn := ⟨"_law_book", ["script", "at", "most"], ["script", "at", "most", "found", "k"], b__law_book⟩
def s_law_0 : Sm := (.asg ⟨1, "book", ⟨132, 4, 132, 8⟩⟩ (.call 23 "_law_book" (.var ⟨0, "script", ⟨132, 21, 132, 27⟩⟩) (.cons (.con (.int 0) 0 ⟨132, 29, 132, 30⟩) (.cons (.con (.int 4) 0 ⟨132, 32, 132, 33⟩) .nil)) ⟨132, 11, 132, 20⟩ ⟨132, 11, 132, 34⟩) ⟨132, 4, 132, 34⟩)
def s_law_1 : Sm := (.asg ⟨2, "some", ⟨133, 4, 133, 8⟩⟩ (.call 17 "may_join" (.var ⟨1, "book", ⟨133, 20, 133, 24⟩⟩) .nil ⟨133, 11, 133, 19⟩ ⟨133, 11, 133, 25⟩) ⟨133, 4, 133, 25⟩)
def s_law_2_0 : Sm := (.ret (.con (.bl false) 0 ⟨135, 15, 135, 20⟩) ⟨135, 8, 135, 20⟩)
def s_law_2 : Sm := (.cond (.bool false (.cmp .ne (.var ⟨2, "some", ⟨134, 7, 134, 11⟩⟩) (.srtset true (.var ⟨2, "some", ⟨134, 26, 134, 30⟩⟩) ⟨134, 22, 134, 25⟩ ⟨134, 22, 134, 31⟩ ⟨134, 15, 134, 21⟩ ⟨134, 15, 134, 32⟩) ⟨134, 7, 134, 32⟩) (.cons (.cmp .ne (.lc (.var ⟨3, "one", ⟨134, 37, 134, 40⟩⟩) (.name ⟨3, "one", ⟨134, 45, 134, 48⟩⟩) (.seq (.var ⟨2, "some", ⟨134, 52, 134, 56⟩⟩)) (.some (.cmp .isin (.var ⟨3, "one", ⟨134, 60, 134, 63⟩⟩) (.var ⟨1, "book", ⟨134, 67, 134, 71⟩⟩) ⟨134, 60, 134, 71⟩)) (cs [(".0", .local), ("one", .local), ("book", .free)]) [("one", 3)] ⟨134, 36, 134, 72⟩) (.lst .nil ⟨134, 76, 134, 78⟩) ⟨134, 36, 134, 78⟩) .nil) ⟨134, 7, 134, 78⟩) (.cons s_law_2_0 .nil) .nil ⟨134, 4, 135, 20⟩)
def s_law_3_0 : Sm := (.asg ⟨3, "one", ⟨137, 8, 137, 11⟩⟩ (.call 22 "_law_number" (.var ⟨0, "script", ⟨137, 26, 137, 32⟩⟩) (.cons (.bin .add (.con (.int 60) 0 ⟨137, 34, 137, 36⟩) (.bin .mul (.con (.int 5) 0 ⟨137, 39, 137, 40⟩) (.var ⟨4, "k", ⟨137, 43, 137, 44⟩⟩) ⟨137, 39, 137, 44⟩) ⟨137, 34, 137, 44⟩) .nil) ⟨137, 14, 137, 25⟩ ⟨137, 14, 137, 45⟩) ⟨137, 8, 137, 45⟩)
def s_law_3_1 : Sm := (.asg ⟨5, "more", ⟨138, 8, 138, 12⟩⟩ (.blt .tuple (.srtset true (.bin .add (.var ⟨1, "book", ⟨138, 32, 138, 36⟩⟩) (.tup (.cons (.var ⟨3, "one", ⟨138, 40, 138, 43⟩⟩) .nil) 0 ⟨138, 39, 138, 45⟩) ⟨138, 32, 138, 45⟩) ⟨138, 28, 138, 31⟩ ⟨138, 28, 138, 46⟩ ⟨138, 21, 138, 27⟩ ⟨138, 21, 138, 47⟩) .nil ⟨138, 15, 138, 20⟩ ⟨138, 15, 138, 48⟩) ⟨138, 8, 138, 48⟩)
def s_law_3_2_0 : Sm := (.ret (.con (.bl false) 0 ⟨140, 19, 140, 24⟩) ⟨140, 12, 140, 24⟩)
def s_law_3_2 : Sm := (.cond (.bool true (.cmp .notin (.var ⟨3, "one", ⟨139, 11, 139, 14⟩⟩) (.var ⟨1, "book", ⟨139, 22, 139, 26⟩⟩) ⟨139, 11, 139, 26⟩) (.cons (.cmp .ne (.cmp .isin (.var ⟨3, "one", ⟨139, 32, 139, 35⟩⟩) (.var ⟨2, "some", ⟨139, 39, 139, 43⟩⟩) ⟨139, 32, 139, 43⟩) (.call 14 "is_safe" (.var ⟨5, "more", ⟨139, 56, 139, 60⟩⟩) .nil ⟨139, 48, 139, 55⟩ ⟨139, 48, 139, 61⟩) ⟨139, 31, 139, 61⟩) .nil) ⟨139, 11, 139, 61⟩) (.cons s_law_3_2_0 .nil) .nil ⟨139, 8, 140, 24⟩)
def s_law_3 : Sm := (.loop (.name ⟨4, "k", ⟨136, 8, 136, 9⟩⟩) (.rng1 (.con (.int 12) 0 ⟨136, 19, 136, 21⟩) ⟨136, 13, 136, 18⟩ ⟨136, 13, 136, 22⟩) (.cons s_law_3_0 (.cons s_law_3_1 (.cons s_law_3_2 .nil))) ⟨136, 4, 140, 24⟩)
def s_law_4_0_0 : Sm := (.ret (.con (.bl false) 0 ⟨143, 19, 143, 24⟩) ⟨143, 12, 143, 24⟩)
def s_law_4_0 : Sm := (.cond (.nott (.call 14 "is_safe" (.blt .tuple (.blt .sorted (.bin .add (.var ⟨1, "book", ⟨142, 36, 142, 40⟩⟩) (.tup (.cons (.var ⟨3, "one", ⟨142, 44, 142, 47⟩⟩) .nil) 0 ⟨142, 43, 142, 49⟩) ⟨142, 36, 142, 49⟩) .nil ⟨142, 29, 142, 35⟩ ⟨142, 29, 142, 50⟩) .nil ⟨142, 23, 142, 28⟩ ⟨142, 23, 142, 51⟩) .nil ⟨142, 15, 142, 22⟩ ⟨142, 15, 142, 52⟩) ⟨142, 11, 142, 52⟩) (.cons s_law_4_0_0 .nil) .nil ⟨142, 8, 143, 24⟩)
def s_law_4 : Sm := (.loop (.name ⟨3, "one", ⟨141, 8, 141, 11⟩⟩) (.seq (.slc (.var ⟨2, "some", ⟨141, 15, 141, 19⟩⟩) .none (.some (.con (.int 6) 0 ⟨141, 21, 141, 22⟩)) ⟨141, 20, 141, 22⟩ ⟨141, 15, 141, 23⟩)) (.cons s_law_4_0 .nil) ⟨141, 4, 143, 24⟩)
def s_law_5 : Sm := (.asg ⟨6, "best", ⟨144, 4, 144, 8⟩⟩ (.call 18 "best_joining" (.var ⟨1, "book", ⟨144, 24, 144, 28⟩⟩) .nil ⟨144, 11, 144, 23⟩ ⟨144, 11, 144, 29⟩) ⟨144, 4, 144, 29⟩)
def s_law_6_0 : Sm := (.ret (.con (.bl false) 0 ⟨146, 15, 146, 20⟩) ⟨146, 8, 146, 20⟩)
def s_law_6 : Sm := (.cond (.cmp .ne (.isn true (.var ⟨6, "best", ⟨145, 8, 145, 12⟩⟩) 0 ⟨145, 16, 145, 20⟩ ⟨145, 8, 145, 20⟩) (.cmp .eq (.var ⟨2, "some", ⟨145, 26, 145, 30⟩⟩) (.lst .nil ⟨145, 34, 145, 36⟩) ⟨145, 26, 145, 36⟩) ⟨145, 7, 145, 37⟩) (.cons s_law_6_0 .nil) .nil ⟨145, 4, 146, 20⟩)
def s_law_7_0 : Sm := (.ret (.con (.bl false) 0 ⟨148, 15, 148, 20⟩) ⟨148, 8, 148, 20⟩)
def s_law_7 : Sm := (.cond (.bool true (.isn false (.var ⟨6, "best", ⟨147, 7, 147, 11⟩⟩) 0 ⟨147, 19, 147, 23⟩ ⟨147, 7, 147, 23⟩) (.cons (.cmp .ne (.lc (.var ⟨3, "one", ⟨147, 29, 147, 32⟩⟩) (.name ⟨3, "one", ⟨147, 37, 147, 40⟩⟩) (.seq (.var ⟨2, "some", ⟨147, 44, 147, 48⟩⟩)) (.some (.cmp .lt (.call 5 "long_of" (.var ⟨3, "one", ⟨147, 60, 147, 63⟩⟩) (.cons (.con (.int 1) 0 ⟨147, 65, 147, 66⟩) .nil) ⟨147, 52, 147, 59⟩ ⟨147, 52, 147, 67⟩) (.call 5 "long_of" (.var ⟨6, "best", ⟨147, 78, 147, 82⟩⟩) (.cons (.con (.int 1) 0 ⟨147, 84, 147, 85⟩) .nil) ⟨147, 70, 147, 77⟩ ⟨147, 70, 147, 86⟩) ⟨147, 52, 147, 86⟩)) (cs [(".0", .local), ("one", .local), ("long_of", .globalImplicit), ("best", .free)]) [("one", 3)] ⟨147, 28, 147, 87⟩) (.lst .nil ⟨147, 91, 147, 93⟩) ⟨147, 28, 147, 93⟩) .nil) ⟨147, 7, 147, 93⟩) (.cons s_law_7_0 .nil) .nil ⟨147, 4, 148, 20⟩)
def s_law_8 : Sm := (.asg ⟨7, "great", ⟨149, 4, 149, 9⟩⟩ (.call 19 "safest" (.var ⟨1, "book", ⟨149, 19, 149, 23⟩⟩) .nil ⟨149, 12, 149, 18⟩ ⟨149, 12, 149, 24⟩) ⟨149, 4, 149, 24⟩)
def s_law_9_0 : Sm := (.ret (.con (.bl false) 0 ⟨151, 15, 151, 20⟩) ⟨151, 8, 151, 20⟩)
def s_law_9 : Sm := (.cond (.bool false (.nott (.call 9 "is_book" (.var ⟨7, "great", ⟨150, 19, 150, 24⟩⟩) .nil ⟨150, 11, 150, 18⟩ ⟨150, 11, 150, 25⟩) ⟨150, 7, 150, 25⟩) (.cons (.nott (.call 14 "is_safe" (.var ⟨7, "great", ⟨150, 41, 150, 46⟩⟩) .nil ⟨150, 33, 150, 40⟩ ⟨150, 33, 150, 47⟩) ⟨150, 29, 150, 47⟩) .nil) ⟨150, 7, 150, 47⟩) (.cons s_law_9_0 .nil) .nil ⟨150, 4, 151, 20⟩)
def s_law_10_0 : Sm := (.ret (.con (.bl false) 0 ⟨153, 15, 153, 20⟩) ⟨153, 8, 153, 20⟩)
def s_law_10 : Sm := (.cond (.cmp .ne (.lc (.var ⟨3, "one", ⟨152, 8, 152, 11⟩⟩) (.name ⟨3, "one", ⟨152, 16, 152, 19⟩⟩) (.seq (.var ⟨7, "great", ⟨152, 23, 152, 28⟩⟩)) (.some (.cmp .notin (.var ⟨3, "one", ⟨152, 32, 152, 35⟩⟩) (.var ⟨1, "book", ⟨152, 43, 152, 47⟩⟩) ⟨152, 32, 152, 47⟩)) (cs [(".0", .local), ("one", .local), ("book", .free)]) [("one", 3)] ⟨152, 7, 152, 48⟩) (.lst .nil ⟨152, 52, 152, 54⟩) ⟨152, 7, 152, 54⟩) (.cons s_law_10_0 .nil) .nil ⟨152, 4, 153, 20⟩)
def s_law_11_0 : Sm := (.ret (.con (.bl false) 0 ⟨155, 15, 155, 20⟩) ⟨155, 8, 155, 20⟩)
def s_law_11 : Sm := (.cond (.bool false (.cmp .ne (.cmp .eq (.var ⟨7, "great", ⟨154, 8, 154, 13⟩⟩) (.var ⟨1, "book", ⟨154, 17, 154, 21⟩⟩) ⟨154, 8, 154, 21⟩) (.call 14 "is_safe" (.var ⟨1, "book", ⟨154, 34, 154, 38⟩⟩) .nil ⟨154, 26, 154, 33⟩ ⟨154, 26, 154, 39⟩) ⟨154, 7, 154, 39⟩) (.cons (.cmp .ne (.call 19 "safest" (.var ⟨7, "great", ⟨154, 50, 154, 55⟩⟩) .nil ⟨154, 43, 154, 49⟩ ⟨154, 43, 154, 56⟩) (.var ⟨7, "great", ⟨154, 60, 154, 65⟩⟩) ⟨154, 43, 154, 65⟩) .nil) ⟨154, 7, 154, 65⟩) (.cons s_law_11_0 .nil) .nil ⟨154, 4, 155, 20⟩)
def s_law_12 : Sm := (.asg ⟨8, "join", ⟨156, 4, 156, 8⟩⟩ (.call 17 "may_join" (.var ⟨7, "great", ⟨156, 20, 156, 25⟩⟩) .nil ⟨156, 11, 156, 19⟩ ⟨156, 11, 156, 26⟩) ⟨156, 4, 156, 26⟩)
def s_law_13 : Sm := (.ret (.cmp .eq (.lc (.var ⟨3, "one", ⟨157, 12, 157, 15⟩⟩) (.name ⟨3, "one", ⟨157, 20, 157, 23⟩⟩) (.seq (.var ⟨1, "book", ⟨157, 27, 157, 31⟩⟩)) (.some (.cmp .isin (.var ⟨3, "one", ⟨157, 35, 157, 38⟩⟩) (.var ⟨8, "join", ⟨157, 42, 157, 46⟩⟩) ⟨157, 35, 157, 46⟩)) (cs [(".0", .local), ("one", .local), ("join", .free)]) [("one", 3)] ⟨157, 11, 157, 47⟩) (.lst .nil ⟨157, 51, 157, 53⟩) ⟨157, 11, 157, 53⟩) ⟨157, 4, 157, 53⟩)
def b_law : Sms := (.cons s_law_0 (.cons s_law_1 (.cons s_law_2 (.cons s_law_3 (.cons s_law_4 (.cons s_law_5 (.cons s_law_6 (.cons s_law_7 (.cons s_law_8 (.cons s_law_9 (.cons s_law_10 (.cons s_law_11 (.cons s_law_12 (.cons s_law_13 .nil))))))))))))))
def F_law : Fn := ⟨"law", ["script"], ["script", "book", "some", "one", "k", "more", "best", "great", "join"], b_law⟩
def T : List Fn := [F_is_count, F_is_number, F_need_number, F_need_rounds, F_bits_of, F_long_of, F_order, F_is_round, F_need_round, F_is_book, F_need_book, F_cut_ahead, F_late, F_mistaken, F_is_safe, F_all_numbers, F_are_safe, F_may_join, F_best_joining, F_safest, F__law_cell, F__law_drawn, F__law_number, F__law_book, F_law]
def CD : List (Str × D) := [("MOST_NUMBERS", (.int 8)), ("MOST_DIGITS", (.int 3)), ("MOST_DIGIT", (.int 6)), ("MOST_ROUNDS", (.int 4)), ("DIGIT_REST", (.int 3)), ("ROUND_REST", (.int 7)), ("MOST_HEARD", (.int 99))]
def CN : List Str := ["MOST_NUMBERS", "MOST_DIGITS", "MOST_DIGIT", "MOST_ROUNDS", "DIGIT_REST", "ROUND_REST", "MOST_HEARD"]
def C : List D := [(.int 8), (.int 3), (.int 6), (.int 4), (.int 3), (.int 7), (.int 99)]
theorem cg_0 : C[0]? = some (.int 8) := by kernel_rfl
theorem cg_1 : C[1]? = some (.int 3) := by kernel_rfl
theorem cg_2 : C[2]? = some (.int 6) := by kernel_rfl
theorem cg_3 : C[3]? = some (.int 4) := by kernel_rfl
theorem cg_4 : C[4]? = some (.int 3) := by kernel_rfl
theorem cg_5 : C[5]? = some (.int 7) := by kernel_rfl
theorem cg_6 : C[6]? = some (.int 99) := by kernel_rfl
def EN : List Str := ["NoBook", "NoNumber", "NoCount"]
theorem cl_is_count (m : Nat) (x0 : D) (x1 : D) (x2 : D) : callF C T (m + 1) 0 [x0, x1, x2] = outR (exes C (callF C T m) b_is_count [some x0, some x1, some x2]) := by kernel_rfl
theorem cl_is_number (m : Nat) (x0 : D) : callF C T (m + 1) 1 [x0] = outR (exes C (callF C T m) b_is_number [some x0, none]) := by kernel_rfl
theorem cl_need_number (m : Nat) (x0 : D) : callF C T (m + 1) 2 [x0] = outR (exes C (callF C T m) b_need_number [some x0]) := by kernel_rfl
theorem cl_need_rounds (m : Nat) (x0 : D) : callF C T (m + 1) 3 [x0] = outR (exes C (callF C T m) b_need_rounds [some x0]) := by kernel_rfl
theorem cl_bits_of (m : Nat) (x0 : D) : callF C T (m + 1) 4 [x0] = outR (exes C (callF C T m) b_bits_of [some x0, none, none]) := by kernel_rfl
theorem cl_long_of (m : Nat) (x0 : D) (x1 : D) : callF C T (m + 1) 5 [x0, x1] = outR (exes C (callF C T m) b_long_of [some x0, some x1]) := by kernel_rfl
theorem cl_order (m : Nat) (x0 : D) : callF C T (m + 1) 6 [x0] = outR (exes C (callF C T m) b_order [some x0, none, none, none]) := by kernel_rfl
theorem cl_is_round (m : Nat) (x0 : D) : callF C T (m + 1) 7 [x0] = outR (exes C (callF C T m) b_is_round [some x0, none]) := by kernel_rfl
theorem cl_need_round (m : Nat) (x0 : D) : callF C T (m + 1) 8 [x0] = outR (exes C (callF C T m) b_need_round [some x0]) := by kernel_rfl
theorem cl_is_book (m : Nat) (x0 : D) : callF C T (m + 1) 9 [x0] = outR (exes C (callF C T m) b_is_book [some x0, none, none]) := by kernel_rfl
theorem cl_need_book (m : Nat) (x0 : D) : callF C T (m + 1) 10 [x0] = outR (exes C (callF C T m) b_need_book [some x0]) := by kernel_rfl
theorem cl_cut_ahead (m : Nat) (x0 : D) : callF C T (m + 1) 11 [x0] = outR (exes C (callF C T m) b_cut_ahead [some x0, none, none, none, none]) := by kernel_rfl
theorem cl_late (m : Nat) (x0 : D) (x1 : D) : callF C T (m + 1) 12 [x0, x1] = outR (exes C (callF C T m) b_late [some x0, some x1]) := by kernel_rfl
theorem cl_mistaken (m : Nat) (x0 : D) : callF C T (m + 1) 13 [x0] = outR (exes C (callF C T m) b_mistaken [some x0, none, none, none]) := by kernel_rfl
theorem cl_is_safe (m : Nat) (x0 : D) : callF C T (m + 1) 14 [x0] = outR (exes C (callF C T m) b_is_safe [some x0]) := by kernel_rfl
theorem cl_all_numbers (m : Nat) : callF C T (m + 1) 15 [] = outR (exes C (callF C T m) b_all_numbers [none, none, none, none, none, none]) := by kernel_rfl
theorem cl_are_safe (m : Nat) (x0 : D) : callF C T (m + 1) 16 [x0] = outR (exes C (callF C T m) b_are_safe [some x0, none, none, none]) := by kernel_rfl
theorem cl_may_join (m : Nat) (x0 : D) : callF C T (m + 1) 17 [x0] = outR (exes C (callF C T m) b_may_join [some x0, none]) := by kernel_rfl
theorem cl_best_joining (m : Nat) (x0 : D) : callF C T (m + 1) 18 [x0] = outR (exes C (callF C T m) b_best_joining [some x0, none]) := by kernel_rfl
theorem cl_safest (m : Nat) (x0 : D) : callF C T (m + 1) 19 [x0] = outR (exes C (callF C T m) b_safest [some x0, none, none, none, none]) := by kernel_rfl
theorem cl__law_cell (m : Nat) (x0 : D) (x1 : D) : callF C T (m + 1) 20 [x0, x1] = outR (exes C (callF C T m) b__law_cell [some x0, some x1]) := by kernel_rfl
theorem cl__law_drawn (m : Nat) (x0 : D) (x1 : D) (x2 : D) : callF C T (m + 1) 21 [x0, x1, x2] = outR (exes C (callF C T m) b__law_drawn [some x0, some x1, some x2, none]) := by kernel_rfl
theorem cl__law_number (m : Nat) (x0 : D) (x1 : D) : callF C T (m + 1) 22 [x0, x1] = outR (exes C (callF C T m) b__law_number [some x0, some x1, none, none]) := by kernel_rfl
theorem cl__law_book (m : Nat) (x0 : D) (x1 : D) (x2 : D) : callF C T (m + 1) 23 [x0, x1, x2] = outR (exes C (callF C T m) b__law_book [some x0, some x1, some x2, none, none]) := by kernel_rfl
theorem cl_law (m : Nat) (x0 : D) : callF C T (m + 1) 24 [x0] = outR (exes C (callF C T m) b_law [some x0, none, none, none, none, none, none, none, none]) := by kernel_rfl
def DN : List Str := ["is_count", "is_number", "need_number", "need_rounds", "bits_of", "long_of", "order", "is_round", "need_round", "is_book", "need_book", "cut_ahead", "late", "mistaken", "is_safe", "all_numbers", "are_safe", "may_join", "best_joining", "safest", "_law_cell", "_law_drawn", "_law_number", "_law_book", "law"]
def exB (K : PySem.W.Frag) : Bool := RX.all (refB K EN)
def d_is_count : He.DefD := ⟨("is_count", none), "is_count", "is_count", defArgs (top 11), defBody (top 11), defScope (top 11), [], []⟩
def d_is_number : He.DefD := ⟨("is_number", none), "is_number", "is_number", defArgs (top 12), defBody (top 12), defScope (top 12), [], []⟩
def d_need_number : He.DefD := ⟨("need_number", none), "need_number", "need_number", defArgs (top 13), defBody (top 13), defScope (top 13), [], []⟩
def d_need_rounds : He.DefD := ⟨("need_rounds", none), "need_rounds", "need_rounds", defArgs (top 14), defBody (top 14), defScope (top 14), [], []⟩
def d_bits_of : He.DefD := ⟨("bits_of", none), "bits_of", "bits_of", defArgs (top 15), defBody (top 15), defScope (top 15), [], []⟩
def d_long_of : He.DefD := ⟨("long_of", none), "long_of", "long_of", defArgs (top 16), defBody (top 16), defScope (top 16), [], []⟩
def d_order : He.DefD := ⟨("order", none), "order", "order", defArgs (top 17), defBody (top 17), defScope (top 17), [], []⟩
def d_is_round : He.DefD := ⟨("is_round", none), "is_round", "is_round", defArgs (top 21), defBody (top 21), defScope (top 21), [], []⟩
def d_need_round : He.DefD := ⟨("need_round", none), "need_round", "need_round", defArgs (top 22), defBody (top 22), defScope (top 22), [], []⟩
def d_is_book : He.DefD := ⟨("is_book", none), "is_book", "is_book", defArgs (top 23), defBody (top 23), defScope (top 23), [], []⟩
def d_need_book : He.DefD := ⟨("need_book", none), "need_book", "need_book", defArgs (top 24), defBody (top 24), defScope (top 24), [], []⟩
def d_cut_ahead : He.DefD := ⟨("cut_ahead", none), "cut_ahead", "cut_ahead", defArgs (top 25), defBody (top 25), defScope (top 25), [], []⟩
def d_late : He.DefD := ⟨("late", none), "late", "late", defArgs (top 26), defBody (top 26), defScope (top 26), [], []⟩
def d_mistaken : He.DefD := ⟨("mistaken", none), "mistaken", "mistaken", defArgs (top 27), defBody (top 27), defScope (top 27), [], []⟩
def d_is_safe : He.DefD := ⟨("is_safe", none), "is_safe", "is_safe", defArgs (top 28), defBody (top 28), defScope (top 28), [], []⟩
def d_all_numbers : He.DefD := ⟨("all_numbers", none), "all_numbers", "all_numbers", defArgs (top 30), defBody (top 30), defScope (top 30), [], []⟩
def d_are_safe : He.DefD := ⟨("are_safe", none), "are_safe", "are_safe", defArgs (top 31), defBody (top 31), defScope (top 31), [], []⟩
def d_may_join : He.DefD := ⟨("may_join", none), "may_join", "may_join", defArgs (top 32), defBody (top 32), defScope (top 32), [], []⟩
def d_best_joining : He.DefD := ⟨("best_joining", none), "best_joining", "best_joining", defArgs (top 33), defBody (top 33), defScope (top 33), [], []⟩
def d_safest : He.DefD := ⟨("safest", none), "safest", "safest", defArgs (top 34), defBody (top 34), defScope (top 34), [], []⟩
def d__law_cell : He.DefD := ⟨("_law_cell", none), "_law_cell", "_law_cell", defArgs (top 36), defBody (top 36), defScope (top 36), [], []⟩
def d__law_drawn : He.DefD := ⟨("_law_drawn", none), "_law_drawn", "_law_drawn", defArgs (top 37), defBody (top 37), defScope (top 37), [], []⟩
def d__law_number : He.DefD := ⟨("_law_number", none), "_law_number", "_law_number", defArgs (top 38), defBody (top 38), defScope (top 38), [], []⟩
def d__law_book : He.DefD := ⟨("_law_book", none), "_law_book", "_law_book", defArgs (top 39), defBody (top 39), defScope (top 39), [], []⟩
def d_law : He.DefD := ⟨("law", none), "law", "law", defArgs (top 40), defBody (top 40), defScope (top 40), [], []⟩
def fn : List He.DefD := [d_is_count, d_is_number, d_need_number, d_need_rounds, d_bits_of, d_long_of, d_order, d_is_round, d_need_round, d_is_book, d_need_book, d_cut_ahead, d_late, d_mistaken, d_is_safe, d_all_numbers, d_are_safe, d_may_join, d_best_joining, d_safest, d__law_cell, d__law_drawn, d__law_number, d__law_book, d_law]
def fa : List He.Fa := [.free "len", .free "list", .free "tuple", .free "sorted", .free "int", .free "sum", .free "all", .free "max", .free "min", .free "isinstance", .free "bool", .free "str", .free "set", .free "range", .free "enumerate", .free "zip", .glo "is_count", .glo "is_number", .glo "need_number", .glo "need_rounds", .glo "bits_of", .glo "long_of", .glo "order", .glo "is_round", .glo "need_round", .glo "is_book", .glo "need_book", .glo "cut_ahead", .glo "late", .glo "mistaken", .glo "is_safe", .glo "all_numbers", .glo "are_safe", .glo "may_join", .glo "best_joining", .glo "safest", .glo "_law_cell", .glo "_law_drawn", .glo "_law_number", .glo "_law_book", .glo "law", .int "MOST_NUMBERS" 8, .int "MOST_DIGITS" 3, .int "MOST_DIGIT" 6, .int "MOST_ROUNDS" 4, .int "DIGIT_REST" 3, .int "ROUND_REST" 7, .int "MOST_HEARD" 99, .glo "NoBook", .glo "NoNumber", .glo "NoCount", .exc "NoBook", .exc "NoNumber", .exc "NoCount"]
theorem fa_eq : fa = faOf DN CD EN := by kernel_rfl
abbrev TN : List (Str × Nat) := T.map fun F => (F.nm, F.ps.length)
theorem ok_is_count {K : PySem.W.Frag} {mg : Str → Option Value} {h : Heap} (X : K.In h) (G : h.Ns mainGlobals mg) (c : He.SaysD fa fn K) : FnAt K mg CN TN EN RN F_is_count := by
  refine fnAt_of (params := defArgs (top 11)) (body := defBody (top 11)) (scope := defScope (top 11)) X G c fa_eq (List.mem_of_getElem? (i := 0) rfl) (List.mem_of_getElem? (i := 0) rfl) (by kernel_rfl) (fun _ _ _ _ _ _ us hl => match us, hl with | [_, _, _], _ => rfl)
    ⟨by kernel_rfl, by kernel_rfl, by kernel_rfl, by decide +kernel, by kernel_rfl, by decide +kernel, by decide +kernel⟩ (by kernel_rfl) (by kernel_rfl)
theorem ok_is_number {K : PySem.W.Frag} {mg : Str → Option Value} {h : Heap} (X : K.In h) (G : h.Ns mainGlobals mg) (c : He.SaysD fa fn K) : FnAt K mg CN TN EN RN F_is_number := by
  refine fnAt_of (params := defArgs (top 12)) (body := defBody (top 12)) (scope := defScope (top 12)) X G c fa_eq (List.mem_of_getElem? (i := 1) rfl) (List.mem_of_getElem? (i := 1) rfl) (by kernel_rfl) (fun _ _ _ _ _ _ us hl => match us, hl with | [_], _ => rfl)
    ⟨by kernel_rfl, by kernel_rfl, by kernel_rfl, by decide +kernel, by kernel_rfl, by decide +kernel, by decide +kernel⟩ (by kernel_rfl) (by kernel_rfl)
theorem ok_need_number {K : PySem.W.Frag} {mg : Str → Option Value} {h : Heap} (X : K.In h) (G : h.Ns mainGlobals mg) (c : He.SaysD fa fn K) : FnAt K mg CN TN EN RN F_need_number := by
  refine fnAt_of (params := defArgs (top 13)) (body := defBody (top 13)) (scope := defScope (top 13)) X G c fa_eq (List.mem_of_getElem? (i := 2) rfl) (List.mem_of_getElem? (i := 2) rfl) (by kernel_rfl) (fun _ _ _ _ _ _ us hl => match us, hl with | [_], _ => rfl)
    ⟨by kernel_rfl, by kernel_rfl, by kernel_rfl, by decide +kernel, by kernel_rfl, by decide +kernel, by decide +kernel⟩ (by kernel_rfl) (by kernel_rfl)
theorem ok_need_rounds {K : PySem.W.Frag} {mg : Str → Option Value} {h : Heap} (X : K.In h) (G : h.Ns mainGlobals mg) (c : He.SaysD fa fn K) : FnAt K mg CN TN EN RN F_need_rounds := by
  refine fnAt_of (params := defArgs (top 14)) (body := defBody (top 14)) (scope := defScope (top 14)) X G c fa_eq (List.mem_of_getElem? (i := 3) rfl) (List.mem_of_getElem? (i := 3) rfl) (by kernel_rfl) (fun _ _ _ _ _ _ us hl => match us, hl with | [_], _ => rfl)
    ⟨by kernel_rfl, by kernel_rfl, by kernel_rfl, by decide +kernel, by kernel_rfl, by decide +kernel, by decide +kernel⟩ (by kernel_rfl) (by kernel_rfl)
theorem ok_bits_of {K : PySem.W.Frag} {mg : Str → Option Value} {h : Heap} (X : K.In h) (G : h.Ns mainGlobals mg) (c : He.SaysD fa fn K) : FnAt K mg CN TN EN RN F_bits_of := by
  refine fnAt_of (params := defArgs (top 15)) (body := defBody (top 15)) (scope := defScope (top 15)) X G c fa_eq (List.mem_of_getElem? (i := 4) rfl) (List.mem_of_getElem? (i := 4) rfl) (by kernel_rfl) (fun _ _ _ _ _ _ us hl => match us, hl with | [_], _ => rfl)
    ⟨by kernel_rfl, by kernel_rfl, by kernel_rfl, by decide +kernel, by kernel_rfl, by decide +kernel, by decide +kernel⟩ (by kernel_rfl) (by kernel_rfl)
theorem ok_long_of {K : PySem.W.Frag} {mg : Str → Option Value} {h : Heap} (X : K.In h) (G : h.Ns mainGlobals mg) (c : He.SaysD fa fn K) : FnAt K mg CN TN EN RN F_long_of := by
  refine fnAt_of (params := defArgs (top 16)) (body := defBody (top 16)) (scope := defScope (top 16)) X G c fa_eq (List.mem_of_getElem? (i := 5) rfl) (List.mem_of_getElem? (i := 5) rfl) (by kernel_rfl) (fun _ _ _ _ _ _ us hl => match us, hl with | [_, _], _ => rfl)
    ⟨by kernel_rfl, by kernel_rfl, by kernel_rfl, by decide +kernel, by kernel_rfl, by decide +kernel, by decide +kernel⟩ (by kernel_rfl) (by kernel_rfl)
theorem ok_order {K : PySem.W.Frag} {mg : Str → Option Value} {h : Heap} (X : K.In h) (G : h.Ns mainGlobals mg) (c : He.SaysD fa fn K) : FnAt K mg CN TN EN RN F_order := by
  refine fnAt_of (params := defArgs (top 17)) (body := defBody (top 17)) (scope := defScope (top 17)) X G c fa_eq (List.mem_of_getElem? (i := 6) rfl) (List.mem_of_getElem? (i := 6) rfl) (by kernel_rfl) (fun _ _ _ _ _ _ us hl => match us, hl with | [_], _ => rfl)
    ⟨by kernel_rfl, by kernel_rfl, by kernel_rfl, by decide +kernel, by kernel_rfl, by decide +kernel, by decide +kernel⟩ (by kernel_rfl) (by kernel_rfl)
theorem ok_is_round {K : PySem.W.Frag} {mg : Str → Option Value} {h : Heap} (X : K.In h) (G : h.Ns mainGlobals mg) (c : He.SaysD fa fn K) : FnAt K mg CN TN EN RN F_is_round := by
  refine fnAt_of (params := defArgs (top 21)) (body := defBody (top 21)) (scope := defScope (top 21)) X G c fa_eq (List.mem_of_getElem? (i := 7) rfl) (List.mem_of_getElem? (i := 7) rfl) (by kernel_rfl) (fun _ _ _ _ _ _ us hl => match us, hl with | [_], _ => rfl)
    ⟨by kernel_rfl, by kernel_rfl, by kernel_rfl, by decide +kernel, by kernel_rfl, by decide +kernel, by decide +kernel⟩ (by kernel_rfl) (by kernel_rfl)
theorem ok_need_round {K : PySem.W.Frag} {mg : Str → Option Value} {h : Heap} (X : K.In h) (G : h.Ns mainGlobals mg) (c : He.SaysD fa fn K) : FnAt K mg CN TN EN RN F_need_round := by
  refine fnAt_of (params := defArgs (top 22)) (body := defBody (top 22)) (scope := defScope (top 22)) X G c fa_eq (List.mem_of_getElem? (i := 8) rfl) (List.mem_of_getElem? (i := 8) rfl) (by kernel_rfl) (fun _ _ _ _ _ _ us hl => match us, hl with | [_], _ => rfl)
    ⟨by kernel_rfl, by kernel_rfl, by kernel_rfl, by decide +kernel, by kernel_rfl, by decide +kernel, by decide +kernel⟩ (by kernel_rfl) (by kernel_rfl)
theorem ok_is_book {K : PySem.W.Frag} {mg : Str → Option Value} {h : Heap} (X : K.In h) (G : h.Ns mainGlobals mg) (c : He.SaysD fa fn K) : FnAt K mg CN TN EN RN F_is_book := by
  refine fnAt_of (params := defArgs (top 23)) (body := defBody (top 23)) (scope := defScope (top 23)) X G c fa_eq (List.mem_of_getElem? (i := 9) rfl) (List.mem_of_getElem? (i := 9) rfl) (by kernel_rfl) (fun _ _ _ _ _ _ us hl => match us, hl with | [_], _ => rfl)
    ⟨by kernel_rfl, by kernel_rfl, by kernel_rfl, by decide +kernel, by kernel_rfl, by decide +kernel, by decide +kernel⟩ (by kernel_rfl) (by kernel_rfl)
theorem ok_need_book {K : PySem.W.Frag} {mg : Str → Option Value} {h : Heap} (X : K.In h) (G : h.Ns mainGlobals mg) (c : He.SaysD fa fn K) : FnAt K mg CN TN EN RN F_need_book := by
  refine fnAt_of (params := defArgs (top 24)) (body := defBody (top 24)) (scope := defScope (top 24)) X G c fa_eq (List.mem_of_getElem? (i := 10) rfl) (List.mem_of_getElem? (i := 10) rfl) (by kernel_rfl) (fun _ _ _ _ _ _ us hl => match us, hl with | [_], _ => rfl)
    ⟨by kernel_rfl, by kernel_rfl, by kernel_rfl, by decide +kernel, by kernel_rfl, by decide +kernel, by decide +kernel⟩ (by kernel_rfl) (by kernel_rfl)
theorem ok_cut_ahead {K : PySem.W.Frag} {mg : Str → Option Value} {h : Heap} (X : K.In h) (G : h.Ns mainGlobals mg) (c : He.SaysD fa fn K) : FnAt K mg CN TN EN RN F_cut_ahead := by
  refine fnAt_of (params := defArgs (top 25)) (body := defBody (top 25)) (scope := defScope (top 25)) X G c fa_eq (List.mem_of_getElem? (i := 11) rfl) (List.mem_of_getElem? (i := 11) rfl) (by kernel_rfl) (fun _ _ _ _ _ _ us hl => match us, hl with | [_], _ => rfl)
    ⟨by kernel_rfl, by kernel_rfl, by kernel_rfl, by decide +kernel, by kernel_rfl, by decide +kernel, by decide +kernel⟩ (by kernel_rfl) (by kernel_rfl)
theorem ok_late {K : PySem.W.Frag} {mg : Str → Option Value} {h : Heap} (X : K.In h) (G : h.Ns mainGlobals mg) (c : He.SaysD fa fn K) : FnAt K mg CN TN EN RN F_late := by
  refine fnAt_of (params := defArgs (top 26)) (body := defBody (top 26)) (scope := defScope (top 26)) X G c fa_eq (List.mem_of_getElem? (i := 12) rfl) (List.mem_of_getElem? (i := 12) rfl) (by kernel_rfl) (fun _ _ _ _ _ _ us hl => match us, hl with | [_, _], _ => rfl)
    ⟨by kernel_rfl, by kernel_rfl, by kernel_rfl, by decide +kernel, by kernel_rfl, by decide +kernel, by decide +kernel⟩ (by kernel_rfl) (by kernel_rfl)
theorem ok_mistaken {K : PySem.W.Frag} {mg : Str → Option Value} {h : Heap} (X : K.In h) (G : h.Ns mainGlobals mg) (c : He.SaysD fa fn K) : FnAt K mg CN TN EN RN F_mistaken := by
  refine fnAt_of (params := defArgs (top 27)) (body := defBody (top 27)) (scope := defScope (top 27)) X G c fa_eq (List.mem_of_getElem? (i := 13) rfl) (List.mem_of_getElem? (i := 13) rfl) (by kernel_rfl) (fun _ _ _ _ _ _ us hl => match us, hl with | [_], _ => rfl)
    ⟨by kernel_rfl, by kernel_rfl, by kernel_rfl, by decide +kernel, by kernel_rfl, by decide +kernel, by decide +kernel⟩ (by kernel_rfl) (by kernel_rfl)
theorem ok_is_safe {K : PySem.W.Frag} {mg : Str → Option Value} {h : Heap} (X : K.In h) (G : h.Ns mainGlobals mg) (c : He.SaysD fa fn K) : FnAt K mg CN TN EN RN F_is_safe := by
  refine fnAt_of (params := defArgs (top 28)) (body := defBody (top 28)) (scope := defScope (top 28)) X G c fa_eq (List.mem_of_getElem? (i := 14) rfl) (List.mem_of_getElem? (i := 14) rfl) (by kernel_rfl) (fun _ _ _ _ _ _ us hl => match us, hl with | [_], _ => rfl)
    ⟨by kernel_rfl, by kernel_rfl, by kernel_rfl, by decide +kernel, by kernel_rfl, by decide +kernel, by decide +kernel⟩ (by kernel_rfl) (by kernel_rfl)
theorem ok_all_numbers {K : PySem.W.Frag} {mg : Str → Option Value} {h : Heap} (X : K.In h) (G : h.Ns mainGlobals mg) (c : He.SaysD fa fn K) : FnAt K mg CN TN EN RN F_all_numbers := by
  refine fnAt_of (params := defArgs (top 30)) (body := defBody (top 30)) (scope := defScope (top 30)) X G c fa_eq (List.mem_of_getElem? (i := 15) rfl) (List.mem_of_getElem? (i := 15) rfl) (by kernel_rfl) (fun _ _ _ _ _ _ us hl => match us, hl with | [], _ => rfl)
    ⟨by kernel_rfl, by kernel_rfl, by kernel_rfl, by decide +kernel, by kernel_rfl, by decide +kernel, by decide +kernel⟩ (by kernel_rfl) (by kernel_rfl)
theorem ok_are_safe {K : PySem.W.Frag} {mg : Str → Option Value} {h : Heap} (X : K.In h) (G : h.Ns mainGlobals mg) (c : He.SaysD fa fn K) : FnAt K mg CN TN EN RN F_are_safe := by
  refine fnAt_of (params := defArgs (top 31)) (body := defBody (top 31)) (scope := defScope (top 31)) X G c fa_eq (List.mem_of_getElem? (i := 16) rfl) (List.mem_of_getElem? (i := 16) rfl) (by kernel_rfl) (fun _ _ _ _ _ _ us hl => match us, hl with | [_], _ => rfl)
    ⟨by kernel_rfl, by kernel_rfl, by kernel_rfl, by decide +kernel, by kernel_rfl, by decide +kernel, by decide +kernel⟩ (by kernel_rfl) (by kernel_rfl)
theorem ok_may_join {K : PySem.W.Frag} {mg : Str → Option Value} {h : Heap} (X : K.In h) (G : h.Ns mainGlobals mg) (c : He.SaysD fa fn K) : FnAt K mg CN TN EN RN F_may_join := by
  refine fnAt_of (params := defArgs (top 32)) (body := defBody (top 32)) (scope := defScope (top 32)) X G c fa_eq (List.mem_of_getElem? (i := 17) rfl) (List.mem_of_getElem? (i := 17) rfl) (by kernel_rfl) (fun _ _ _ _ _ _ us hl => match us, hl with | [_], _ => rfl)
    ⟨by kernel_rfl, by kernel_rfl, by kernel_rfl, by decide +kernel, by kernel_rfl, by decide +kernel, by decide +kernel⟩ (by kernel_rfl) (by kernel_rfl)
theorem ok_best_joining {K : PySem.W.Frag} {mg : Str → Option Value} {h : Heap} (X : K.In h) (G : h.Ns mainGlobals mg) (c : He.SaysD fa fn K) : FnAt K mg CN TN EN RN F_best_joining := by
  refine fnAt_of (params := defArgs (top 33)) (body := defBody (top 33)) (scope := defScope (top 33)) X G c fa_eq (List.mem_of_getElem? (i := 18) rfl) (List.mem_of_getElem? (i := 18) rfl) (by kernel_rfl) (fun _ _ _ _ _ _ us hl => match us, hl with | [_], _ => rfl)
    ⟨by kernel_rfl, by kernel_rfl, by kernel_rfl, by decide +kernel, by kernel_rfl, by decide +kernel, by decide +kernel⟩ (by kernel_rfl) (by kernel_rfl)
theorem ok_safest {K : PySem.W.Frag} {mg : Str → Option Value} {h : Heap} (X : K.In h) (G : h.Ns mainGlobals mg) (c : He.SaysD fa fn K) : FnAt K mg CN TN EN RN F_safest := by
  refine fnAt_of (params := defArgs (top 34)) (body := defBody (top 34)) (scope := defScope (top 34)) X G c fa_eq (List.mem_of_getElem? (i := 19) rfl) (List.mem_of_getElem? (i := 19) rfl) (by kernel_rfl) (fun _ _ _ _ _ _ us hl => match us, hl with | [_], _ => rfl)
    ⟨by kernel_rfl, by kernel_rfl, by kernel_rfl, by decide +kernel, by kernel_rfl, by decide +kernel, by decide +kernel⟩ (by kernel_rfl) (by kernel_rfl)
theorem ok__law_cell {K : PySem.W.Frag} {mg : Str → Option Value} {h : Heap} (X : K.In h) (G : h.Ns mainGlobals mg) (c : He.SaysD fa fn K) : FnAt K mg CN TN EN RN F__law_cell := by
  refine fnAt_of (params := defArgs (top 36)) (body := defBody (top 36)) (scope := defScope (top 36)) X G c fa_eq (List.mem_of_getElem? (i := 20) rfl) (List.mem_of_getElem? (i := 20) rfl) (by kernel_rfl) (fun _ _ _ _ _ _ us hl => match us, hl with | [_, _], _ => rfl)
    ⟨by kernel_rfl, by kernel_rfl, by kernel_rfl, by decide +kernel, by kernel_rfl, by decide +kernel, by decide +kernel⟩ (by kernel_rfl) (by kernel_rfl)
theorem ok__law_drawn {K : PySem.W.Frag} {mg : Str → Option Value} {h : Heap} (X : K.In h) (G : h.Ns mainGlobals mg) (c : He.SaysD fa fn K) : FnAt K mg CN TN EN RN F__law_drawn := by
  refine fnAt_of (params := defArgs (top 37)) (body := defBody (top 37)) (scope := defScope (top 37)) X G c fa_eq (List.mem_of_getElem? (i := 21) rfl) (List.mem_of_getElem? (i := 21) rfl) (by kernel_rfl) (fun _ _ _ _ _ _ us hl => match us, hl with | [_, _, _], _ => rfl)
    ⟨by kernel_rfl, by kernel_rfl, by kernel_rfl, by decide +kernel, by kernel_rfl, by decide +kernel, by decide +kernel⟩ (by kernel_rfl) (by kernel_rfl)
theorem ok__law_number {K : PySem.W.Frag} {mg : Str → Option Value} {h : Heap} (X : K.In h) (G : h.Ns mainGlobals mg) (c : He.SaysD fa fn K) : FnAt K mg CN TN EN RN F__law_number := by
  refine fnAt_of (params := defArgs (top 38)) (body := defBody (top 38)) (scope := defScope (top 38)) X G c fa_eq (List.mem_of_getElem? (i := 22) rfl) (List.mem_of_getElem? (i := 22) rfl) (by kernel_rfl) (fun _ _ _ _ _ _ us hl => match us, hl with | [_, _], _ => rfl)
    ⟨by kernel_rfl, by kernel_rfl, by kernel_rfl, by decide +kernel, by kernel_rfl, by decide +kernel, by decide +kernel⟩ (by kernel_rfl) (by kernel_rfl)
theorem ok__law_book {K : PySem.W.Frag} {mg : Str → Option Value} {h : Heap} (X : K.In h) (G : h.Ns mainGlobals mg) (c : He.SaysD fa fn K) : FnAt K mg CN TN EN RN F__law_book := by
  refine fnAt_of (params := defArgs (top 39)) (body := defBody (top 39)) (scope := defScope (top 39)) X G c fa_eq (List.mem_of_getElem? (i := 23) rfl) (List.mem_of_getElem? (i := 23) rfl) (by kernel_rfl) (fun _ _ _ _ _ _ us hl => match us, hl with | [_, _, _], _ => rfl)
    ⟨by kernel_rfl, by kernel_rfl, by kernel_rfl, by decide +kernel, by kernel_rfl, by decide +kernel, by decide +kernel⟩ (by kernel_rfl) (by kernel_rfl)
theorem ok_law {K : PySem.W.Frag} {mg : Str → Option Value} {h : Heap} (X : K.In h) (G : h.Ns mainGlobals mg) (c : He.SaysD fa fn K) : FnAt K mg CN TN EN RN F_law := by
  refine fnAt_of (params := defArgs (top 40)) (body := defBody (top 40)) (scope := defScope (top 40)) X G c fa_eq (List.mem_of_getElem? (i := 24) rfl) (List.mem_of_getElem? (i := 24) rfl) (by kernel_rfl) (fun _ _ _ _ _ _ us hl => match us, hl with | [_], _ => rfl)
    ⟨by kernel_rfl, by kernel_rfl, by kernel_rfl, by decide +kernel, by kernel_rfl, by decide +kernel, by decide +kernel⟩ (by kernel_rfl) (by kernel_rfl)
theorem oks {K : PySem.W.Frag} {mg : Str → Option Value} {h : Heap} (X : K.In h) (G : h.Ns mainGlobals mg) (c : He.SaysD fa fn K) : ∀ (n : Nat) (F : Fn), T[n]? = some F → FnAt K mg CN TN EN RN F
  | 0, _, rfl => ok_is_count X G c
  | 1, _, rfl => ok_is_number X G c
  | 2, _, rfl => ok_need_number X G c
  | 3, _, rfl => ok_need_rounds X G c
  | 4, _, rfl => ok_bits_of X G c
  | 5, _, rfl => ok_long_of X G c
  | 6, _, rfl => ok_order X G c
  | 7, _, rfl => ok_is_round X G c
  | 8, _, rfl => ok_need_round X G c
  | 9, _, rfl => ok_is_book X G c
  | 10, _, rfl => ok_need_book X G c
  | 11, _, rfl => ok_cut_ahead X G c
  | 12, _, rfl => ok_late X G c
  | 13, _, rfl => ok_mistaken X G c
  | 14, _, rfl => ok_is_safe X G c
  | 15, _, rfl => ok_all_numbers X G c
  | 16, _, rfl => ok_are_safe X G c
  | 17, _, rfl => ok_may_join X G c
  | 18, _, rfl => ok_best_joining X G c
  | 19, _, rfl => ok_safest X G c
  | 20, _, rfl => ok__law_cell X G c
  | 21, _, rfl => ok__law_drawn X G c
  | 22, _, rfl => ok__law_number X G c
  | 23, _, rfl => ok__law_book X G c
  | 24, _, rfl => ok_law X G c
theorem roks {P : Program} {w : World} {base : Heap} {K : PySem.W.Frag} {mg : Str → Option Value} {h : Heap} (X : K.In h) (G : h.Ns mainGlobals mg) (c : He.SaysD fa fn K) (ce : exB K = true) : ∀ r ∈ RN, RefAt P w K mg base EN (ecOf K EN) r := by
  intro r hr
  cases hr
abbrev R : PySem.W.OpenRow := PySem.W.OpenLaw.row PySem.Challenge.rw_boxtaps_k71_whole_joining
abbrev hk : PySem.W.Hook := hookE 4 fa fn exB
def ob (s : PySem.W.SharedT) : He.AlD × Bool := obsE 4 fa fn exB (HandSHeadRun.getT s)
theorem ob_eq (s : PySem.W.SharedT) : ob s = hk.obs s.abs := obsE_eq (HandSHeadRun.getT_eq s)
def loose : List Str := (["TapError", "NoNumber", "NoBook", "NoCount", "MOST_DIGIT", "MOST_DIGITS", "MOST_ROUNDS", "DIGIT_REST", "ROUND_REST", "is_count", "is_number", "need_number", "need_rounds", "bits_of", "long_of", "order", "MOST_NUMBERS", "MOST_HEARD", "is_round", "need_round", "is_book", "need_book", "cut_ahead", "late", "mistaken", "is_safe", "all_numbers", "are_safe", "may_join", "best_joining"] : List Str) ++ (["safest", "_law_cell", "_law_drawn", "_law_number", "_law_book"] : List Str)
theorem run (w : World) : HandSHeadRun.RunEq R (PySem.W.view R.prog [40]) hk ob 6000 loose w := by
  intro os
  kernel_rfl
theorem facts {P : Program} {w : World} {K : PySem.W.Frag} {h : Heap} {mg : Str → Option Value} {f : Addr} (X : K.In h) (G : h.Ns mainGlobals mg) (hfa : mg ("law" : Str) = some (.ref f)) (c : He.SaysD fa fn K) (ce : exB K = true) :
    ∃ fd : FuncData, (∀ (s : Shared) (v : Value), BindsTo s fd ⟨[v], []⟩ [("script", v)]) ∧ ∀ base : Heap, K.In base → base.Ns mainGlobals mg → FnOk P w K mg base CX0 13 f fd ["script"] (fun vs H Q _ => spF K (ecOf K EN) (callF C T 12) 1 24 vs H Q fun _ _ _ => False) := by
  obtain ⟨fd, FD⟩ := c.defs (d := d_law) (List.mem_of_getElem? (i := 24) rfl)
  have b := FunD.bindsA (ps := ["script"]) FD fun _ _ _ _ _ _ us hl => match us, hl with | [_], _ => rfl
  have e := hfa.symm.trans (He.glo_ok X G (c.facts (f := .glo "law") (List.mem_of_getElem? (i := 40) rfl)))
  cases e
  refine ⟨fd, fun s v => b s [v] rfl, fun base B1 B2 => ?_⟩
  exact law_of (P := P) (w := w) (base := base) (k := 11) (n := 24) (F := F_law) (x := "script") (params := defArgs (top 40)) (body := defBody (top 40)) (scope := defScope (top 40)) (top_of X G c fa_eq rfl rfl rfl) (roks X G c ce) (oks X G c) rfl rfl FD (by kernel_rfl)
    ⟨by kernel_rfl, by kernel_rfl, by kernel_rfl, by decide +kernel, by kernel_rfl, by decide +kernel, by decide +kernel⟩ (by kernel_rfl) (by kernel_rfl)
end Lw
open PySem PySem.W PySem.Calls PyProof.Rows in
theorem Lw.holds (main : ∀ ns : List Int, ns.length ≤ 63 → Li.callF Lw.C Lw.T 12 24 [.scr ns] = .ok (.bl true)) : PySem.Challenge.rw_boxtaps_k71_whole_joining.Holds := by
  w_on; o_law
  refine HandSHeadRun.head_any (r := Lw.R) (q := view Lw.R.prog [40]) (H := Lw.hk) (ob := Lw.ob) (M := 6000) (loose := Lw.loose) (d := HandSHeadRun.topDef Lw.R.prog 40) (kwd := []) Lw.ob_eq
    (by kernel_rfl) (fun s => by kernel_rfl) Lw.run (by kernel_rfl) (by kernel_rfl) (by kernel_rfl) (by rfl) (by first | assumption | decide +kernel) (by decide +kernel) ⟨rfl, rfl, rfl, rfl, rfl, by decide +kernel⟩ ?hw ?hc
  case hw => w_witness2
  case hc =>
    refine L2.walk_ofE (l := PySem.Challenge.rw_boxtaps_k71_whole_joining) (n := 63) (k := 13) (x := "script") (CX := L2.CX0) rfl (by decide) (by kernel_rfl) ⟨rfl, by decide, by decide⟩ ?F (fun _ _ _ _ z => z)
    intro w mg fa h Y G hmg0
    obtain ⟨K, KX, c, ce⟩ := Y
    have hmg : mg ("law" : PySem.Str) = some (.ref fa) := by
      have e : (HandSHeadRun.topDef Lw.R.prog 40).name = ("law" : PySem.Str) := by kernel_rfl
      rw [← e]; exact hmg0
    obtain ⟨fd, hb, hF⟩ := Lw.facts (P := (PySem.Challenge.rw_boxtaps_k71_whole_joining).prog) (w := w) KX G hmg c ce
    exact ⟨K, fd, fun vs H Q _ => Li.spF K (Li.ecOf K Lw.EN) (Li.callF Lw.C Lw.T 12) 1 24 vs H Q fun _ _ _ => False, KX, hb, fun H a ns hl _ hS => Li.sp_of (main ns hl) hS, hF⟩

namespace Lw
open PySem PySem.Spec L2 Li
open PyProof.Rows hiding St
/-! ### what is drawn -/
theorem cell_ok (ns : List Int) (k : Int) (hk : 0 ≤ k) (hl : ns.length ≤ 63) (m : Nat) : ∃ c, callF C T (m + 1) 20 [.scr ns, .int k] = .ok (.int c) := by
  cases ns with
  | nil => exact ⟨7 * k, by kernel_rfl⟩
  | cons x l =>
    have hp : 0 < ((x :: l).length : Int) := by rw [List.length_cons]; omega
    have hs : ((x :: l).length : Int) < 1073741824 := by omega
    have hi : k % ((x :: l).length : Int) < (x :: l).length := Int.emod_lt_of_pos k hp
    have hi0 : 0 ≤ k % ((x :: l).length : Int) := Int.emod_nonneg k (by omega)
    obtain ⟨j, hj⟩ : ∃ j, atI (x :: l) (k % ((x :: l).length : Int)) = some j := by
      unfold atI L2.ixN
      rw [if_pos hi0, if_pos hi]
      exact ⟨_, List.getElem?_eq_getElem (by omega)⟩
    refine ⟨j + 6553 * (k / ((x :: l).length : Int)), ?_⟩
    show outR (exes C (callF C T m) (.cons s__law_cell_0 (.cons s__law_cell_1 .nil)) [some (.scr (x :: l)), some (.int k)]) = _
    have c0 : exe C (callF C T m) s__law_cell_0 [some (.scr (x :: l)), some (.int k)] = .nx [some (.scr (x :: l)), some (.int k)] := cond_no (by kernel_rfl)
    have c1 : exe C (callF C T m) s__law_cell_1 [some (.scr (x :: l)), some (.int k)] = .ret (.int (j + 6553 * (k / ((x :: l).length : Int)))) := ?_
    · rw [exes_nx c0, exes_ret c1]
      rfl
    · unfold s__law_cell_1
      refine ret_of ?_
      have e1 : binR .mod (.int k) (.int (x :: l).length) = .ok (.int (k % (x :: l).length)) := need_of (decide_eq_true hp) _
      have e2 : binR .fdiv (.int k) (.int (x :: l).length) = .ok (.int (k / (x :: l).length)) := need_of (by rw [decide_eq_true hp, decide_eq_true hs]; rfl) _
      have e3 : ixR (.scr (x :: l)) (.int (k % (x :: l).length)) = .ok (.int j) := by simp only [ixR, hj]
      simp only [ev, evs, En.get, bnd_ok, List.getElem?_cons_zero, List.getElem?_cons_succ, bltR, lenR, Cn.d]
      simp only [e1, e2, bnd_ok, e3]
      rfl
theorem drawn_ok (ns : List Int) (k many : Int) (hk : 0 ≤ k) (hm : 0 < many) (hl : ns.length ≤ 63) (m : Nat) : ∃ c, callF C T (m + 2) 21 [.scr ns, .int k, .int many] = .ok (.int c) ∧ 0 ≤ c ∧ c < many := by
  obtain ⟨c, hc⟩ := cell_ok ns k hk hl m
  show ∃ c, outR (exes C (callF C T (m + 1)) b__law_drawn [some (.scr ns), some (.int k), some (.int many), none]) = _ ∧ _
  obtain ⟨y, hy, y0, y1⟩ : ∃ y, y = (c % 2147483563 * 69069 + 104723 * (k + 1)) % 2147483563 ∧ 0 ≤ y ∧ y < 2147483563 := ⟨_, rfl, Int.emod_nonneg _ (by decide), Int.emod_lt_of_pos _ (by decide)⟩
  obtain ⟨z, hz, z0, z1⟩ : ∃ z, z = (y * y + y / 3) % 2147483399 ∧ 0 ≤ z ∧ z < 2147483399 := ⟨_, rfl, Int.emod_nonneg _ (by decide), Int.emod_lt_of_pos _ (by decide)⟩
  have m1 : ∀ i : Int, mulOk i 69069 = true := fun i => mulOk_r (by decide) (by decide)
  have m2 : ∀ i : Int, mulOk 104723 i = true := fun i => mulOk_l (by decide) (by decide)
  have m3 : mulOk y y = true := mulOk_l (by omega) (by omega)
  have m4 : mulOk z z = true := mulOk_l (by omega) (by omega)
  have p1 : ∀ i : Int, binR .mod (.int i) (.int 2147483563) = .ok (.int (i % 2147483563)) := fun i => binR_mod _ _ (by decide)
  have p2 : ∀ i : Int, binR .mod (.int i) (.int 2147483399) = .ok (.int (i % 2147483399)) := fun i => binR_mod _ _ (by decide)
  have p3 : ∀ i : Int, binR .mod (.int i) (.int 2147483647) = .ok (.int (i % 2147483647)) := fun i => binR_mod _ _ (by decide)
  have p4 : ∀ i : Int, binR .fdiv (.int i) (.int 3) = .ok (.int (i / 3)) := fun i => binR_fdiv _ _ (by decide) (by decide)
  have p5 : ∀ i : Int, binR .fdiv (.int i) (.int 7) = .ok (.int (i / 7)) := fun i => binR_fdiv _ _ (by decide) (by decide)
  have p6 : ∀ i : Int, binR .fdiv (.int i) (.int 11) = .ok (.int (i / 11)) := fun i => binR_fdiv _ _ (by decide) (by decide)
  have p7 : ∀ i : Int, binR .mod (.int i) (.int many) = .ok (.int (i % many)) := fun i => binR_mod _ _ hm
  refine ⟨(z * z + z / 7) % 2147483647 / 11 % many, ?_, Int.emod_nonneg _ (by omega), Int.emod_lt_of_pos _ hm⟩
  simp only [b__law_drawn, s__law_drawn_0, s__law_drawn_1, s__law_drawn_2, exes, exe, ev, evs, En.get, bnd_ok, out_ok, List.getElem?_cons_zero, List.getElem?_cons_succ, Cn.d, hc, List.set_cons_zero, List.set_cons_succ, binR_add, binR_mul, p1, p2, p3, p4, p5, p6, p7, m1, m2, outR, ← hy, m3, ← hz, m4]
/-! ### numbers of up to three digits, each 1 to 3 -/
def N1 : List (List Int) := [[1], [2], [3]]
def N2 : List (List Int) := N1.flatMap fun x => [1 :: x, 2 :: x, 3 :: x]
def N3 : List (List Int) := N2.flatMap fun x => [1 :: x, 2 :: x, 3 :: x]
def NL : List (List Int) := N1 ++ N2 ++ N3
theorem mem_NL {l : List Int} (h1 : 1 ≤ l.length) (h2 : l.length ≤ 3) (h : ∀ x ∈ l, 1 ≤ x ∧ x ≤ 3) : l ∈ NL := by
  have c : ∀ x : Int, 1 ≤ x ∧ x ≤ 3 → x = 1 ∨ x = 2 ∨ x = 3 := fun x hx => by omega
  match l, h1, h2, h with
  | [a], _, _, h =>
    rcases c a (h a (by simp)) with rfl | rfl | rfl <;> decide
  | [a, b], _, _, h =>
    rcases c a (h a (by simp)) with rfl | rfl | rfl <;> rcases c b (h b (by simp)) with rfl | rfl | rfl <;> decide
  | [a, b, d], _, _, h =>
    rcases c a (h a (by simp)) with rfl | rfl | rfl <;> rcases c b (h b (by simp)) with rfl | rfl | rfl <;> rcases c d (h d (by simp)) with rfl | rfl | rfl <;> decide
theorem NL_ne : ∀ l ∈ NL, l ≠ [] := by decide +kernel
theorem num_ok (ns : List Int) (at_ : Int) (h0 : 0 ≤ at_) (hl : ns.length ≤ 63) (m : Nat) : ∃ l, l ∈ NL ∧ callF C T (m + 3) 22 [.scr ns, .int at_] = .ok (uT l) := by
  obtain ⟨c, hc, c0, c1⟩ := drawn_ok ns at_ 3 h0 (by decide) hl m
  have key : ∃ l : List Int, l ∈ NL ∧ exes C (callF C T (m + 2)) b__law_number [some (.scr ns), some (.int at_), none, none] = .ret (uT l) := by
    obtain ⟨ys, e1, e2, e3⟩ : ∃ ys, ev C (callF C T (m + 2)) (b__law_number.nth 1).ex.a1 [some (.scr ns), some (.int at_), some (.int (1 + c)), none] = .ok (.lst ys) ∧ ys.length = (rngL 0 (1 + c)).length ∧ ∀ y ∈ ys, ∃ i : Int, y = .int i ∧ 1 ≤ i ∧ i ≤ 3 := by
      have e0 : evi C (callF C T (m + 2)) (b__law_number.nth 1).ex.a1.lit [some (.scr ns), some (.int at_), some (.int (1 + c)), none] = rngR 0 (1 + c) := by kernel_rfl
      refine lcs_ex (by kernel_rfl) (e0.trans (rngR_ok _ (by omega) (by omega))) (by rw [rngL_length]; omega) ?_
      intro d hd
      obtain ⟨k, hk, rfl⟩ := mem_rngL hd
      obtain ⟨u, hu, u0, u1⟩ := drawn_ok ns (at_ + 1 + k) 3 (by omega) (by decide) hl m
      refine ⟨.int (1 + u), ?_, 1 + u, rfl, by omega, by omega⟩
      have e0 : lcT C (callF C T (m + 2)) [some (.scr ns), some (.int at_), some (.int (1 + c)), none] (.int (k : Nat)) (b__law_number.nth 1).ex.a1 = ((callF C T (m + 2) 21 [.scr ns, .int (at_ + 1 + k), .int 3]).bind fun y => binR .add (.int 1) y).bind fun y => .ok (some y) := by kernel_rfl
      rw [e0, hu]
      rfl
    obtain ⟨is, e4, e5, e6⟩ := ex_map e3
    refine ⟨is, mem_NL (by rw [e5, e2, rngL_length]; omega) (by rw [e5, e2, rngL_length]; omega) e6, ?_⟩
    have c0 : exe C (callF C T (m + 2)) s__law_number_0 [some (.scr ns), some (.int at_), none, none] = .nx [some (.scr ns), some (.int at_), some (.int (1 + c)), none] := by
      unfold s__law_number_0
      exact asg_nx (d := .int (1 + c)) (by simp only [ev, evs, En.get, bnd_ok, List.getElem?_cons_zero, List.getElem?_cons_succ, Cn.d, hc, binR_add])
    show exes C (callF C T (m + 2)) (.cons s__law_number_0 (.cons s__law_number_1 .nil)) _ = _
    rw [exes_nx c0]
    refine exes_ret (ret_of (?_ : ev C (callF C T (m + 2)) (b__law_number.nth 1).ex _ = _))
    rw [e4] at e1
    have e7 : ev C (callF C T (m + 2)) (b__law_number.nth 1).ex [some (.scr ns), some (.int at_), some (.int (1 + c)), none] = (ev C (callF C T (m + 2)) (b__law_number.nth 1).ex.a1 [some (.scr ns), some (.int at_), some (.int (1 + c)), none]).bind tupleR := by kernel_rfl
    rw [e1] at e7
    exact e7
  obtain ⟨l, h1, h2⟩ := key
  refine ⟨l, h1, ?_⟩
  show outR (exes C (callF C T (m + 2)) b__law_number [some (.scr ns), some (.int at_), none, none]) = _
  rw [h2]
  rfl
/-! ### books -/
structure Bk (bs : List (List Int)) : Prop where
  mem : ∀ l ∈ bs, l ∈ NL
  pos : 1 ≤ bs.length
  few : bs.length ≤ 8
  inc : bs.Pairwise fun x y => HT.lexLt x y = true
theorem Bk.ne {bs : List (List Int)} (h : Bk bs) : ∃ b r, bs = b :: r := by
  cases bs with
  | nil => exact absurd h.pos (by decide)
  | cons b r => exact ⟨b, r, rfl⟩
theorem lex_irr (x : List Int) : HT.lexLt x x = false := by
  cases z : HT.lexLt x x with
  | false => rfl
  | true => have z2 := NtL.lex_asym _ _ z; rw [z] at z2; cases z2
theorem Bk.nodup {bs : List (List Int)} (h : Bk bs) : bs.Nodup := h.inc.imp fun {x y} e z => by
  subst z
  rw [lex_irr] at e
  cases e
theorem book_ok (ns : List Int) (at_ most : Int) (h0 : 0 ≤ at_) (h1 : 0 < most) (h2 : most ≤ 8) (hl : ns.length ≤ 63) (m : Nat) : ∃ bs, Bk bs ∧ (bs.length : Int) ≤ most ∧ callF C T (m + 4) 23 [.scr ns, .int at_, .int most] = .ok (.tup (bs.map uT)) := by
  obtain ⟨c, hc, c0, c1⟩ := drawn_ok ns at_ most h0 h1 hl (m + 1)
  have hit : evi C (callF C T (m + 3)) (b__law_book.nth 0).ex.lit [some (.scr ns), some (.int at_), some (.int most), none, none] = .ok (rngL 0 (1 + c)) := by
    have e1 : evi C (callF C T (m + 3)) (b__law_book.nth 0).ex.lit [some (.scr ns), some (.int at_), some (.int most), none, none] = ((callF C T (m + 3) 21 [.scr ns, .int at_, .int most]).bind fun y => binR .add (.int 1) y).bind fun x => match x with
      | .int j => rngR 0 j
      | _ => .no := by kernel_rfl
    rw [e1, hc]
    exact rngR_ok _ (by omega) (by omega)
  obtain ⟨ys, g1, g2, g3⟩ := lcs_ex (R := fun y => ∃ l, y = uT l ∧ l ∈ NL) (e := (b__law_book.nth 0).ex) (by kernel_rfl) hit (by rw [rngL_length]; omega) (by
    intro d hd
    obtain ⟨k, hk, rfl⟩ := mem_rngL hd
    obtain ⟨l, hN, hn⟩ := num_ok ns (at_ + 1 + 5 * k) (by omega) hl m
    refine ⟨uT l, ?_, l, rfl, hN⟩
    have e1 : lcT C (callF C T (m + 3)) [some (.scr ns), some (.int at_), some (.int most), none, none] (.int (k : Nat)) (b__law_book.nth 0).ex = (((binR .mul (.int 5) (.int k)).bind fun y => binR .add (.int (at_ + 1)) y).bind fun y => callF C T (m + 3) 22 [.scr ns, y]).bind fun y => .ok (some y) := by kernel_rfl
    rw [e1, binR_mul 5 k (mulOk_l (by decide) (by decide)), bnd_ok, binR_add, bnd_ok, hn]
    rfl)
  obtain ⟨ls, rfl, g4, hls⟩ := ex_map g3
  have hlen : ls.length = (1 + c).toNat := by rw [g4, g2, rngL_length]
  have ht : ls.map uT = ls.map uT := rfl
  have nd := onceL_nodup ls
  have hperm := sortL_perm (onceL ls)
  have hle : (onceL ls).length ≤ ls.length := nodup_len nd fun x hx => (mem_onceL ls x).mp hx
  have hpos : 1 ≤ (onceL ls).length := by
    cases e : ls with
    | nil => rw [e] at hlen; simp at hlen; omega
    | cons x r =>
      have : x ∈ onceL ls := (mem_onceL ls x).mpr (by rw [e]; exact List.mem_cons_self)
      rw [e] at this
      exact List.length_pos_of_mem this
  refine ⟨sortL (onceL ls), ⟨fun l h => hls l ((mem_onceL ls l).mp (hperm.mem_iff.mp h)), by rw [hperm.length_eq]; exact hpos, by rw [hperm.length_eq]; omega, lex_strict (sortL_srt _) (hperm.nodup_iff.mpr nd)⟩, by rw [hperm.length_eq]; omega, ?_⟩
  have s0 : exe C (callF C T (m + 3)) (b__law_book.nth 0) [some (.scr ns), some (.int at_), some (.int most), none, none] = .nx [some (.scr ns), some (.int at_), some (.int most), some (.lst (ls.map uT)), none] := asg_nx g1
  have s1 : exe C (callF C T (m + 3)) (b__law_book.nth 1) [some (.scr ns), some (.int at_), some (.int most), some (.lst (ls.map uT)), none] = .ret (.tup ((sortL (onceL ls)).map uT)) := by
    refine ret_of (?_ : ev C (callF C T (m + 3)) (b__law_book.nth 1).ex [some (.scr ns), some (.int at_), some (.int most), some (.lst (ls.map uT)), none] = _)
    have e1 : ev C (callF C T (m + 3)) (b__law_book.nth 1).ex [some (.scr ns), some (.int at_), some (.int most), some (.lst (ls.map uT)), none] = (srtSetR (.lst (ls.map uT))).bind tupleR := by kernel_rfl
    have e2 : srtSetR (.lst (ls.map uT)) = .ok (.lst ((sortL (onceL ls)).map uT)) := srtSet_uT (fun x hx => NL_ne x (hls x hx)) (by omega)
    rw [e1, e2]
    rfl
  have eb : b__law_book = .cons (b__law_book.nth 0) (.cons (b__law_book.nth 1) .nil) := by kernel_rfl
  have e0 : callF C T (m + 4) 23 [.scr ns, .int at_, .int most] = outR (exes C (callF C T (m + 3)) b__law_book [some (.scr ns), some (.int at_), some (.int most), none, none]) := by kernel_rfl
  rw [e0, eb, exes_nx s0, exes_ret s1]
  rfl
def un : D → List Int
  | .tup l => l.map toI
  | _ => []
theorem isnum_all (m : Nat) : NL.map (fun l => callF C T (m + 2) 1 [uT l]) = NL.map (fun _ => .ok (.bl true)) := by kernel_rfl
theorem isbook_ok {bs : List (List Int)} (hb : Bk bs) (m : Nat) : callF C T (m + 3) 9 [.tup (bs.map uT)] = .ok (.bl true) := by
  have eb : b_is_book = .cons (b_is_book.nth 0) (.cons (b_is_book.nth 1) (.cons (b_is_book.nth 2) .nil)) := by kernel_rfl
  have e0 : callF C T (m + 3) 9 [.tup (bs.map uT)] = outR (exes C (callF C T (m + 2)) b_is_book [some (.tup (bs.map uT)), none, none]) := by kernel_rfl
  have s0 : exe C (callF C T (m + 2)) (b_is_book.nth 0) [some (.tup (bs.map uT)), none, none] = .nx [some (.tup (bs.map uT)), none, none] := by
    refine cond_no ?_
    have e1 : ev C (callF C T (m + 2)) (b_is_book.nth 0).ex [some (.tup (bs.map uT)), none, none] = (asB (notR ((asB (leR (.int 1) (.int ((bs.map uT).length : Nat)))).bind fun t => if t = true then leR (.int ((bs.map uT).length : Nat)) (.int 8) else .ok (.bl false)))).bind fun u => .ok (.bl u) := by kernel_rfl
    refine Eq.trans e1 ?_
    have e2 : leR (.int 1) (.int ((bs.map uT).length : Nat)) = .ok (.bl true) := by
      show Res.ok (D.bl (decide _)) = _
      rw [decide_eq_true]
      rw [List.length_map]
      have := hb.pos
      omega
    have e3 : leR (.int ((bs.map uT).length : Nat)) (.int 8) = .ok (.bl true) := by
      show Res.ok (D.bl (decide _)) = _
      rw [decide_eq_true]
      rw [List.length_map]
      have := hb.few
      omega
    rw [e2, e3]
    rfl
  have s1 : exe C (callF C T (m + 2)) (b_is_book.nth 1) [some (.tup (bs.map uT)), none, none] = .nx [some (.tup (bs.map uT)), none, none] := by
    refine cond_no ?_
    have e1 : ev C (callF C T (m + 2)) (b_is_book.nth 1).ex [some (.tup (bs.map uT)), none, none] = notR ((ev C (callF C T (m + 2)) (b_is_book.nth 1).ex.a0.a1 [some (.tup (bs.map uT)), none, none]).bind allR) := by kernel_rfl
    refine Eq.trans e1 ?_
    have e2 : ev C (callF C T (m + 2)) (b_is_book.nth 1).ex.a0.a1 [some (.tup (bs.map uT)), none, none] = .ok (.lst (bs.map fun _ => .bl true)) :=
      lcs_mapM (f := uT) (by kernel_rfl) (by kernel_rfl) (by have := hb.few; omega) fun l hl => by
        have e3 : lcT C (callF C T (m + 2)) [some (.tup (bs.map uT)), none, none] (uT l) (b_is_book.nth 1).ex.a0.a1 = (callF C T (m + 2) 1 [uT l]).bind fun y => .ok (some y) := by kernel_rfl
        rw [e3, map_all (isnum_all m) l (hb.mem l hl)]
        rfl
    rw [e2, bnd_ok, allR_true fun y hy => by obtain ⟨x, _, rfl⟩ := List.mem_map.mp hy; rfl]
    rfl
  have s2 : exe C (callF C T (m + 2)) (b_is_book.nth 2) [some (.tup (bs.map uT)), none, none] = .ret (.bl true) := by
    refine ret_of (?_ : ev C (callF C T (m + 2)) (b_is_book.nth 2).ex [some (.tup (bs.map uT)), none, none] = _)
    have e1 : ev C (callF C T (m + 2)) (b_is_book.nth 2).ex [some (.tup (bs.map uT)), none, none] = (ev C (callF C T (m + 2)) (b_is_book.nth 2).ex.a1 [some (.tup (bs.map uT)), none, none]).bind allR := by kernel_rfl
    have e2 : evi C (callF C T (m + 2)) (b_is_book.nth 2).ex.a1.lit [some (.tup (bs.map uT)), none, none] = .ok (zipD (bs.map uT) (cutD (bs.map uT) (some 1) none)) := by kernel_rfl
    have e3 : cutD (bs.map uT) (some 1) none = (bs.map uT).drop 1 := by
      obtain ⟨b, r, rfl⟩ := hb.ne
      exact cutD_tail _ _
    rw [e3] at e2
    obtain ⟨ys, g1, g2, g3⟩ := lcs_ex (R := fun y => y = .bl true) (e := (b_is_book.nth 2).ex.a1) (by kernel_rfl) e2 (by
      rw [zip_len]
      have := hb.few
      rw [List.length_map]
      omega) (by
      intro d hd
      obtain ⟨x, y, rfl, hxy⟩ := zip_adj hb.inc d hd
      refine ⟨.bl true, ?_, rfl⟩
      have e4 : lcT C (callF C T (m + 2)) [some (.tup (bs.map uT)), none, none] (.tup [uT x, uT y]) (b_is_book.nth 2).ex.a1 = (ltR (uT x) (uT y)).bind fun y => .ok (some y) := by kernel_rfl
      rw [e4, ltR_uT, hxy]
      rfl)
    rw [e1, g1, bnd_ok]
    exact allR_true g3
  rw [e0, eb, exes_nx s0, exes_nx s1, exes_ret s2]
  rfl
theorem needbook_ok {bs : List (List Int)} (hb : Bk bs) (m : Nat) : callF C T (m + 4) 10 [.tup (bs.map uT)] = .ok .non := by
  have e0 : callF C T (m + 4) 10 [.tup (bs.map uT)] = outR (exes C (callF C T (m + 3)) b_need_book [some (.tup (bs.map uT))]) := by kernel_rfl
  have eb : b_need_book = .cons (b_need_book.nth 0) .nil := by kernel_rfl
  have s0 : exe C (callF C T (m + 3)) (b_need_book.nth 0) [some (.tup (bs.map uT))] = .nx [some (.tup (bs.map uT))] := by
    refine cond_no ?_
    have e1 : ev C (callF C T (m + 3)) (b_need_book.nth 0).ex [some (.tup (bs.map uT))] = notR (callF C T (m + 3) 9 [.tup (bs.map uT)]) := by kernel_rfl
    refine Eq.trans e1 ?_
    rw [isbook_ok hb m]
    rfl
  rw [e0, eb, exes_nx s0, exes_nil]
  rfl
end Lw

namespace Lw
open PySem PySem.Spec L2 Li
open PyProof.Rows hiding St
/-! ### all numbers, those safe -/
def AN : List (List Int) := [1, 2, 3, 4, 5, 6].flatMap fun a : Int => [a] :: [1, 2, 3, 4, 5, 6].flatMap fun b : Int => [a, b] :: [1, 2, 3, 4, 5, 6].map fun c : Int => [a, b, c]
def cutL : List Int → List (List Int)
  | [] => []
  | d :: r => ((List.range d.toNat).map fun k : Nat => ((k : Int) + 1) :: r) ++ cutL r
theorem cut_all (m : Nat) : AN.map (fun l => callF C T (m + 1) 11 [uT l]) = AN.map (fun l => .ok (.lst ((cutL l).map uT))) := by kernel_rfl
theorem cut_ok (m : Nat) {l : List Int} (h : l ∈ AN) : callF C T (m + 1) 11 [uT l] = .ok (.lst ((cutL l).map uT)) := map_all (cut_all m) l h
theorem anums_ok (m : Nat) : callF C T (m + 1) 15 [] = .ok (.lst (AN.map uT)) := by kernel_rfl
theorem NL_AN : ∀ l ∈ NL, l ∈ AN := by decide +kernel
theorem AN_ne : ∀ l ∈ AN, l ≠ [] := by decide +kernel
theorem AN_pos : ∀ l ∈ AN, ∀ n ∈ l, 0 < n := by decide +kernel
/-- whether one can be heard late of another one -/
def clash (ns : List (List Int)) (one : List Int) : List (List Int) := ns.filter fun other => !decide (other = one) && memB other (cutL one)
def safeB (ns : List (List Int)) : Bool := ns.all fun one => decide (clash ns one = [])
theorem forGo_ret {α : Type} {f : D → En → Out} {enc : α → D} {r : D} (P : En → Prop) (c : α → Bool) : ∀ (l : List α) (en : En), P en → (∀ x ∈ l, ∀ e, P e → (c x = true → ∃ e', f (enc x) e = .nx e' ∧ P e') ∧ (c x = false → f (enc x) e = .ret r)) →
    (l.all c = true → ∃ e', forGo f (l.map enc) en = .nx e' ∧ P e') ∧ (l.all c = false → forGo f (l.map enc) en = .ret r)
  | [], en, h, _ => ⟨fun _ => ⟨en, rfl, h⟩, fun h => by cases h⟩
  | x :: l, en, h, hs => by
    obtain ⟨h1, h2⟩ := hs x List.mem_cons_self en h
    rw [List.all_cons, List.map_cons]
    cases hc : c x with
    | true =>
      obtain ⟨e', e1, e2⟩ := h1 hc
      rw [Bool.true_and]
      simp only [forGo, e1]
      exact forGo_ret P c l e' e2 fun y hy => hs y (List.mem_cons_of_mem _ hy)
    | false =>
      refine ⟨fun z => by simp at z, fun _ => ?_⟩
      simp only [forGo, h2 hc]
theorem aresafe_ok {ns : List (List Int)} (h : ∀ l ∈ ns, l ∈ AN) (hn : ns.length ≤ 1000) (m : Nat) : callF C T (m + 2) 16 [.tup (ns.map uT)] = .ok (.bl (safeB ns)) := by
  obtain ⟨h1, h2⟩ := forGo_ret (f := forB C (callF C T (m + 1)) s_are_safe_0.tg s_are_safe_0.inn) (enc := uT) (r := .bl false) (fun e => ∃ o1 o2, e = [some (.tup (ns.map uT)), o1, o2, none]) (fun one => decide (clash ns one = [])) ns [some (.tup (ns.map uT)), none, none, none] ⟨_, _, rfl⟩ (by
    rintro x hx e ⟨o1, o2, rfl⟩
    have hc := cut_ok m (h x hx)
    have ec : (ns.filter fun y => !decide (y = x) && memB y (cutL x)) = clash ns x := rfl
    refine ⟨fun hz => ⟨_, ?_, some (uT x), some (.lst ((cutL x).map uT)), rfl⟩, fun hz => ?_⟩
    · have hz := of_decide_eq_true hz
      simp -implicitDefEqProofs (disch := first | assumption | omega) only [forB, s_are_safe_0, Sm.tg, Sm.inn, s_are_safe_0_0, s_are_safe_0_1_0, s_are_safe_0_1, exes, exe_asg, exe_asgt, exe_setix, exe_mut, exe_expr, exe_ret, exe_cond, exe_rais, exe_pass, exe_tryr, bnd_ex, out_ex, asB_ex, notR_ex, isi_no, isi_bt, isi_bi, isi_bp, isi_si, isi_st, isi_li, isi_lt, isi_ti, isi_it, nl0, tl0, ll0, nl1, tl1, ll1, nl2, tl2, ll2, nl3, tl3, ll3, nl4, tl4, ll4, nl5, tl5, ll5, nl6, tl6, ll6, nl7, tl7, ll7, nl8, tl8, ll8, ev, evs, evo, evi, evB, En.get, bnd_ok, out_ok, asB_ok, asOI_ok, notR_ok, Cn.d, List.getElem?_cons_zero, List.getElem?_cons_succ, List.set_cons_zero, List.set_cons_succ, bltR, cmpR, isi_u2, isi_u3, isi_uT, isi_T, isi_I, isi_I', isi2R, len_u2, len_u3, len_uT, ln_L, ln_T, ix_u2a, ix_u2b, ix_u3a, ix_u3b, ix_u3c, decide_true, decide_false, eq_self, seq_uT, seq_L, seq_T, sr_uT, sr_L, sr_T, bindT_n, bindT_t, setAll, bindT2, bindT3, wipeD, List.map_cons, List.map_nil, tupleR, listR, intR, outR, addD, mulD, addI, binR_sub, negR, if_true, if_false, Int.reduceToNat, Int.reduceEq, Int.reduceLT, Int.reduceLE, Bool.false_eq_true, Bool.true_eq_false, Bool.not_true, Bool.not_false, lcGo_A, lcA_some, lcA_if, lcA_none, lcI_some, lcI_if, lcI_none, need_len, lcGo_nilA, lcGo_consA, and_ok, or_ok, chain_ok, slcTo_L, slcTo_T, slcFrom_L, slcFrom_T, rev_T, rev_L, Bool.true_and, Bool.and_true, Bool.false_and, Bool.and_false, Bool.true_or, Bool.or_true, Bool.false_or, Bool.or_false, mulL0, mulL1, addL0, addL1, appL, extL, allR_t, tupU2, tupU3, eqI, neI, eqN, neN, eqL00, neL00, eqT00, neT00, eqB, neB, eqL, neL, g_eqT, g_neT, eqL0, neL0, g_eqT0, g_neT0, inL, inT, memB_t, memB_f, cg_0, cg_1, cg_2, cg_3, cg_4, cg_5, cg_6, neR_uT, hc, ec, hz]
    · have hz := of_decide_eq_false hz
      simp -implicitDefEqProofs (disch := first | assumption | omega) only [forB, s_are_safe_0, Sm.tg, Sm.inn, s_are_safe_0_0, s_are_safe_0_1_0, s_are_safe_0_1, exes, exe_asg, exe_asgt, exe_setix, exe_mut, exe_expr, exe_ret, exe_cond, exe_rais, exe_pass, exe_tryr, bnd_ex, out_ex, asB_ex, notR_ex, isi_no, isi_bt, isi_bi, isi_bp, isi_si, isi_st, isi_li, isi_lt, isi_ti, isi_it, nl0, tl0, ll0, nl1, tl1, ll1, nl2, tl2, ll2, nl3, tl3, ll3, nl4, tl4, ll4, nl5, tl5, ll5, nl6, tl6, ll6, nl7, tl7, ll7, nl8, tl8, ll8, ev, evs, evo, evi, evB, En.get, bnd_ok, out_ok, asB_ok, asOI_ok, notR_ok, Cn.d, List.getElem?_cons_zero, List.getElem?_cons_succ, List.set_cons_zero, List.set_cons_succ, bltR, cmpR, isi_u2, isi_u3, isi_uT, isi_T, isi_I, isi_I', isi2R, len_u2, len_u3, len_uT, ln_L, ln_T, ix_u2a, ix_u2b, ix_u3a, ix_u3b, ix_u3c, decide_true, decide_false, eq_self, seq_uT, seq_L, seq_T, sr_uT, sr_L, sr_T, bindT_n, bindT_t, setAll, bindT2, bindT3, wipeD, List.map_cons, List.map_nil, tupleR, listR, intR, outR, addD, mulD, addI, binR_sub, negR, if_true, if_false, Int.reduceToNat, Int.reduceEq, Int.reduceLT, Int.reduceLE, Bool.false_eq_true, Bool.true_eq_false, Bool.not_true, Bool.not_false, lcGo_A, lcA_some, lcA_if, lcA_none, lcI_some, lcI_if, lcI_none, need_len, lcGo_nilA, lcGo_consA, and_ok, or_ok, chain_ok, slcTo_L, slcTo_T, slcFrom_L, slcFrom_T, rev_T, rev_L, Bool.true_and, Bool.and_true, Bool.false_and, Bool.and_false, Bool.true_or, Bool.or_true, Bool.false_or, Bool.or_false, mulL0, mulL1, addL0, addL1, appL, extL, allR_t, tupU2, tupU3, eqI, neI, eqN, neN, eqL00, neL00, eqT00, neT00, eqB, neB, eqL, neL, g_eqT, g_neT, eqL0, neL0, g_eqT0, g_neT0, inL, inT, memB_t, memB_f, cg_0, cg_1, cg_2, cg_3, cg_4, cg_5, cg_6, neR_uT, hc, ec, eq_false hz])
  have e0 : callF C T (m + 2) 16 [.tup (ns.map uT)] = outR (exes C (callF C T (m + 1)) (.cons s_are_safe_0 (.cons s_are_safe_1 .nil)) [some (.tup (ns.map uT)), none, none, none]) := by kernel_rfl
  have el := loop_of (C := C) (cf := callF C T (m + 1)) (s := s_are_safe_0) (ds := ns.map uT) (env := [some (.tup (ns.map uT)), none, none, none]) rfl (by kernel_rfl)
  rw [e0]
  cases hz : safeB ns with
  | true =>
    obtain ⟨e', e1, o1, o2, rfl⟩ := h1 hz
    rw [exes_nx (el.trans e1), exes_ret (show exe C (callF C T (m + 1)) s_are_safe_1 _ = .ret (.bl true) by kernel_rfl)]
    rfl
  | false =>
    rw [exes_ret (el.trans (h2 hz))]
    rfl
end Lw

namespace Lw
open PySem PySem.Spec L2 Li
open PyProof.Rows hiding St
/-! ### order -/
def bl (l : List Int) : Int := match callF C T 1 4 [uT l] with
  | .ok (.lst x) => x.length
  | _ => 0
def key (l : List Int) : List Int := bl l :: l
def srt (ls : List (List Int)) : List (List Int) := (sortL (ls.map key)).map List.tail
theorem B0 (m : Nat) (a o1 o2 o3 : Option D) : AN.map (fun l => forB C (callF C T (m + 3)) (b_order.nth 1).tg (b_order.nth 1).inn (uT l) [a, o1, o2, o3]) = AN.map (fun l => .nx [a, some (uT l), o2, o3]) := by kernel_rfl
theorem B1 (m : Nat) (a o1 o2 o3 : Option D) : AN.map (fun l => lcT C (callF C T (m + 3)) [a, o1, o2, o3] (uT l) (b_order.nth 2).ex.a1) = AN.map (fun l => .ok (some (uP (key l)))) := by kernel_rfl
theorem B2 (m : Nat) (a o1 o3 : Option D) (r : List D) (i : Int) (l : List Int) : lcT C (callF C T (m + 3)) [a, o1, some (.lst r), o3] (uP (i :: l)) (b_order.nth 3).ex = .ok (some (uT l)) := by kernel_rfl
theorem srt_len (ls : List (List Int)) : (srt ls).length = ls.length := by
  unfold srt
  rw [List.length_map, (sortL_perm _).length_eq, List.length_map]
theorem order_ok (m : Nat) (d : D) (ls : List (List Int)) (hd : d = .lst (ls.map uT) ∨ d = .tup (ls.map uT)) (hls : ∀ l ∈ ls, l ∈ AN) (hn : ls.length ≤ 1000) : callF C T (m + 4) 6 [d] = .ok (.lst ((srt ls).map uT)) := by
  have e0 : callF C T (m + 4) 6 [d] = outR (exes C (callF C T (m + 3)) b_order [some d, none, none, none]) := by kernel_rfl
  have hseq : ∀ o1 o2 o3, evi C (callF C T (m + 3)) (b_order.nth 1).itx [some d, o1, o2, o3] = .ok (ls.map uT) ∧ evi C (callF C T (m + 3)) (b_order.nth 2).ex.a1.lit [some d, o1, o2, o3] = .ok (ls.map uT) ∧ exe C (callF C T (m + 3)) (b_order.nth 0) [some d, o1, o2, o3] = .nx [some d, o1, o2, o3] := by
    intro o1 o2 o3
    rcases hd with rfl | rfl
    · exact ⟨by kernel_rfl, by kernel_rfl, by kernel_rfl⟩
    · exact ⟨by kernel_rfl, by kernel_rfl, by kernel_rfl⟩
  have eb : b_order = .cons (b_order.nth 0) (.cons (b_order.nth 1) (.cons (b_order.nth 2) (.cons (b_order.nth 3) .nil))) := by kernel_rfl
  obtain ⟨e', h1, o1, rfl⟩ := forGo_inv (f := forB C (callF C T (m + 3)) (b_order.nth 1).tg (b_order.nth 1).inn) (ds := ls.map uT) (en := [some d, none, none, none]) (fun e => ∃ o1, e = [some d, o1, none, none]) ⟨_, rfl⟩ (by
    rintro x hx e ⟨o1, rfl⟩
    obtain ⟨l, hl, rfl⟩ := List.mem_map.mp hx
    exact ⟨_, map_all (B0 m (some d) o1 none none) l (hls l hl), _, rfl⟩)
  have h2 : ev C (callF C T (m + 3)) (b_order.nth 2).ex.a1 [some d, o1, none, none] = .ok (.lst (ls.map fun l => uP (key l))) :=
    lcs_mapM (by kernel_rfl) (hseq o1 none none).2.1 (by omega) fun l hl => map_all (B1 m (some d) o1 none none) l (hls l hl)
  have h3 : ev C (callF C T (m + 3)) (b_order.nth 2).ex [some d, o1, none, none] = .ok (.lst ((sortL (ls.map key)).map uP)) := by
    have e1 : ev C (callF C T (m + 3)) (b_order.nth 2).ex [some d, o1, none, none] = (ev C (callF C T (m + 3)) (b_order.nth 2).ex.a1 [some d, o1, none, none]).bind sortR := by kernel_rfl
    have e2 : ls.map (fun l => uP (key l)) = (ls.map key).map uP := by rw [List.map_map]; rfl
    rw [e1, h2, bnd_ok, e2]
    exact sortR_P fun x hx => by
      obtain ⟨l, _, rfl⟩ := List.mem_map.mp hx
      exact List.cons_ne_nil _ _
  have h4 : exe C (callF C T (m + 3)) (b_order.nth 2) [some d, o1, none, none] = .nx [some d, o1, some (.lst ((sortL (ls.map key)).map uP)), none] := asg_nx h3
  have h5 : ev C (callF C T (m + 3)) (b_order.nth 3).ex [some d, o1, some (.lst ((sortL (ls.map key)).map uP)), none] = .ok (.lst ((srt ls).map uT)) := by
    unfold srt
    rw [List.map_map]
    refine lcs_mapM (f := uP) (by kernel_rfl) (by kernel_rfl) (by rw [(sortL_perm _).length_eq, List.length_map]; omega) fun k hk => ?_
    obtain ⟨l, _, rfl⟩ := List.mem_map.mp ((sortL_perm _).mem_iff.mp hk)
    exact B2 m _ _ _ _ _ _
  have h6 : exe C (callF C T (m + 3)) (b_order.nth 3) [some d, o1, some (.lst ((sortL (ls.map key)).map uP)), none] = .ret (.lst ((srt ls).map uT)) := ret_of h5
  rw [e0, eb, exes_nx (hseq none none none).2.2, exes_nx ((loop_of (by kernel_rfl) (hseq none none none).1).trans h1), exes_nx h4, exes_ret h6]
  rfl
/-! ### may_join, best_joining -/
def joinL (bs : List (List Int)) : List (List Int) := if safeB bs = true then AN.filter fun x => !memB x bs && safeB (bs ++ [x]) else []
theorem join_mem {bs : List (List Int)} : ∀ l ∈ joinL bs, l ∈ AN := fun l h => by
  unfold joinL at h
  split at h
  · exact (List.mem_filter.mp h).1
  · cases h
theorem AN_len : AN.length = 258 := by decide +kernel
theorem join_len (bs : List (List Int)) : (joinL bs).length ≤ 258 := by
  unfold joinL
  split
  · exact Nat.le_trans (List.length_filter_le _ _) (by rw [AN_len]; exact Nat.le_refl _)
  · exact Nat.zero_le _
theorem addT1 {α : Type} {f : α → D} (a : List α) (x : α) (h : a.length < 1000000) : addR (.tup (a.map f)) (.tup [f x]) = .ok (.tup ((a ++ [x]).map f)) := by
  rw [List.map_append]
  refine need_of (decide_eq_true ?_) _
  rw [List.length_map]
  exact h
theorem join_ok {bs : List (List Int)} (hb : Bk bs) (h5 : bs.length ≤ 5) (m : Nat) : callF C T (m + 5) 17 [.tup (bs.map uT)] = .ok (.lst ((joinL bs).map uT)) := by
  have h1 := needbook_ok hb m
  have hA : ∀ l ∈ bs, l ∈ AN := fun l h => NL_AN l (hb.mem l h)
  have h2 := aresafe_ok hA (by omega) (m + 2)
  have h3 := anums_ok (m + 3)
  have h4 : ∀ x ∈ AN, callF C T (m + 4) 16 [.tup ((bs ++ [x]).map uT)] = .ok (.bl (safeB (bs ++ [x]))) := fun x hx => aresafe_ok (fun l hl => (List.mem_append.mp hl).elim (hA l) fun h => List.mem_singleton.mp h ▸ hx) (by simp; omega) (m + 2)
  have h5' : ∀ x, addR (.tup (bs.map uT)) (.tup [uT x]) = .ok (.tup ((bs ++ [x]).map uT)) := fun x => addT1 bs x (by omega)
  have hn : ¬ ((bs.length : Int) = 8) := by omega
  have hl := AN_len
  have ej : ∀ t, safeB bs = t → joinL bs = if t = true then AN.filter (fun x => !memB x bs && safeB (bs ++ [x])) else [] := fun t h => by unfold joinL; rw [h]
  cases hs : safeB bs with
  | true =>
    rw [ej _ hs, if_pos rfl]
    rw [hs] at h2
    simp -implicitDefEqProofs (disch := first | assumption | omega) only [cl_may_join, exes, exe_asg, exe_asgt, exe_setix, exe_mut, exe_expr, exe_ret, exe_cond, exe_rais, exe_pass, exe_tryr, bnd_ex, out_ex, asB_ex, notR_ex, isi_no, isi_bt, isi_bi, isi_bp, isi_si, isi_st, isi_li, isi_lt, isi_ti, isi_it, nl0, tl0, ll0, nl1, tl1, ll1, nl2, tl2, ll2, nl3, tl3, ll3, nl4, tl4, ll4, nl5, tl5, ll5, nl6, tl6, ll6, nl7, tl7, ll7, nl8, tl8, ll8, ev, evs, evo, evi, evB, En.get, bnd_ok, out_ok, asB_ok, asOI_ok, notR_ok, Cn.d, List.getElem?_cons_zero, List.getElem?_cons_succ, List.set_cons_zero, List.set_cons_succ, bltR, cmpR, isi_u2, isi_u3, isi_uT, isi_T, isi_I, isi_I', isi2R, len_u2, len_u3, len_uT, ln_L, ln_T, ix_u2a, ix_u2b, ix_u3a, ix_u3b, ix_u3c, decide_true, decide_false, eq_self, seq_uT, seq_L, seq_T, sr_uT, sr_L, sr_T, bindT_n, bindT_t, setAll, bindT2, bindT3, wipeD, List.map_cons, List.map_nil, tupleR, listR, intR, outR, addD, mulD, addI, binR_sub, negR, if_true, if_false, Int.reduceToNat, Int.reduceEq, Int.reduceLT, Int.reduceLE, Bool.false_eq_true, Bool.true_eq_false, Bool.not_true, Bool.not_false, lcGo_A, lcA_some, lcA_if, lcA_none, lcI_some, lcI_if, lcI_none, need_len, lcGo_nilA, lcGo_consA, and_ok, or_ok, chain_ok, slcTo_L, slcTo_T, slcFrom_L, slcFrom_T, rev_T, rev_L, Bool.true_and, Bool.and_true, Bool.false_and, Bool.and_false, Bool.true_or, Bool.or_true, Bool.false_or, Bool.or_false, mulL0, mulL1, addL0, addL1, appL, extL, allR_t, tupU2, tupU3, eqI, neI, eqN, neN, eqL00, neL00, eqT00, neT00, eqB, neB, eqL, neL, g_eqT, g_neT, eqL0, neL0, g_eqT0, g_neT0, inL, inT, memB_t, memB_f, cg_0, cg_1, cg_2, cg_3, cg_4, cg_5, cg_6, b_may_join, s_may_join_0, s_may_join_1_0, s_may_join_1, s_may_join_2, h1, h2, h3, h4, h5', eq_false hn]
  | false =>
    rw [ej _ hs, if_neg Bool.false_ne_true]
    rw [hs] at h2
    simp -implicitDefEqProofs (disch := first | assumption | omega) only [cl_may_join, exes, exe_asg, exe_asgt, exe_setix, exe_mut, exe_expr, exe_ret, exe_cond, exe_rais, exe_pass, exe_tryr, bnd_ex, out_ex, asB_ex, notR_ex, isi_no, isi_bt, isi_bi, isi_bp, isi_si, isi_st, isi_li, isi_lt, isi_ti, isi_it, nl0, tl0, ll0, nl1, tl1, ll1, nl2, tl2, ll2, nl3, tl3, ll3, nl4, tl4, ll4, nl5, tl5, ll5, nl6, tl6, ll6, nl7, tl7, ll7, nl8, tl8, ll8, ev, evs, evo, evi, evB, En.get, bnd_ok, out_ok, asB_ok, asOI_ok, notR_ok, Cn.d, List.getElem?_cons_zero, List.getElem?_cons_succ, List.set_cons_zero, List.set_cons_succ, bltR, cmpR, isi_u2, isi_u3, isi_uT, isi_T, isi_I, isi_I', isi2R, len_u2, len_u3, len_uT, ln_L, ln_T, ix_u2a, ix_u2b, ix_u3a, ix_u3b, ix_u3c, decide_true, decide_false, eq_self, seq_uT, seq_L, seq_T, sr_uT, sr_L, sr_T, bindT_n, bindT_t, setAll, bindT2, bindT3, wipeD, List.map_cons, List.map_nil, tupleR, listR, intR, outR, addD, mulD, addI, binR_sub, negR, if_true, if_false, Int.reduceToNat, Int.reduceEq, Int.reduceLT, Int.reduceLE, Bool.false_eq_true, Bool.true_eq_false, Bool.not_true, Bool.not_false, lcGo_A, lcA_some, lcA_if, lcA_none, lcI_some, lcI_if, lcI_none, need_len, lcGo_nilA, lcGo_consA, and_ok, or_ok, chain_ok, slcTo_L, slcTo_T, slcFrom_L, slcFrom_T, rev_T, rev_L, Bool.true_and, Bool.and_true, Bool.false_and, Bool.and_false, Bool.true_or, Bool.or_true, Bool.false_or, Bool.or_false, mulL0, mulL1, addL0, addL1, appL, extL, allR_t, tupU2, tupU3, eqI, neI, eqN, neN, eqL00, neL00, eqT00, neT00, eqB, neB, eqL, neL, g_eqT, g_neT, eqL0, neL0, g_eqT0, g_neT0, inL, inT, memB_t, memB_f, cg_0, cg_1, cg_2, cg_3, cg_4, cg_5, cg_6, b_may_join, s_may_join_0, s_may_join_1_0, s_may_join_1, s_may_join_2, h1, h2, eq_false hn]
theorem ix_first (x : D) (l : List D) : ixR (.lst (x :: l)) (.int 0) = .ok x := by
  have h : L2.ixN (x :: l).length 0 = some 0 := by
    unfold L2.ixN
    rw [if_pos (by decide), if_pos (by rw [List.length_cons]; omega)]
    rfl
  simp only [ixR, atI, h]
  rfl
def hdD (l : List (List Int)) : D := match l with
  | [] => .non
  | x :: _ => uT x
theorem best_ok {bs : List (List Int)} (hb : Bk bs) (h5 : bs.length ≤ 5) (m : Nat) : callF C T (m + 6) 18 [.tup (bs.map uT)] = .ok (hdD (srt (joinL bs))) := by
  have h1 := join_ok hb h5 m
  have h2 := order_ok (m + 1) (.lst ((joinL bs).map uT)) (joinL bs) (.inl rfl) join_mem (by have := join_len bs; omega)
  cases e : srt (joinL bs) with
  | nil =>
    rw [e] at h2
    simp -implicitDefEqProofs (disch := first | assumption | omega) only [cl_best_joining, exes, exe_asg, exe_asgt, exe_setix, exe_mut, exe_expr, exe_ret, exe_cond, exe_rais, exe_pass, exe_tryr, bnd_ex, out_ex, asB_ex, notR_ex, isi_no, isi_bt, isi_bi, isi_bp, isi_si, isi_st, isi_li, isi_lt, isi_ti, isi_it, nl0, tl0, ll0, nl1, tl1, ll1, nl2, tl2, ll2, nl3, tl3, ll3, nl4, tl4, ll4, nl5, tl5, ll5, nl6, tl6, ll6, nl7, tl7, ll7, nl8, tl8, ll8, ev, evs, evo, evi, evB, En.get, bnd_ok, out_ok, asB_ok, asOI_ok, notR_ok, Cn.d, List.getElem?_cons_zero, List.getElem?_cons_succ, List.set_cons_zero, List.set_cons_succ, bltR, cmpR, isi_u2, isi_u3, isi_uT, isi_T, isi_I, isi_I', isi2R, len_u2, len_u3, len_uT, ln_L, ln_T, ix_u2a, ix_u2b, ix_u3a, ix_u3b, ix_u3c, decide_true, decide_false, eq_self, seq_uT, seq_L, seq_T, sr_uT, sr_L, sr_T, bindT_n, bindT_t, setAll, bindT2, bindT3, wipeD, List.map_cons, List.map_nil, tupleR, listR, intR, outR, addD, mulD, addI, binR_sub, negR, if_true, if_false, Int.reduceToNat, Int.reduceEq, Int.reduceLT, Int.reduceLE, Bool.false_eq_true, Bool.true_eq_false, Bool.not_true, Bool.not_false, lcGo_A, lcA_some, lcA_if, lcA_none, lcI_some, lcI_if, lcI_none, need_len, lcGo_nilA, lcGo_consA, and_ok, or_ok, chain_ok, slcTo_L, slcTo_T, slcFrom_L, slcFrom_T, rev_T, rev_L, Bool.true_and, Bool.and_true, Bool.false_and, Bool.and_false, Bool.true_or, Bool.or_true, Bool.false_or, Bool.or_false, mulL0, mulL1, addL0, addL1, appL, extL, allR_t, tupU2, tupU3, eqI, neI, eqN, neN, eqL00, neL00, eqT00, neT00, eqB, neB, eqL, neL, g_eqT, g_neT, eqL0, neL0, g_eqT0, g_neT0, inL, inT, memB_t, memB_f, cg_0, cg_1, cg_2, cg_3, cg_4, cg_5, cg_6, b_best_joining, s_best_joining_0, s_best_joining_1, h1, h2]
    rfl
  | cons x r =>
    rw [e] at h2
    have hne : ¬ (x :: r = []) := List.cons_ne_nil _ _
    have hix : ixR (.lst ((x :: r).map uT)) (.int 0) = .ok (uT x) := ix_first _ _
    have hne2 : neR (.lst ((x :: r).map uT)) (.lst []) = .ok (.bl true) := by
      rw [neL0 _ (by decide)]
      rfl
    have h2 : callF C T (m + 5) 6 [.lst ((joinL bs).map uT)] = .ok (.lst ((x :: r).map uT)) := h2
    generalize hX : (x :: r).map uT = X at *
    simp -implicitDefEqProofs (disch := first | assumption | omega) only [cl_best_joining, exes, exe_asg, exe_asgt, exe_setix, exe_mut, exe_expr, exe_ret, exe_cond, exe_rais, exe_pass, exe_tryr, bnd_ex, out_ex, asB_ex, notR_ex, isi_no, isi_bt, isi_bi, isi_bp, isi_si, isi_st, isi_li, isi_lt, isi_ti, isi_it, nl0, tl0, ll0, nl1, tl1, ll1, nl2, tl2, ll2, nl3, tl3, ll3, nl4, tl4, ll4, nl5, tl5, ll5, nl6, tl6, ll6, nl7, tl7, ll7, nl8, tl8, ll8, ev, evs, evo, evi, evB, En.get, bnd_ok, out_ok, asB_ok, asOI_ok, notR_ok, Cn.d, List.getElem?_cons_zero, List.getElem?_cons_succ, List.set_cons_zero, List.set_cons_succ, bltR, cmpR, isi_u2, isi_u3, isi_uT, isi_T, isi_I, isi_I', isi2R, len_u2, len_u3, len_uT, ln_L, ln_T, ix_u2a, ix_u2b, ix_u3a, ix_u3b, ix_u3c, decide_true, decide_false, eq_self, seq_uT, seq_L, seq_T, sr_uT, sr_L, sr_T, bindT_n, bindT_t, setAll, bindT2, bindT3, wipeD, List.map_cons, List.map_nil, tupleR, listR, intR, outR, addD, mulD, addI, binR_sub, negR, if_true, if_false, Int.reduceToNat, Int.reduceEq, Int.reduceLT, Int.reduceLE, Bool.false_eq_true, Bool.true_eq_false, Bool.not_true, Bool.not_false, lcGo_A, lcA_some, lcA_if, lcA_none, lcI_some, lcI_if, lcI_none, need_len, lcGo_nilA, lcGo_consA, and_ok, or_ok, chain_ok, slcTo_L, slcTo_T, slcFrom_L, slcFrom_T, rev_T, rev_L, Bool.true_and, Bool.and_true, Bool.false_and, Bool.and_false, Bool.true_or, Bool.or_true, Bool.false_or, Bool.or_false, mulL0, mulL1, addL0, addL1, appL, extL, allR_t, tupU2, tupU3, eqI, neI, eqN, neN, eqL00, neL00, eqT00, neT00, eqB, neB, eqL, neL, g_eqT, g_neT, eqL0, neL0, g_eqT0, g_neT0, inL, inT, memB_t, memB_f, cg_0, cg_1, cg_2, cg_3, cg_4, cg_5, cg_6, b_best_joining, s_best_joining_0, s_best_joining_1, h1, h2, hne2, hix]
    rfl
end Lw

namespace Lw
open PySem PySem.Spec L2 Li
open PyProof.Rows hiding St
/-! ### books out of a book, in order -/
def uS (x : List (List Int)) : D := .tup (x.map uT)
def subG (acc : List (List (List Int))) (bs : List (List Int)) : List (List (List Int)) := bs.foldl (fun acc n => acc ++ acc.map fun x => x ++ [n]) acc
def subL (bs : List (List Int)) : List (List (List Int)) := subG [[]] bs
theorem subG_snoc (acc : List (List (List Int))) (bs : List (List Int)) (n : List Int) : subG acc (bs ++ [n]) = subG acc bs ++ (subG acc bs).map fun x => x ++ [n] := by
  unfold subG
  rw [List.foldl_append]
  rfl
theorem subG_keep : ∀ (bs : List (List Int)) {acc : List (List (List Int))} {x : List (List Int)}, x ∈ acc → x ∈ subG acc bs
  | [], _, _, h => h
  | n :: bs, acc, x, h => subG_keep bs (acc := acc ++ acc.map fun x => x ++ [n]) (List.mem_append_left _ h)
theorem subG_mem : ∀ (bs : List (List Int)) {acc : List (List (List Int))} {S : List Int → Prop}, (∀ x ∈ acc, ∀ n ∈ x, S n) → (∀ n ∈ bs, S n) → ∀ x ∈ subG acc bs, ∀ n ∈ x, S n
  | [], _, _, h, _, x, hx => h x hx
  | b :: bs, acc, S, h, hb, x, hx => subG_mem bs (acc := acc ++ acc.map fun x => x ++ [b]) (fun y hy n hn => by
      rcases List.mem_append.mp hy with hy | hy
      · exact h y hy n hn
      · obtain ⟨z, hz, rfl⟩ := List.mem_map.mp hy
        rcases List.mem_append.mp hn with hn | hn
        · exact h z hz n hn
        · rw [List.mem_singleton.mp hn]
          exact hb b List.mem_cons_self) (fun n hn => hb n (List.mem_cons_of_mem _ hn)) x hx
theorem subG_len : ∀ (bs : List (List Int)) (acc : List (List (List Int))), (subG acc bs).length = acc.length * 2 ^ bs.length
  | [], acc => by show acc.length = _; simp
  | b :: bs, acc => by
    have := subG_len bs (acc ++ acc.map fun x => x ++ [b])
    show (subG (acc ++ acc.map fun x => x ++ [b]) bs).length = _
    rw [this, List.length_append, List.length_map, List.length_cons, Nat.pow_succ]
    rw [← Nat.mul_two, Nat.mul_assoc, Nat.mul_comm 2]
theorem subG_head : ∀ (bs : List (List Int)) {acc : List (List (List Int))} {x : List (List Int)} {r : List (List (List Int))}, acc = x :: r → ∃ r', subG acc bs = x :: r'
  | [], acc, x, r, h => ⟨r, h⟩
  | b :: bs, acc, x, r, h => subG_head bs (acc := acc ++ acc.map fun x => x ++ [b]) (x := x) (r := r ++ acc.map fun x => x ++ [b]) (by rw [h]; rfl)
theorem sub_sizes (bs : List (List Int)) (h : bs.length ≤ 8) : (subL bs).length ≤ 256 := by
  unfold subL
  rw [subG_len]
  have : 2 ^ bs.length ≤ 2 ^ 8 := Nat.pow_le_pow_right (by decide) h
  simpa using this
theorem sub_len : ∀ (bs : List (List Int)) {acc : List (List (List Int))} {k : Nat}, (∀ x ∈ acc, x.length ≤ k) → ∀ x ∈ subG acc bs, x.length ≤ k + bs.length
  | [], _, _, h, x, hx => h x hx
  | b :: bs, acc, k, h, x, hx => by
    have := sub_len bs (acc := acc ++ acc.map fun x => x ++ [b]) (k := k + 1) (fun y hy => by
      rcases List.mem_append.mp hy with hy | hy
      · exact Nat.le_succ_of_le (h y hy)
      · obtain ⟨z, hz, rfl⟩ := List.mem_map.mp hy
        rw [List.length_append]
        exact Nat.add_le_add_right (h z hz) 1) x hx
    rw [List.length_cons]
    omega
def insS (x : List (List Int)) : List (List (List Int)) → List (List (List Int))
  | [] => [x]
  | y :: l => if HT.lexLt (kyB x) (kyB y) = true then x :: y :: l else y :: insS x l
def sortS (l : List (List (List Int))) : List (List (List Int)) := l.foldl (fun acc x => insS x acc) []
theorem insS_key (x : List (List Int)) : ∀ l, (insS x l).map kyB = insL (kyB x) (l.map kyB)
  | [] => rfl
  | y :: l => by
    unfold insS
    rw [List.map_cons]
    unfold insL
    split
    · rfl
    · rw [List.map_cons, insS_key x l]
theorem foldS_key : ∀ (l acc : List (List (List Int))), (l.foldl (fun acc x => insS x acc) acc).map kyB = (l.map kyB).foldl (fun acc x => insL x acc) (acc.map kyB)
  | [], _ => rfl
  | x :: l, acc => by
    show (l.foldl (fun acc x => insS x acc) (insS x acc)).map kyB = _
    rw [foldS_key l (insS x acc), insS_key]
    rfl
theorem sortS_key (l : List (List (List Int))) : (sortS l).map kyB = sortL (l.map kyB) := foldS_key l []
theorem insS_perm (x : List (List Int)) : ∀ l, (insS x l).Perm (x :: l)
  | [] => List.Perm.refl _
  | y :: l => by
    unfold insS
    split
    · exact List.Perm.refl _
    · exact ((insS_perm x l).cons y).trans (List.Perm.swap x y l)
theorem foldS_perm : ∀ (l acc : List (List (List Int))), (l.foldl (fun acc x => insS x acc) acc).Perm (l ++ acc)
  | [], acc => List.Perm.refl _
  | x :: l, acc => (foldS_perm l (insS x acc)).trans (((insS_perm x acc).append_left l).trans List.perm_middle)
theorem sortS_perm (l : List (List (List Int))) : (sortS l).Perm l := by
  have := foldS_perm l []
  rwa [List.append_nil] at this
theorem sortS_srt (l : List (List (List Int))) : (sortS l).Pairwise fun x y => HT.lexLt (kyB y) (kyB x) = false := by
  have h : SrtL ((sortS l).map kyB) := by rw [sortS_key]; exact sortL_srt _
  rw [SrtL, List.pairwise_map] at h
  exact h
theorem uS_all {x : List (List Int)} (h : AllP x) : isTB (uS x) = true ∧ (x.map uT).all isPosT = true := by
  have : (x.map uT).all isPosT = true := List.all_eq_true.mpr fun d hd => by
    obtain ⟨l, hl, rfl⟩ := List.mem_map.mp hd
    show (l.map D.int).all isPos = true
    exact List.all_eq_true.mpr fun e he => by
      obtain ⟨i, hi, rfl⟩ := List.mem_map.mp he
      exact decide_eq_true (h l hl i hi)
  exact ⟨this, this⟩
theorem sort_S {l : List (List (List Int))} {r : List (List (List Int))} (e : l = [] :: r) (h : ∀ x ∈ l, AllP x) : sortR (.lst (l.map uS)) = .ok (.lst ((sortS l).map uS)) := by
  have hs : sortable (l.map uS) = true := by
    have : sortB (l.map uS) = true := by
      rw [e]
      show (r.map uS).all isTB = true
      exact List.all_eq_true.mpr fun d hd => by
        obtain ⟨x, hx, rfl⟩ := List.mem_map.mp hd
        exact (uS_all (h x (by rw [e]; exact List.mem_cons_of_mem _ hx))).1
    unfold sortable
    rw [this]
    simp
  have e1 : l.map uS = (l.map kyB).map uB := by
    rw [List.map_map]
    exact List.map_congr_left fun x hx => (uB_eq (h x hx)).symm
  have e2 : sortD (l.map uS) = (sortS l).map uS := by
    rw [e1, sortD_map ltD_uB, ← sortS_key, List.map_map]
    · exact List.map_congr_left fun x hx => uB_eq (h x ((sortS_perm l).mem_iff.mp hx))
    · intro y hy
      obtain ⟨x, hx, rfl⟩ := List.mem_map.mp hy
      exact ⟨x, h x hx, rfl⟩
  show need (sortable (l.map uS)) (.ok (.lst (sortD (l.map uS)))) = _
  rw [hs, e2]
  rfl
def keyQ (x : List (List Int)) : List Int := (0 - (x.length : Int)) :: kyB x
theorem uQ_eq {x : List (List Int)} (h : AllP x) : uQ (keyQ x) = .tup [.int (0 - (x.length : Int)), uS x] := by
  show D.tup [.int (0 - (x.length : Int)), uB (kyB x)] = _
  rw [uB_eq h]
  rfl
theorem sort_Q {l : List (List (List Int))} (h : ∀ x ∈ l, AllP x) : sortR (.lst (l.map fun x => D.tup [.int (0 - (x.length : Int)), uS x])) = .ok (.lst ((sortL (l.map keyQ)).map uQ)) := by
  have hs : sortable (l.map fun x => D.tup [.int (0 - (x.length : Int)), uS x]) = true := by
    have : (l.map fun x => D.tup [.int (0 - (x.length : Int)), uS x]).all isIB = true := List.all_eq_true.mpr fun d hd => by
      obtain ⟨x, hx, rfl⟩ := List.mem_map.mp hd
      exact (uS_all (h x hx)).2
    unfold sortable
    rw [this]
    simp
  have e1 : (l.map fun x => D.tup [.int (0 - (x.length : Int)), uS x]) = (l.map keyQ).map uQ := by
    rw [List.map_map]
    exact List.map_congr_left fun x hx => (uQ_eq (h x hx)).symm
  have e2 : sortD (l.map fun x => D.tup [.int (0 - (x.length : Int)), uS x]) = (sortL (l.map keyQ)).map uQ := by
    rw [e1, sortD_map ltD_uQ]
    intro y hy
    obtain ⟨x, hx, rfl⟩ := List.mem_map.mp hy
    exact ⟨_, _, ⟨x, h x hx, rfl⟩, rfl⟩
  show need (sortable _) (.ok (.lst (sortD _))) = _
  rw [hs, e2]
  rfl
/-! the greatest safe one -/
def bestF (b : List (List Int)) (S : List (List (List Int))) : List (List Int) := S.foldl (fun b x => if (decide (b.length < x.length) && safeB x) = true then x else b) b
structure BestI (pre : List (List (List Int))) (b : List (List Int)) : Prop where
  is : b = [] ∨ (b ∈ pre ∧ safeB b = true)
  le : ∀ x ∈ pre, safeB x = true → x.length ≤ b.length ∧ (x.length = b.length → x ≠ [] → HT.lexLt (kyB x) (kyB b) = false)
theorem best_go : ∀ (post pre : List (List (List Int))) (b : List (List Int)), (pre ++ post).Pairwise (fun x y => HT.lexLt (kyB y) (kyB x) = false) → BestI pre b → BestI (pre ++ post) (bestF b post)
  | [], pre, b, _, h => by rw [List.append_nil]; exact h
  | x :: post, pre, b, hs, h => by
    have hx : ∀ y ∈ pre, HT.lexLt (kyB x) (kyB y) = false := fun y hy => (List.pairwise_append.mp hs).2.2 y hy x List.mem_cons_self
    have e : pre ++ x :: post = (pre ++ [x]) ++ post := by rw [List.append_assoc]; rfl
    have step : BestI (pre ++ [x]) (if (decide (b.length < x.length) && safeB x) = true then x else b) := by
      by_cases c : (decide (b.length < x.length) && safeB x) = true
      · rw [if_pos c]
        rw [Bool.and_eq_true] at c
        have c1 := of_decide_eq_true c.1
        refine ⟨.inr ⟨List.mem_append_right _ List.mem_cons_self, c.2⟩, fun y hy hz => ?_⟩
        rcases List.mem_append.mp hy with hy | hy
        · have := (h.le y hy hz).1
          exact ⟨by omega, fun z => by omega⟩
        · rw [List.mem_singleton.mp hy]
          exact ⟨Nat.le_refl _, fun _ _ => lex_irr _⟩
      · rw [if_neg c]
        refine ⟨h.is.imp id fun z => ⟨List.mem_append_left _ z.1, z.2⟩, fun y hy hz => ?_⟩
        rcases List.mem_append.mp hy with hy | hy
        · exact h.le y hy hz
        · rw [List.mem_singleton.mp hy] at hz ⊢
          have c2 : ¬ b.length < x.length := fun z => c (by rw [decide_eq_true z, hz]; rfl)
          refine ⟨by omega, fun el ne => ?_⟩
          rcases h.is with rfl | h3
          · have : x.length = 0 := el
            exact absurd (List.eq_nil_of_length_eq_zero this) ne
          · exact hx b h3.1
    rw [e] at hs ⊢
    exact best_go post (pre ++ [x]) _ hs step
theorem best_all (l : List (List (List Int))) : BestI (sortS l) (bestF [] (sortS l)) := by
  have := best_go (sortS l) [] [] (by rw [List.nil_append]; exact sortS_srt l) ⟨.inl rfl, fun x hx => absurd hx List.not_mem_nil⟩
  rwa [List.nil_append] at this
theorem safe_one (n : List Int) : safeB [n] = true := by
  unfold safeB clash
  simp
theorem best_in {bs : List (List Int)} (hn : bs ≠ []) : bestF [] (sortS (subL bs)) ≠ [] ∧ bestF [] (sortS (subL bs)) ∈ subL bs ∧ safeB (bestF [] (sortS (subL bs))) = true := by
  have h := best_all (subL bs)
  obtain ⟨n, r, rfl⟩ : ∃ n r, bs = n :: r := by
    cases bs with
    | nil => exact absurd rfl hn
    | cons n r => exact ⟨n, r, rfl⟩
  have h1 : [n] ∈ subL (n :: r) := by
    unfold subL
    show [n] ∈ subG ([[]] ++ ([[]] : List (List (List Int))).map fun x => x ++ [n]) r
    exact subG_keep r (List.mem_append_right _ List.mem_cons_self)
  have h2 := (h.le [n] ((sortS_perm _).mem_iff.mpr h1) (safe_one n)).1
  have h3 : bestF [] (sortS (subL (n :: r))) ≠ [] := fun z => by
    rw [z] at h2
    exact absurd h2 (by simp)
  rcases h.is with z | z
  · exact absurd z h3
  · exact ⟨h3, (sortS_perm _).mem_iff.mp z.1, z.2⟩
def goodL (bs : List (List Int)) : List (List (List Int)) := (subL bs).filter fun x => !decide (x = []) && safeB x
theorem good_head {bs : List (List Int)} (hn : bs ≠ []) : ∃ r, sortL ((goodL bs).map keyQ) = keyQ (bestF [] (sortS (subL bs))) :: r := by
  obtain ⟨b1, b2, b3⟩ := best_in hn
  have h := best_all (subL bs)
  generalize bestF [] (sortS (subL bs)) = b at *
  have hb : keyQ b ∈ (goodL bs).map keyQ := List.mem_map.mpr ⟨b, List.mem_filter.mpr ⟨b2, by rw [decide_eq_false b1, b3]; rfl⟩, rfl⟩
  have hle : ∀ k ∈ (goodL bs).map keyQ, HT.lexLt k (keyQ b) = false := fun k hk => by
    obtain ⟨x, hx, rfl⟩ := List.mem_map.mp hk
    obtain ⟨x1, x2⟩ := List.mem_filter.mp hx
    rw [Bool.and_eq_true, Bool.not_eq_true', decide_eq_false_iff_not] at x2
    obtain ⟨l1, l2⟩ := h.le x ((sortS_perm _).mem_iff.mpr x1) x2.2
    unfold keyQ
    rw [HT.lexLt_cons]
    by_cases e : x.length = b.length
    · rw [if_pos (by rw [e])]
      exact l2 e x2.1
    · rw [if_neg (by omega)]
      exact decide_eq_false (by omega)
  cases e : sortL ((goodL bs).map keyQ) with
  | nil =>
    have := (sortL_perm ((goodL bs).map keyQ)).mem_iff.mpr hb
    rw [e] at this
    cases this
  | cons k r =>
    refine ⟨r, ?_⟩
    have h1 : k ∈ (goodL bs).map keyQ := (sortL_perm _).mem_iff.mp (by rw [e]; exact List.mem_cons_self)
    have h2 : keyQ b ∈ k :: r := by rw [← e]; exact (sortL_perm _).mem_iff.mpr hb
    have hs := sortL_srt ((goodL bs).map keyQ)
    rw [e] at hs
    rcases List.mem_cons.mp h2 with z | z
    · rw [z]
    · rw [lex_anti (hle k h1) ((List.pairwise_cons.mp hs).1 _ z)]
theorem srt_step {l : List (List Int)} {b : List Int} (hb : b ∈ l) (h : ∀ x ∈ l, HT.lexLt (key x) (key b) = false) : srt l = b :: srt (l.erase b) := by
  have e : sortL (l.map key) = key b :: sortL ((l.erase b).map key) := by
    refine srtL_uniq (sortL_srt _) (List.pairwise_cons.mpr ⟨fun z hz => ?_, sortL_srt _⟩) ?_
    · obtain ⟨x, hx, rfl⟩ := List.mem_map.mp ((sortL_perm _).mem_iff.mp hz)
      exact h x (List.mem_of_mem_erase hx)
    · refine (sortL_perm _).trans (((List.perm_cons_erase hb).map key).trans ?_)
      rw [List.map_cons]
      exact ((sortL_perm _).symm).cons _
  unfold srt
  rw [e]
  rfl
/-- the best one is told by what it is -/
theorem best_eq {bs b : List (List Int)} (hn : bs ≠ []) (hA : ∀ x ∈ subL bs, AllP x) (h0 : b ≠ []) (h1 : b ∈ subL bs) (h2 : safeB b = true) (h3 : ∀ x ∈ subL bs, safeB x = true → x.length ≤ b.length ∧ (x.length = b.length → HT.lexLt (kyB x) (kyB b) = false)) : bestF [] (sortS (subL bs)) = b := by
  have h := best_all (subL bs)
  obtain ⟨b1, b2, b3⟩ := best_in hn
  generalize bestF [] (sortS (subL bs)) = c at *
  have k1 := h.le b ((sortS_perm _).mem_iff.mpr h1) h2
  have k2 := h3 c b2 b3
  have el : b.length = c.length := by omega
  exact kyB_inj (hA c b2) (hA b h1) (lex_anti (k2.2 el.symm) (k1.2 el h0))
end Lw

namespace Lw
open PySem PySem.Spec L2 Li
open PyProof.Rows hiding St
/-! ### safest -/
theorem lenS (x : List (List Int)) : lenR (uS x) = .ok (.int x.length) := ln_T x
theorem addS (x : List (List Int)) (n : List Int) (h : x.length < 1000000) : addR (uS x) (.tup [uT n]) = .ok (uS (x ++ [n])) := addT1 x n h
theorem neS0 (x : List (List Int)) : neR (uS x) (.tup []) = .ok (.bl (!decide (x = []))) := g_neT0 (f := uT) x (by decide)
theorem sub_AN {bs : List (List Int)} (hA : ∀ l ∈ bs, l ∈ AN) : ∀ x ∈ subL bs, ∀ n ∈ x, n ∈ AN := subG_mem bs (acc := [[]]) (S := fun n => n ∈ AN) (fun x hx n hn => by rw [List.mem_singleton.mp hx] at hn; cases hn) hA
theorem sub_P {bs : List (List Int)} (hA : ∀ l ∈ bs, l ∈ AN) : ∀ x ∈ subL bs, AllP x := fun x hx n hn => AN_pos n (sub_AN hA x hx n hn)
theorem sub_8 {bs : List (List Int)} (h8 : bs.length ≤ 8) : ∀ x ∈ subL bs, x.length ≤ 8 := fun x hx => by
  have := sub_len bs (acc := [[]]) (k := 0) (fun y hy => by rw [List.mem_singleton.mp hy]; exact Nat.le_refl _) x hx
  omega
theorem bestF_snoc (pre : List (List (List Int))) (x : List (List Int)) : bestF [] (pre ++ [x]) = if (decide ((bestF [] pre).length < x.length) && safeB x) = true then x else bestF [] pre := by
  unfold bestF
  rw [List.foldl_append]
  rfl
theorem safest_gen {bs : List (List Int)} (hA : ∀ l ∈ bs, l ∈ AN) (h8 : bs.length ≤ 8) (m : Nat) (hnb : callF C T (m + 4) 10 [.tup (bs.map uT)] = .ok .non) : callF C T (m + 5) 19 [.tup (bs.map uT)] = .ok (uS (bestF [] (sortS (subL bs)))) := by
  obtain ⟨en', e3, o3, rfl⟩ := loop_pre (C := C) (cf := callF C T (m + 4)) (s := s_safest_3) (enc := uT) (l := bs) (env := [some (.tup (bs.map uT)), some (.tup []), some (.lst ((subL []).map uS)), none, none])
    (fun pre en => ∃ o3, en = [some (.tup (bs.map uT)), some (.tup []), some (.lst ((subL pre).map uS)), o3, none]) rfl (by kernel_rfl) ⟨_, rfl⟩ (by
      rintro pre n post en hk ⟨o3, rfl⟩
      have hpre : pre.length ≤ 8 := by
        have := congrArg List.length hk
        rw [List.length_append] at this
        omega
      have hz := sub_sizes pre hpre
      have hadd : ∀ x ∈ subL pre, addR (uS x) (.tup [uT n]) = .ok (uS (x ++ [n])) := fun x hx => addS x n (by have := sub_8 hpre x hx; omega)
      have f1 : ((subL pre).map fun x => uS (x ++ [n])) = ((subL pre).map fun x => x ++ [n]).map uS := by rw [List.map_map]; rfl
      have happ := addL (f := uS) (subL pre) ((subL pre).map fun x => x ++ [n]) (by rw [List.length_map]; omega)
      have e2 : subL (pre ++ [n]) = subL pre ++ (subL pre).map fun x => x ++ [n] := subG_snoc _ _ _
      refine ⟨_, ?_, some (uT n), rfl⟩
      rw [e2]
      simp -implicitDefEqProofs (disch := first | assumption | omega) only [forB, s_safest_3, Sm.tg, Sm.inn, s_safest_3_0, exes, exe_asg, exe_asgt, exe_setix, exe_mut, exe_expr, exe_ret, exe_cond, exe_rais, exe_pass, exe_tryr, bnd_ex, out_ex, asB_ex, notR_ex, isi_no, isi_bt, isi_bi, isi_bp, isi_si, isi_st, isi_li, isi_lt, isi_ti, isi_it, nl0, tl0, ll0, nl1, tl1, ll1, nl2, tl2, ll2, nl3, tl3, ll3, nl4, tl4, ll4, nl5, tl5, ll5, nl6, tl6, ll6, nl7, tl7, ll7, nl8, tl8, ll8, ev, evs, evo, evi, evB, En.get, bnd_ok, out_ok, asB_ok, asOI_ok, notR_ok, Cn.d, List.getElem?_cons_zero, List.getElem?_cons_succ, List.set_cons_zero, List.set_cons_succ, bltR, cmpR, isi_u2, isi_u3, isi_uT, isi_T, isi_I, isi_I', isi2R, len_u2, len_u3, len_uT, ln_L, ln_T, ix_u2a, ix_u2b, ix_u3a, ix_u3b, ix_u3c, decide_true, decide_false, eq_self, seq_uT, seq_L, seq_T, sr_uT, sr_L, sr_T, bindT_n, bindT_t, setAll, bindT2, bindT3, wipeD, List.map_cons, List.map_nil, tupleR, listR, intR, outR, addD, mulD, addI, binR_sub, negR, if_true, if_false, Int.reduceToNat, Int.reduceEq, Int.reduceLT, Int.reduceLE, Bool.false_eq_true, Bool.true_eq_false, Bool.not_true, Bool.not_false, lcGo_A, lcA_some, lcA_if, lcA_none, lcI_some, lcI_if, lcI_none, need_len, lcGo_nilA, lcGo_consA, and_ok, or_ok, chain_ok, slcTo_L, slcTo_T, slcFrom_L, slcFrom_T, rev_T, rev_L, Bool.true_and, Bool.and_true, Bool.false_and, Bool.and_false, Bool.true_or, Bool.or_true, Bool.false_or, Bool.or_false, mulL0, mulL1, addL0, addL1, appL, extL, allR_t, tupU2, tupU3, eqI, neI, eqN, neN, eqL00, neL00, eqT00, neT00, eqB, neB, eqL, neL, g_eqT, g_neT, eqL0, neL0, g_eqT0, g_neT0, inL, inT, memB_t, memB_f, cg_0, cg_1, cg_2, cg_3, cg_4, cg_5, cg_6, hadd, f1, happ])
  have hz := sub_sizes bs h8
  obtain ⟨r, hr⟩ := subG_head bs (acc := [[]]) (x := []) (r := []) rfl
  have hsort := sort_S (l := subL bs) hr (sub_P hA)
  have hS : ∀ x ∈ sortS (subL bs), x ∈ subL bs := fun x hx => (sortS_perm _).mem_iff.mp hx
  obtain ⟨en', e4, o4, rfl⟩ := loop_pre (C := C) (cf := callF C T (m + 4)) (s := s_safest_4) (enc := uS) (l := sortS (subL bs)) (env := [some (.tup (bs.map uT)), some (uS (bestF [] [])), some (.lst ((subL bs).map uS)), o3, none])
    (fun pre en => ∃ o4, en = [some (.tup (bs.map uT)), some (uS (bestF [] pre)), some (.lst ((subL bs).map uS)), o3, o4]) rfl (by simp -implicitDefEqProofs (disch := first | assumption | omega) only [s_safest_4, Sm.itx, exes, exe_asg, exe_asgt, exe_setix, exe_mut, exe_expr, exe_ret, exe_cond, exe_rais, exe_pass, exe_tryr, bnd_ex, out_ex, asB_ex, notR_ex, isi_no, isi_bt, isi_bi, isi_bp, isi_si, isi_st, isi_li, isi_lt, isi_ti, isi_it, nl0, tl0, ll0, nl1, tl1, ll1, nl2, tl2, ll2, nl3, tl3, ll3, nl4, tl4, ll4, nl5, tl5, ll5, nl6, tl6, ll6, nl7, tl7, ll7, nl8, tl8, ll8, ev, evs, evo, evi, evB, En.get, bnd_ok, out_ok, asB_ok, asOI_ok, notR_ok, Cn.d, List.getElem?_cons_zero, List.getElem?_cons_succ, List.set_cons_zero, List.set_cons_succ, bltR, cmpR, isi_u2, isi_u3, isi_uT, isi_T, isi_I, isi_I', isi2R, len_u2, len_u3, len_uT, ln_L, ln_T, ix_u2a, ix_u2b, ix_u3a, ix_u3b, ix_u3c, decide_true, decide_false, eq_self, seq_uT, seq_L, seq_T, sr_uT, sr_L, sr_T, bindT_n, bindT_t, setAll, bindT2, bindT3, wipeD, List.map_cons, List.map_nil, tupleR, listR, intR, outR, addD, mulD, addI, binR_sub, negR, if_true, if_false, Int.reduceToNat, Int.reduceEq, Int.reduceLT, Int.reduceLE, Bool.false_eq_true, Bool.true_eq_false, Bool.not_true, Bool.not_false, lcGo_A, lcA_some, lcA_if, lcA_none, lcI_some, lcI_if, lcI_none, need_len, lcGo_nilA, lcGo_consA, and_ok, or_ok, chain_ok, slcTo_L, slcTo_T, slcFrom_L, slcFrom_T, rev_T, rev_L, Bool.true_and, Bool.and_true, Bool.false_and, Bool.and_false, Bool.true_or, Bool.or_true, Bool.false_or, Bool.or_false, mulL0, mulL1, addL0, addL1, appL, extL, allR_t, tupU2, tupU3, eqI, neI, eqN, neN, eqL00, neL00, eqT00, neT00, eqB, neB, eqL, neL, g_eqT, g_neT, eqL0, neL0, g_eqT0, g_neT0, inL, inT, memB_t, memB_f, cg_0, cg_1, cg_2, cg_3, cg_4, cg_5, cg_6, hsort]) ⟨_, rfl⟩ (by
      rintro pre x post en hk ⟨o4, rfl⟩
      have hx : x ∈ subL bs := hS x (by rw [← hk]; simp)
      have h1 : callF C T (m + 4) 16 [uS x] = .ok (.bl (safeB x)) := aresafe_ok (sub_AN hA x hx) (by have := sub_8 h8 x hx; omega) (m + 2)
      rw [bestF_snoc]
      by_cases c : (bestF [] pre).length < x.length
      · rw [decide_eq_true c, Bool.true_and]
        have c' : (((bestF [] pre).length : Nat) : Int) < ((x.length : Nat) : Int) := by omega
        cases hs : safeB x with
        | true =>
          rw [hs] at h1
          refine ⟨_, ?_, some (uS x), rfl⟩
          simp -implicitDefEqProofs (disch := first | assumption | omega) only [forB, s_safest_4, Sm.tg, Sm.inn, s_safest_4_0_0, s_safest_4_0, exes, exe_asg, exe_asgt, exe_setix, exe_mut, exe_expr, exe_ret, exe_cond, exe_rais, exe_pass, exe_tryr, bnd_ex, out_ex, asB_ex, notR_ex, isi_no, isi_bt, isi_bi, isi_bp, isi_si, isi_st, isi_li, isi_lt, isi_ti, isi_it, nl0, tl0, ll0, nl1, tl1, ll1, nl2, tl2, ll2, nl3, tl3, ll3, nl4, tl4, ll4, nl5, tl5, ll5, nl6, tl6, ll6, nl7, tl7, ll7, nl8, tl8, ll8, ev, evs, evo, evi, evB, En.get, bnd_ok, out_ok, asB_ok, asOI_ok, notR_ok, Cn.d, List.getElem?_cons_zero, List.getElem?_cons_succ, List.set_cons_zero, List.set_cons_succ, bltR, cmpR, isi_u2, isi_u3, isi_uT, isi_T, isi_I, isi_I', isi2R, len_u2, len_u3, len_uT, ln_L, ln_T, ix_u2a, ix_u2b, ix_u3a, ix_u3b, ix_u3c, decide_true, decide_false, eq_self, seq_uT, seq_L, seq_T, sr_uT, sr_L, sr_T, bindT_n, bindT_t, setAll, bindT2, bindT3, wipeD, List.map_cons, List.map_nil, tupleR, listR, intR, outR, addD, mulD, addI, binR_sub, negR, if_true, if_false, Int.reduceToNat, Int.reduceEq, Int.reduceLT, Int.reduceLE, Bool.false_eq_true, Bool.true_eq_false, Bool.not_true, Bool.not_false, lcGo_A, lcA_some, lcA_if, lcA_none, lcI_some, lcI_if, lcI_none, need_len, lcGo_nilA, lcGo_consA, and_ok, or_ok, chain_ok, slcTo_L, slcTo_T, slcFrom_L, slcFrom_T, rev_T, rev_L, Bool.true_and, Bool.and_true, Bool.false_and, Bool.and_false, Bool.true_or, Bool.or_true, Bool.false_or, Bool.or_false, mulL0, mulL1, addL0, addL1, appL, extL, allR_t, tupU2, tupU3, eqI, neI, eqN, neN, eqL00, neL00, eqT00, neT00, eqB, neB, eqL, neL, g_eqT, g_neT, eqL0, neL0, g_eqT0, g_neT0, inL, inT, memB_t, memB_f, cg_0, cg_1, cg_2, cg_3, cg_4, cg_5, cg_6, lenS, ltI_t, h1]
        | false =>
          rw [hs] at h1
          refine ⟨_, ?_, some (uS x), rfl⟩
          simp -implicitDefEqProofs (disch := first | assumption | omega) only [forB, s_safest_4, Sm.tg, Sm.inn, s_safest_4_0_0, s_safest_4_0, exes, exe_asg, exe_asgt, exe_setix, exe_mut, exe_expr, exe_ret, exe_cond, exe_rais, exe_pass, exe_tryr, bnd_ex, out_ex, asB_ex, notR_ex, isi_no, isi_bt, isi_bi, isi_bp, isi_si, isi_st, isi_li, isi_lt, isi_ti, isi_it, nl0, tl0, ll0, nl1, tl1, ll1, nl2, tl2, ll2, nl3, tl3, ll3, nl4, tl4, ll4, nl5, tl5, ll5, nl6, tl6, ll6, nl7, tl7, ll7, nl8, tl8, ll8, ev, evs, evo, evi, evB, En.get, bnd_ok, out_ok, asB_ok, asOI_ok, notR_ok, Cn.d, List.getElem?_cons_zero, List.getElem?_cons_succ, List.set_cons_zero, List.set_cons_succ, bltR, cmpR, isi_u2, isi_u3, isi_uT, isi_T, isi_I, isi_I', isi2R, len_u2, len_u3, len_uT, ln_L, ln_T, ix_u2a, ix_u2b, ix_u3a, ix_u3b, ix_u3c, decide_true, decide_false, eq_self, seq_uT, seq_L, seq_T, sr_uT, sr_L, sr_T, bindT_n, bindT_t, setAll, bindT2, bindT3, wipeD, List.map_cons, List.map_nil, tupleR, listR, intR, outR, addD, mulD, addI, binR_sub, negR, if_true, if_false, Int.reduceToNat, Int.reduceEq, Int.reduceLT, Int.reduceLE, Bool.false_eq_true, Bool.true_eq_false, Bool.not_true, Bool.not_false, lcGo_A, lcA_some, lcA_if, lcA_none, lcI_some, lcI_if, lcI_none, need_len, lcGo_nilA, lcGo_consA, and_ok, or_ok, chain_ok, slcTo_L, slcTo_T, slcFrom_L, slcFrom_T, rev_T, rev_L, Bool.true_and, Bool.and_true, Bool.false_and, Bool.and_false, Bool.true_or, Bool.or_true, Bool.false_or, Bool.or_false, mulL0, mulL1, addL0, addL1, appL, extL, allR_t, tupU2, tupU3, eqI, neI, eqN, neN, eqL00, neL00, eqT00, neT00, eqB, neB, eqL, neL, g_eqT, g_neT, eqL0, neL0, g_eqT0, g_neT0, inL, inT, memB_t, memB_f, cg_0, cg_1, cg_2, cg_3, cg_4, cg_5, cg_6, lenS, ltI_t, h1]
      · rw [decide_eq_false c, Bool.false_and]
        have c' : ((x.length : Nat) : Int) ≤ (((bestF [] pre).length : Nat) : Int) := by omega
        refine ⟨_, ?_, some (uS x), rfl⟩
        simp -implicitDefEqProofs (disch := first | assumption | omega) only [forB, s_safest_4, Sm.tg, Sm.inn, s_safest_4_0_0, s_safest_4_0, exes, exe_asg, exe_asgt, exe_setix, exe_mut, exe_expr, exe_ret, exe_cond, exe_rais, exe_pass, exe_tryr, bnd_ex, out_ex, asB_ex, notR_ex, isi_no, isi_bt, isi_bi, isi_bp, isi_si, isi_st, isi_li, isi_lt, isi_ti, isi_it, nl0, tl0, ll0, nl1, tl1, ll1, nl2, tl2, ll2, nl3, tl3, ll3, nl4, tl4, ll4, nl5, tl5, ll5, nl6, tl6, ll6, nl7, tl7, ll7, nl8, tl8, ll8, ev, evs, evo, evi, evB, En.get, bnd_ok, out_ok, asB_ok, asOI_ok, notR_ok, Cn.d, List.getElem?_cons_zero, List.getElem?_cons_succ, List.set_cons_zero, List.set_cons_succ, bltR, cmpR, isi_u2, isi_u3, isi_uT, isi_T, isi_I, isi_I', isi2R, len_u2, len_u3, len_uT, ln_L, ln_T, ix_u2a, ix_u2b, ix_u3a, ix_u3b, ix_u3c, decide_true, decide_false, eq_self, seq_uT, seq_L, seq_T, sr_uT, sr_L, sr_T, bindT_n, bindT_t, setAll, bindT2, bindT3, wipeD, List.map_cons, List.map_nil, tupleR, listR, intR, outR, addD, mulD, addI, binR_sub, negR, if_true, if_false, Int.reduceToNat, Int.reduceEq, Int.reduceLT, Int.reduceLE, Bool.false_eq_true, Bool.true_eq_false, Bool.not_true, Bool.not_false, lcGo_A, lcA_some, lcA_if, lcA_none, lcI_some, lcI_if, lcI_none, need_len, lcGo_nilA, lcGo_consA, and_ok, or_ok, chain_ok, slcTo_L, slcTo_T, slcFrom_L, slcFrom_T, rev_T, rev_L, Bool.true_and, Bool.and_true, Bool.false_and, Bool.and_false, Bool.true_or, Bool.or_true, Bool.false_or, Bool.or_false, mulL0, mulL1, addL0, addL1, appL, extL, allR_t, tupU2, tupU3, eqI, neI, eqN, neN, eqL00, neL00, eqT00, neT00, eqB, neB, eqL, neL, g_eqT, g_neT, eqL0, neL0, g_eqT0, g_neT0, inL, inT, memB_t, memB_f, cg_0, cg_1, cg_2, cg_3, cg_4, cg_5, cg_6, lenS, ltI_f])
  have e0 : callF C T (m + 5) 19 [.tup (bs.map uT)] = outR (exes C (callF C T (m + 4)) (.cons s_safest_0 (.cons s_safest_1 (.cons s_safest_2 (.cons s_safest_3 (.cons s_safest_4 (.cons s_safest_5 .nil)))))) [some (.tup (bs.map uT)), none, none, none, none]) := by kernel_rfl
  have s0 : exe C (callF C T (m + 4)) s_safest_0 [some (.tup (bs.map uT)), none, none, none, none] = .nx [some (.tup (bs.map uT)), none, none, none, none] := expr_nx hnb
  have s1 : exe C (callF C T (m + 4)) s_safest_1 [some (.tup (bs.map uT)), none, none, none, none] = .nx [some (.tup (bs.map uT)), some (.tup []), none, none, none] := by kernel_rfl
  have s2 : exe C (callF C T (m + 4)) s_safest_2 [some (.tup (bs.map uT)), some (.tup []), none, none, none] = .nx [some (.tup (bs.map uT)), some (.tup []), some (.lst ((subL []).map uS)), none, none] := by kernel_rfl
  have e4' : exe C (callF C T (m + 4)) s_safest_4 [some (.tup (bs.map uT)), some (.tup []), some (.lst ((subL bs).map uS)), o3, none] = _ := e4
  have s5 : exe C (callF C T (m + 4)) s_safest_5 [some (.tup (bs.map uT)), some (uS (bestF [] (sortS (subL bs)))), some (.lst ((subL bs).map uS)), o3, o4] = .ret (uS (bestF [] (sortS (subL bs)))) := by kernel_rfl
  rw [e0, exes_nx s0, exes_nx s1, exes_nx s2, exes_nx e3, exes_nx e4', exes_ret s5]
  rfl
end Lw

namespace Lw
open PySem PySem.Spec L2 Li
open PyProof.Rows hiding St
/-! ### books of any numbers, and whether they are safe -/
structure BkA (bs : List (List Int)) : Prop where
  mem : ∀ l ∈ bs, l ∈ AN
  pos : 1 ≤ bs.length
  few : bs.length ≤ 8
  inc : bs.Pairwise fun x y => HT.lexLt x y = true
theorem Bk.any {bs : List (List Int)} (h : Bk bs) : BkA bs := ⟨fun l hl => NL_AN l (h.mem l hl), h.pos, h.few, h.inc⟩
theorem BkA.nodup {bs : List (List Int)} (h : BkA bs) : bs.Nodup := h.inc.imp fun {x y} e z => by
  subst z
  rw [lex_irr] at e
  cases e
theorem isnumA (m : Nat) : AN.map (fun l => callF C T (m + 2) 1 [uT l]) = AN.map (fun _ => .ok (.bl true)) := by kernel_rfl
theorem neednumA (m : Nat) : AN.map (fun l => callF C T (m + 3) 2 [uT l]) = AN.map (fun _ => .ok .non) := by kernel_rfl
theorem needroundA (m : Nat) : AN.map (fun l => callF C T (m + 3) 8 [uT l]) = AN.map (fun _ => .ok .non) := by kernel_rfl
theorem longA (m : Nat) : AN.map (fun l => callF C T (m + 4) 5 [uT l, .int 1]) = AN.map (fun l => .ok (.int (bl l))) := by kernel_rfl
theorem isbookA {bs : List (List Int)} (hb : BkA bs) (m : Nat) : callF C T (m + 3) 9 [.tup (bs.map uT)] = .ok (.bl true) := by
  have eb : b_is_book = .cons (b_is_book.nth 0) (.cons (b_is_book.nth 1) (.cons (b_is_book.nth 2) .nil)) := by kernel_rfl
  have e0 : callF C T (m + 3) 9 [.tup (bs.map uT)] = outR (exes C (callF C T (m + 2)) b_is_book [some (.tup (bs.map uT)), none, none]) := by kernel_rfl
  have s0 : exe C (callF C T (m + 2)) (b_is_book.nth 0) [some (.tup (bs.map uT)), none, none] = .nx [some (.tup (bs.map uT)), none, none] := by
    refine cond_no ?_
    have e1 : ev C (callF C T (m + 2)) (b_is_book.nth 0).ex [some (.tup (bs.map uT)), none, none] = (asB (notR ((asB (leR (.int 1) (.int ((bs.map uT).length : Nat)))).bind fun t => if t = true then leR (.int ((bs.map uT).length : Nat)) (.int 8) else .ok (.bl false)))).bind fun u => .ok (.bl u) := by kernel_rfl
    refine Eq.trans e1 ?_
    have e2 : leR (.int 1) (.int ((bs.map uT).length : Nat)) = .ok (.bl true) := by
      show Res.ok (D.bl (decide _)) = _
      rw [decide_eq_true]
      rw [List.length_map]
      have := hb.pos
      omega
    have e3 : leR (.int ((bs.map uT).length : Nat)) (.int 8) = .ok (.bl true) := by
      show Res.ok (D.bl (decide _)) = _
      rw [decide_eq_true]
      rw [List.length_map]
      have := hb.few
      omega
    rw [e2, e3]
    rfl
  have s1 : exe C (callF C T (m + 2)) (b_is_book.nth 1) [some (.tup (bs.map uT)), none, none] = .nx [some (.tup (bs.map uT)), none, none] := by
    refine cond_no ?_
    have e1 : ev C (callF C T (m + 2)) (b_is_book.nth 1).ex [some (.tup (bs.map uT)), none, none] = notR ((ev C (callF C T (m + 2)) (b_is_book.nth 1).ex.a0.a1 [some (.tup (bs.map uT)), none, none]).bind allR) := by kernel_rfl
    refine Eq.trans e1 ?_
    have e2 : ev C (callF C T (m + 2)) (b_is_book.nth 1).ex.a0.a1 [some (.tup (bs.map uT)), none, none] = .ok (.lst (bs.map fun _ => .bl true)) :=
      lcs_mapM (f := uT) (by kernel_rfl) (by kernel_rfl) (by have := hb.few; omega) fun l hl => by
        have e3 : lcT C (callF C T (m + 2)) [some (.tup (bs.map uT)), none, none] (uT l) (b_is_book.nth 1).ex.a0.a1 = (callF C T (m + 2) 1 [uT l]).bind fun y => .ok (some y) := by kernel_rfl
        rw [e3, map_all (isnumA m) l (hb.mem l hl)]
        rfl
    rw [e2, bnd_ok, allR_true fun y hy => by obtain ⟨x, _, rfl⟩ := List.mem_map.mp hy; rfl]
    rfl
  have s2 : exe C (callF C T (m + 2)) (b_is_book.nth 2) [some (.tup (bs.map uT)), none, none] = .ret (.bl true) := by
    refine ret_of (?_ : ev C (callF C T (m + 2)) (b_is_book.nth 2).ex [some (.tup (bs.map uT)), none, none] = _)
    have e1 : ev C (callF C T (m + 2)) (b_is_book.nth 2).ex [some (.tup (bs.map uT)), none, none] = (ev C (callF C T (m + 2)) (b_is_book.nth 2).ex.a1 [some (.tup (bs.map uT)), none, none]).bind allR := by kernel_rfl
    have e2 : evi C (callF C T (m + 2)) (b_is_book.nth 2).ex.a1.lit [some (.tup (bs.map uT)), none, none] = .ok (zipD (bs.map uT) (cutD (bs.map uT) (some 1) none)) := by kernel_rfl
    have e3 : cutD (bs.map uT) (some 1) none = (bs.map uT).drop 1 := by
      cases bs with
      | nil => exact absurd hb.pos (by decide)
      | cons b r => exact cutD_tail _ _
    rw [e3] at e2
    obtain ⟨ys, g1, g2, g3⟩ := lcs_ex (R := fun y => y = .bl true) (e := (b_is_book.nth 2).ex.a1) (by kernel_rfl) e2 (by
      rw [zip_len]
      have := hb.few
      rw [List.length_map]
      omega) (by
      intro d hd
      obtain ⟨x, y, rfl, hxy⟩ := zip_adj hb.inc d hd
      refine ⟨.bl true, ?_, rfl⟩
      have e4 : lcT C (callF C T (m + 2)) [some (.tup (bs.map uT)), none, none] (.tup [uT x, uT y]) (b_is_book.nth 2).ex.a1 = (ltR (uT x) (uT y)).bind fun y => .ok (some y) := by kernel_rfl
      rw [e4, ltR_uT, hxy]
      rfl)
    rw [e1, g1, bnd_ok]
    exact allR_true g3
  rw [e0, eb, exes_nx s0, exes_nx s1, exes_ret s2]
  rfl
theorem needbookA {bs : List (List Int)} (hb : BkA bs) (m : Nat) : callF C T (m + 4) 10 [.tup (bs.map uT)] = .ok .non := by
  have e0 : callF C T (m + 4) 10 [.tup (bs.map uT)] = outR (exes C (callF C T (m + 3)) b_need_book [some (.tup (bs.map uT))]) := by kernel_rfl
  have eb : b_need_book = .cons (b_need_book.nth 0) .nil := by kernel_rfl
  have s0 : exe C (callF C T (m + 3)) (b_need_book.nth 0) [some (.tup (bs.map uT))] = .nx [some (.tup (bs.map uT))] := by
    refine cond_no ?_
    have e1 : ev C (callF C T (m + 3)) (b_need_book.nth 0).ex [some (.tup (bs.map uT))] = notR (callF C T (m + 3) 9 [.tup (bs.map uT)]) := by kernel_rfl
    refine Eq.trans e1 ?_
    rw [isbookA hb m]
    rfl
  rw [e0, eb, exes_nx s0, exes_nil]
  rfl
theorem lateA {l p : List Int} (hl : l ∈ AN) (hp : p ∈ AN) (m : Nat) : callF C T (m + 4) 12 [uT l, uT p] = .ok (.bl (decide (p ∈ cutL l))) := by
  have e0 : callF C T (m + 4) 12 [uT l, uT p] = outR (exes C (callF C T (m + 3)) b_late [some (uT l), some (uT p)]) := by kernel_rfl
  have eb : b_late = .cons (b_late.nth 0) (.cons (b_late.nth 1) (.cons (b_late.nth 2) .nil)) := by kernel_rfl
  have s0 : exe C (callF C T (m + 3)) (b_late.nth 0) [some (uT l), some (uT p)] = .nx [some (uT l), some (uT p)] := by
    have e1 : ev C (callF C T (m + 3)) (b_late.nth 0).ex [some (uT l), some (uT p)] = callF C T (m + 3) 2 [uT l] := by kernel_rfl
    exact expr_nx (e1.trans (map_all (neednumA m) l hl))
  have s1 : exe C (callF C T (m + 3)) (b_late.nth 1) [some (uT l), some (uT p)] = .nx [some (uT l), some (uT p)] := by
    have e1 : ev C (callF C T (m + 3)) (b_late.nth 1).ex [some (uT l), some (uT p)] = callF C T (m + 3) 8 [uT p] := by kernel_rfl
    exact expr_nx (e1.trans (map_all (needroundA m) p hp))
  have s2 : exe C (callF C T (m + 3)) (b_late.nth 2) [some (uT l), some (uT p)] = .ret (.bl (decide (p ∈ cutL l))) := by
    have e1 : ev C (callF C T (m + 3)) (b_late.nth 2).ex [some (uT l), some (uT p)] = (callF C T (m + 3) 11 [uT l]).bind fun y => inR (uT p) y := by kernel_rfl
    rw [cut_ok (m + 2) hl, bnd_ok, inR_lst] at e1
    exact ret_of e1
  rw [e0, eb, exes_nx s0, exes_nx s1, exes_ret s2]
  rfl
def pr2 (x : List Int × List Int) : D := .tup [uT x.1, uT x.2]
def misO (bs : List (List Int)) (o : List Int) : List (List Int × List Int) := (bs.filter fun p => !decide (o = p) && decide (o ∈ cutL p)).map fun p => (o, p)
def mis (bs K : List (List Int)) : List (List Int × List Int) := K.flatMap (misO bs)
theorem mis_go {bs : List (List Int)} (hb : BkA bs) (m : Nat) : ∀ (K : List (List Int)) (acc : List (List Int × List Int)) (o2 : Option D), (∀ o ∈ K, o ∈ AN) → acc.length + 8 * K.length ≤ 1000 →
    ∃ p2, forGo (forB C (callF C T (m + 4)) (b_mistaken.nth 2).tg (b_mistaken.nth 2).inn) (K.map uT) [some (.tup (bs.map uT)), some (.lst (acc.map pr2)), o2, none] = .nx [some (.tup (bs.map uT)), some (.lst ((acc ++ mis bs K).map pr2)), p2, none]
  | [], acc, o2, _, _ => ⟨o2, by simp [forGo, mis]⟩
  | o :: K, acc, o2, h, hn => by
    have ho := h o List.mem_cons_self
    rw [List.length_cons] at hn
    have hlen : (misO bs o).length ≤ 8 := by
      unfold misO
      rw [List.length_map]
      exact Nat.le_trans (List.length_filter_le _ _) hb.few
    have e1 : ev C (callF C T (m + 4)) ((b_mistaken.nth 2).inn.nth 0).mx [some (.tup (bs.map uT)), some (.lst (acc.map pr2)), some (uT o), none] = .ok (.lst ((misO bs o).map pr2)) := by
      unfold misO
      rw [List.map_map]
      refine lcs_filt (f := uT) (by kernel_rfl) (by kernel_rfl) (by have := hb.few; omega) fun p hp => ?_
      have e2 : lcT C (callF C T (m + 4)) [some (.tup (bs.map uT)), some (.lst (acc.map pr2)), some (uT o), none] (uT p) ((b_mistaken.nth 2).inn.nth 0).mx = (asB ((asB (neR (uT o) (uT p))).bind fun t => if t = true then (asB (callF C T (m + 4) 12 [uT p, uT o])).bind fun u => .ok (.bl u) else .ok (.bl t))).bind fun t => if t = true then .ok (some (.tup [uT o, uT p])) else .ok none := by kernel_rfl
      rw [e2, neR_uT, asB_ok, bnd_ok, lateA (hb.mem p hp) ho m]
      cases decide (o = p) <;> cases decide (o ∈ cutL p) <;> rfl
    have e3 : mutR .extend (acc.map pr2) (.lst ((misO bs o).map pr2)) = .ok ((acc ++ misO bs o).map pr2) := by
      have hc : (acc.map pr2).length + ((misO bs o).map pr2).length ≤ LIM := by
        rw [List.length_map, List.length_map]
        show _ ≤ 1000000
        omega
      simp only [mutR, if_pos hc, List.map_append]
    have e4 : exe C (callF C T (m + 4)) ((b_mistaken.nth 2).inn.nth 0) [some (.tup (bs.map uT)), some (.lst (acc.map pr2)), some (uT o), none] = (ev C (callF C T (m + 4)) ((b_mistaken.nth 2).inn.nth 0).mx [some (.tup (bs.map uT)), some (.lst (acc.map pr2)), some (uT o), none]).out [some (.tup (bs.map uT)), some (.lst (acc.map pr2)), some (uT o), none] fun d => (mutR .extend (acc.map pr2) d).out [some (.tup (bs.map uT)), some (.lst (acc.map pr2)), some (uT o), none] fun l' => .nx [some (.tup (bs.map uT)), some (.lst l'), some (uT o), none] := by kernel_rfl
    rw [e1, out_ok, e3, out_ok] at e4
    have e5 : forB C (callF C T (m + 4)) (b_mistaken.nth 2).tg (b_mistaken.nth 2).inn (uT o) [some (.tup (bs.map uT)), some (.lst (acc.map pr2)), o2, none] = .nx [some (.tup (bs.map uT)), some (.lst ((acc ++ misO bs o).map pr2)), some (uT o), none] := by
      show exes C (callF C T (m + 4)) (b_mistaken.nth 2).inn [some (.tup (bs.map uT)), some (.lst (acc.map pr2)), some (uT o), none] = _
      have eb : (b_mistaken.nth 2).inn = .cons ((b_mistaken.nth 2).inn.nth 0) .nil := by kernel_rfl
      rw [eb, exes_nx e4, exes_nil]
    obtain ⟨p2, ih⟩ := mis_go hb m K (acc ++ misO bs o) (some (uT o)) (fun x hx => h x (List.mem_cons_of_mem _ hx)) (by rw [List.length_append]; omega)
    refine ⟨p2, ?_⟩
    rw [List.map_cons]
    simp only [forGo, e5]
    rw [ih]
    unfold mis
    rw [List.flatMap_cons, List.append_assoc]
theorem mis_ok {bs : List (List Int)} (hb : BkA bs) (m : Nat) : callF C T (m + 5) 13 [.tup (bs.map uT)] = .ok (.lst ((mis bs bs).map pr2)) := by
  have e0 : callF C T (m + 5) 13 [.tup (bs.map uT)] = outR (exes C (callF C T (m + 4)) b_mistaken [some (.tup (bs.map uT)), none, none, none]) := by kernel_rfl
  have eb : b_mistaken = .cons (b_mistaken.nth 0) (.cons (b_mistaken.nth 1) (.cons (b_mistaken.nth 2) (.cons (b_mistaken.nth 3) .nil))) := by kernel_rfl
  have s0 : exe C (callF C T (m + 4)) (b_mistaken.nth 0) [some (.tup (bs.map uT)), none, none, none] = .nx [some (.tup (bs.map uT)), none, none, none] := by
    have e1 : ev C (callF C T (m + 4)) (b_mistaken.nth 0).ex [some (.tup (bs.map uT)), none, none, none] = callF C T (m + 4) 10 [.tup (bs.map uT)] := by kernel_rfl
    exact expr_nx (e1.trans (needbookA hb m))
  have s1 : exe C (callF C T (m + 4)) (b_mistaken.nth 1) [some (.tup (bs.map uT)), none, none, none] = .nx [some (.tup (bs.map uT)), some (.lst []), none, none] := by kernel_rfl
  obtain ⟨p2, h2⟩ := mis_go hb m bs [] none hb.mem (by have := hb.few; simp; omega)
  rw [List.nil_append, List.map_nil] at h2
  have s2 : exe C (callF C T (m + 4)) (b_mistaken.nth 2) [some (.tup (bs.map uT)), some (.lst []), none, none] = .nx [some (.tup (bs.map uT)), some (.lst ((mis bs bs).map pr2)), p2, none] := (loop_of (ds := bs.map uT) (by kernel_rfl) (by kernel_rfl)).trans h2
  have s3 : exe C (callF C T (m + 4)) (b_mistaken.nth 3) [some (.tup (bs.map uT)), some (.lst ((mis bs bs).map pr2)), p2, none] = .ret (.lst ((mis bs bs).map pr2)) := by kernel_rfl
  rw [e0, eb, exes_nx s0, exes_nx s1, exes_nx s2, exes_ret s3]
  rfl
theorem eq_nil2 (l : List (List Int × List Int)) : eqR (.lst (l.map pr2)) (.lst []) = .ok (.bl (decide (l = []))) := by
  have e : sh 60 (.lst (l.map pr2)) = true := by
    have e : sh 60 (.lst (l.map pr2)) = shs 59 (l.map pr2) := by simp only [sh]
    rw [e]
    refine shs_all fun d hd => ?_
    obtain ⟨x, _, rfl⟩ := List.mem_map.mp hd
    have h1 := sh_uT 57 x.1
    have h2 := sh_uT 57 x.2
    simp only [pr2, sh, shs, h1, h2, Bool.and_true]
  show need (sh 60 (.lst (l.map pr2)) && sh 60 (.lst [])) (.ok (.bl (eqD (.lst (l.map pr2)) (.lst [])))) = _
  rw [e]
  cases l <;> rfl
/-! ### the plain law of being safe -/
theorem safe_iff (bs : List (List Int)) : safeB bs = true ↔ ∀ x ∈ bs, ∀ y ∈ bs, y ≠ x → y ∉ cutL x := by
  unfold safeB clash
  rw [List.all_eq_true]
  constructor
  · intro h x hx y hy hne hin
    have h1 := of_decide_eq_true (h x hx)
    have h2 := List.filter_eq_nil_iff.mp h1 y hy
    refine h2 ?_
    rw [decide_eq_false hne, memB_t hin]
    rfl
  · intro h x hx
    refine decide_eq_true (List.filter_eq_nil_iff.mpr fun y hy hz => ?_)
    rw [Bool.and_eq_true, Bool.not_eq_true', decide_eq_false_iff_not] at hz
    exact h x hx y hy hz.1 (memB_iff.mp hz.2)
theorem safe_sub {as bs : List (List Int)} (h : ∀ x ∈ as, x ∈ bs) (hs : safeB bs = true) : safeB as = true :=
  (safe_iff as).mpr fun x hx y hy => (safe_iff bs).mp hs x (h x hx) y (h y hy)
theorem safe_same {as bs : List (List Int)} (h : ∀ x, x ∈ as ↔ x ∈ bs) : safeB as = safeB bs := by
  cases e : safeB bs with
  | true => exact safe_sub (fun x hx => (h x).mp hx) e
  | false =>
    cases f : safeB as with
    | false => rfl
    | true => rw [safe_sub (fun x hx => (h x).mpr hx) f] at e; cases e
theorem mis_safe (bs : List (List Int)) : decide (mis bs bs = []) = safeB bs := by
  have : mis bs bs = [] ↔ safeB bs = true := by
    rw [safe_iff]
    unfold mis misO
    rw [List.flatMap_eq_nil_iff]
    constructor
    · intro h x hx y hy hne hin
      have h1 := List.map_eq_nil_iff.mp (h y hy)
      refine List.filter_eq_nil_iff.mp h1 x hx ?_
      rw [decide_eq_false hne, decide_eq_true hin]
      rfl
    · intro h y hy
      rw [List.map_eq_nil_iff, List.filter_eq_nil_iff]
      intro x hx hz
      rw [Bool.and_eq_true, Bool.not_eq_true', decide_eq_false_iff_not] at hz
      exact h x hx y hy hz.1 (of_decide_eq_true hz.2)
  cases e : safeB bs with
  | true => exact decide_eq_true (this.mpr e)
  | false => exact decide_eq_false fun z => by rw [this.mp z] at e; cases e
theorem issafe_ok {bs : List (List Int)} (hb : BkA bs) (m : Nat) : callF C T (m + 6) 14 [.tup (bs.map uT)] = .ok (.bl (safeB bs)) := by
  have e0 : callF C T (m + 6) 14 [.tup (bs.map uT)] = outR (exes C (callF C T (m + 5)) b_is_safe [some (.tup (bs.map uT))]) := by kernel_rfl
  have eb : b_is_safe = .cons (b_is_safe.nth 0) .nil := by kernel_rfl
  have e1 : ev C (callF C T (m + 5)) (b_is_safe.nth 0).ex [some (.tup (bs.map uT))] = (callF C T (m + 5) 13 [.tup (bs.map uT)]).bind fun x => eqR x (.lst []) := by kernel_rfl
  rw [mis_ok hb m, bnd_ok, eq_nil2, mis_safe] at e1
  have s0 : exe C (callF C T (m + 5)) (b_is_safe.nth 0) [some (.tup (bs.map uT))] = .ret (.bl (safeB bs)) := ret_of e1
  rw [e0, eb, exes_ret s0]
  rfl
end Lw

namespace Lw
open PySem PySem.Spec L2 Li
open PyProof.Rows hiding St
/-! ### plain laws: sorted, sets, the greatest safe book -/
theorem lexTr : ∀ {x y z : List Int}, HT.lexLt x y = true → HT.lexLt y z = true → HT.lexLt x z = true
  | [], [], _, h, _ => absurd (HT.lexLt_nil_nil ▸ h) Bool.false_ne_true
  | a :: x, [], _, h, _ => absurd (HT.lexLt_cons_nil a x ▸ h) Bool.false_ne_true
  | _, b :: y, [], _, h => absurd (HT.lexLt_cons_nil b y ▸ h) Bool.false_ne_true
  | [], _ :: _, c :: z, _, _ => HT.lexLt_nil_cons c z
  | a :: x, b :: y, c :: z, h1, h2 => by
    rw [HT.lexLt_cons] at h1 h2 ⊢
    split at h1
    · rename_i e1
      split at h2
      · rename_i e2
        rw [if_pos (e1.trans e2)]
        exact lexTr h1 h2
      · rename_i e2
        have h2 := of_decide_eq_true h2
        rw [if_neg (by omega)]
        exact decide_eq_true (by omega)
    · rename_i e1
      have h1 := of_decide_eq_true h1
      split at h2
      · rename_i e2
        rw [if_neg (by omega)]
        exact decide_eq_true (by omega)
      · have h2 := of_decide_eq_true h2
        rw [if_neg (by omega)]
        exact decide_eq_true (by omega)
def chn : List (List Int) → Bool
  | [] => true
  | x :: l => l.head?.all (fun y => HT.lexLt x y) && chn l
theorem chn_pw : ∀ {l : List (List Int)}, chn l = true → l.Pairwise fun x y => HT.lexLt x y = true
  | [], _ => List.Pairwise.nil
  | [x], _ => List.pairwise_singleton _ _
  | x :: y :: l, h => by
    have h : (HT.lexLt x y && chn (y :: l)) = true := h
    rw [Bool.and_eq_true] at h
    have ih := chn_pw h.2
    refine List.pairwise_cons.mpr ⟨fun z hz => ?_, ih⟩
    rcases List.mem_cons.mp hz with rfl | hz
    · exact h.1
    · exact lexTr h.1 ((List.pairwise_cons.mp ih).1 z hz)
theorem AN_srt : AN.Pairwise fun x y => HT.lexLt x y = true := chn_pw (by decide +kernel)
theorem join_srt (bs : List (List Int)) : (joinL bs).Pairwise fun x y => HT.lexLt x y = true := by
  unfold joinL
  split
  · exact AN_srt.filter _
  · exact List.Pairwise.nil
theorem strict_srt {l : List (List Int)} (h : l.Pairwise fun x y => HT.lexLt x y = true) : SrtL l := h.imp fun {x y} e => NtL.lex_asym _ _ e
theorem strict_nd {l : List (List Int)} (h : l.Pairwise fun x y => HT.lexLt x y = true) : l.Nodup := h.imp fun {x y} e z => by
  subst z
  rw [lex_irr] at e
  cases e
theorem once_strict {l : List (List Int)} (h : l.Pairwise fun x y => HT.lexLt x y = true) : sortL (onceL l) = l :=
  srtL_uniq (sortL_srt _) (strict_srt h) ((sortL_perm _).trans ((List.perm_ext_iff_of_nodup (onceL_nodup l) (strict_nd h)).mpr fun x => mem_onceL l x))
theorem tI1_uT {l : List (List Int)} (h : ∀ x ∈ l, x ≠ []) : (l.map uT).all isTI1 = true := by
  rw [List.all_eq_true]
  intro d hd
  obtain ⟨x, hx, rfl⟩ := List.mem_map.mp hd
  cases x with
  | nil => exact absurd rfl (h [] hx)
  | cons i x =>
    show (x.map D.int).all isInt = true
    rw [List.all_map]
    exact List.all_eq_true.mpr fun _ _ => rfl
theorem srtSet_tup {l : List (List Int)} (h : ∀ x ∈ l, x ≠ []) (hl : l.length < 64) : srtSetR (.tup (l.map uT)) = .ok (.lst ((sortL (onceL l)).map uT)) := by
  have hc : ((l.map uT).all isTI1 && decide ((l.map uT).length < 64)) = true := by
    rw [tI1_uT h, List.length_map, decide_eq_true hl]
    rfl
  refine (need_of hc _).trans ?_
  rw [onceD_uT, sortD_map ltD_uT fun _ _ => trivial]
theorem sort_tup {l : List (List Int)} (h : ∀ x ∈ l, x ≠ []) : sortR (.tup (l.map uT)) = .ok (.lst ((sortL l).map uT)) := by
  have hc : ((l.map uT).all isTI1 || sortE (l.map uT)) = true := by
    rw [tI1_uT h]
    rfl
  refine (need_of hc _).trans ?_
  rw [sortD_map ltD_uT fun _ _ => trivial]
theorem bkA_once {l : List (List Int)} (h : ∀ x ∈ l, x ∈ AN) (hn : l ≠ []) (hl : l.length ≤ 8) : BkA (sortL (onceL l)) := by
  have hp := sortL_perm (onceL l)
  have nd := onceL_nodup l
  refine ⟨fun x hx => h x ((mem_onceL l x).mp (hp.mem_iff.mp hx)), ?_, ?_, lex_strict (sortL_srt _) (hp.nodup_iff.mpr nd)⟩
  · rw [hp.length_eq]
    cases l with
    | nil => exact absurd rfl hn
    | cons x r => exact List.length_pos_of_mem ((mem_onceL (x :: r) x).mpr List.mem_cons_self)
  · rw [hp.length_eq]
    exact Nat.le_trans (nodup_len nd fun x hx => (mem_onceL l x).mp hx) hl
theorem bkA_sort {l : List (List Int)} (h : ∀ x ∈ l, x ∈ AN) (hn : l ≠ []) (hl : l.length ≤ 8) (nd : l.Nodup) : BkA (sortL l) := by
  have hp := sortL_perm l
  refine ⟨fun x hx => h x (hp.mem_iff.mp hx), ?_, ?_, lex_strict (sortL_srt _) (hp.nodup_iff.mpr nd)⟩
  · rw [hp.length_eq]
    exact List.length_pos_iff.mpr hn
  · rw [hp.length_eq]
    exact hl
theorem safe_once (l : List (List Int)) : safeB (sortL (onceL l)) = safeB l := safe_same fun x => ((sortL_perm _).mem_iff).trans (mem_onceL l x)
theorem safe_sort (l : List (List Int)) : safeB (sortL l) = safeB l := safe_same fun _ => (sortL_perm _).mem_iff
/-- one may join a book just if with it the book is safe -/
theorem join_in {bs : List (List Int)} {x : List Int} (hx : x ∈ AN) (hb : x ∉ bs) : memB x (joinL bs) = safeB (bs ++ [x]) := by
  cases e : safeB (bs ++ [x]) with
  | true =>
    have h1 : safeB bs = true := safe_sub (fun y hy => List.mem_append_left _ hy) e
    refine memB_t ?_
    unfold joinL
    rw [if_pos h1]
    exact List.mem_filter.mpr ⟨hx, by rw [memB_f hb, e]; rfl⟩
  | false =>
    refine memB_f fun hz => ?_
    unfold joinL at hz
    split at hz
    · have := (List.mem_filter.mp hz).2
      rw [e, Bool.and_false] at this
      cases this
    · cases hz
theorem join_not {bs : List (List Int)} {x : List Int} (h : x ∈ joinL bs) : x ∉ bs ∧ safeB (bs ++ [x]) = true := by
  unfold joinL at h
  split at h
  · have := (List.mem_filter.mp h).2
    rw [Bool.and_eq_true, Bool.not_eq_true'] at this
    exact ⟨fun z => by rw [memB_t z] at this; exact absurd this.1 (by decide), this.2⟩
  · cases h
theorem sub_to : ∀ (bs : List (List Int)) {acc : List (List (List Int))} {pre : List (List Int)}, (∀ x ∈ acc, x.Sublist pre) → ∀ x ∈ subG acc bs, x.Sublist (pre ++ bs)
  | [], acc, pre, h, x, hx => by rw [List.append_nil]; exact h x hx
  | b :: bs, acc, pre, h, x, hx => by
    have := sub_to bs (acc := acc ++ acc.map fun x => x ++ [b]) (pre := pre ++ [b]) (fun y hy => by
      rcases List.mem_append.mp hy with hy | hy
      · exact (h y hy).trans (List.sublist_append_left _ _)
      · obtain ⟨z, hz, rfl⟩ := List.mem_map.mp hy
        exact (h z hz).append (List.Sublist.refl _)) x hx
    rw [List.append_assoc] at this
    exact this
theorem sub_of : ∀ {z bs : List (List Int)}, z.Sublist bs → ∀ {acc : List (List (List Int))} {y : List (List Int)}, y ∈ acc → y ++ z ∈ subG acc bs
  | _, _, .slnil, acc, y, hy => by rw [List.append_nil]; exact hy
  | _, _, .cons (l₂ := bs) b h, acc, y, hy => sub_of h (acc := acc ++ acc.map fun x => x ++ [b]) (List.mem_append_left _ hy)
  | _, _, .cons₂ (l₁ := z) (l₂ := bs) b h, acc, y, hy => by
    have := sub_of h (acc := acc ++ acc.map fun x => x ++ [b]) (y := y ++ [b]) (List.mem_append_right _ (List.mem_map.mpr ⟨y, hy, rfl⟩))
    rw [List.append_assoc] at this
    exact this
theorem subL_iff {x bs : List (List Int)} : x ∈ subL bs ↔ x.Sublist bs := by
  constructor
  · intro h
    exact sub_to bs (acc := [[]]) (pre := []) (fun y hy => by rw [List.mem_singleton.mp hy]; exact List.Sublist.refl _) x h
  · intro h
    exact sub_of h (acc := [[]]) (y := []) List.mem_cons_self
def great (bs : List (List Int)) : List (List Int) := bestF [] (sortS (subL bs))
theorem great_le {bs x : List (List Int)} (h : x.Sublist bs) (hs : safeB x = true) : x.length ≤ (great bs).length :=
  ((best_all (subL bs)).le x ((sortS_perm _).mem_iff.mpr (subL_iff.mpr h)) hs).1
theorem great_sub {bs : List (List Int)} (hn : bs ≠ []) : great bs ≠ [] ∧ (great bs).Sublist bs ∧ safeB (great bs) = true := ⟨(best_in hn).1, subL_iff.mp (best_in hn).2.1, (best_in hn).2.2⟩
theorem great_safe {bs : List (List Int)} (hn : bs ≠ []) (hs : safeB bs = true) : great bs = bs := (great_sub hn).2.1.eq_of_length_le (great_le (List.Sublist.refl _) hs)
theorem great_eq {bs : List (List Int)} (hn : bs ≠ []) : decide (great bs = bs) = safeB bs := by
  cases e : safeB bs with
  | true => exact decide_eq_true (great_safe hn e)
  | false =>
    refine decide_eq_false fun z => ?_
    have := (great_sub hn).2.2
    rw [z, e] at this
    cases this
theorem great_two {bs : List (List Int)} (hn : bs ≠ []) : great (great bs) = great bs := great_safe (great_sub hn).1 (great_sub hn).2.2
theorem great_book {bs : List (List Int)} (hb : Bk bs) : Bk (great bs) := by
  obtain ⟨b, r, e⟩ := hb.ne
  obtain ⟨h1, h2, _⟩ := great_sub (bs := bs) (by rw [e]; exact List.cons_ne_nil _ _)
  exact ⟨fun l hl => hb.mem l (h2.subset hl), List.length_pos_iff.mpr h1, Nat.le_trans h2.length_le hb.few, hb.inc.sublist h2⟩
/-- no number of a book may join its greatest safe book -/
theorem great_full {bs : List (List Int)} (hb : Bk bs) {x : List Int} (hx : x ∈ bs) : x ∉ joinL (great bs) := fun hj => by
  obtain ⟨h1, h2⟩ := join_not hj
  have hn : bs ≠ [] := fun z => by rw [z] at hx; cases hx
  obtain ⟨_, h4, _⟩ := great_sub hn
  have hf : (bs.filter fun y => memB y (great bs ++ [x])).Sublist bs := List.filter_sublist
  have hm : ∀ y, y ∈ (bs.filter fun y => memB y (great bs ++ [x])) ↔ y ∈ great bs ++ [x] := fun y => by
    rw [List.mem_filter, memB_iff]
    refine ⟨fun z => z.2, fun z => ⟨?_, z⟩⟩
    rcases List.mem_append.mp z with z | z
    · exact h4.subset z
    · rw [List.mem_singleton.mp z]
      exact hx
  have hs : safeB (bs.filter fun y => memB y (great bs ++ [x])) = true := (safe_same hm).trans h2
  have nd : (great bs ++ [x]).Nodup := by
    rw [List.nodup_append]
    refine ⟨(great_book hb).nodup, List.pairwise_singleton _ _, fun a ha b hb' z => ?_⟩
    rw [List.mem_singleton.mp hb'] at z
    rw [z] at ha
    exact h1 ha
  have hl := nodup_len nd fun y hy => (hm y).mpr hy
  have := great_le hf hs
  rw [List.length_append, List.length_singleton] at hl
  omega
/-- the best one is not longer than any other -/
theorem srt_head {ls : List (List Int)} {x : List Int} {r : List (List Int)} (e : srt ls = x :: r) : x ∈ ls ∧ ∀ y ∈ ls, bl x ≤ bl y := by
  unfold srt at e
  cases f : sortL (ls.map key) with
  | nil => rw [f] at e; cases e
  | cons k t =>
    have hk : k ∈ ls.map key := (sortL_perm _).mem_iff.mp (by rw [f]; exact List.mem_cons_self)
    obtain ⟨z, hz, rfl⟩ := List.mem_map.mp hk
    have ex : z = x := by
      rw [f, List.map_cons] at e
      exact (List.cons.inj e).1
    subst ex
    refine ⟨hz, fun y hy => ?_⟩
    have hy' : key y ∈ key z :: t := by rw [← f]; exact (sortL_perm _).mem_iff.mpr (List.mem_map.mpr ⟨y, hy, rfl⟩)
    rcases List.mem_cons.mp hy' with h | h
    · have : bl y = bl z := (List.cons.inj h).1
      omega
    · have hs := sortL_srt (ls.map key)
      rw [f] at hs
      have := (List.pairwise_cons.mp hs).1 _ h
      unfold key at this
      rw [HT.lexLt_cons] at this
      split at this
      · rename_i he
        omega
      · have := of_decide_eq_false this
        omega
end Lw

namespace Lw
open PySem PySem.Spec L2 Li
open PyProof.Rows hiding St
/-! ### the law k71 -/
theorem sh_uS (n : Nat) (x : List (List Int)) : sh (n + 2) (uS x) = true := by
  show shs (n + 1) (x.map uT) = true
  exact shs_all fun d hd => by
    obtain ⟨l, _, rfl⟩ := List.mem_map.mp hd
    exact sh_ints n l
instance : Pl uS 2 where
  eq := fun a b => eqDs_uT a b
  sh := fun n a => sh_uS n a
theorem AN_nn : ∀ l ∈ AN, l ≠ [] := AN_ne
theorem filt_none {α : Type} {p : α → Bool} {l : List α} (h : ∀ x ∈ l, p x = false) : l.filter p = [] := List.filter_eq_nil_iff.mpr fun x hx z => by rw [h x hx] at z; cases z
theorem main : ∀ ns : List Int, ns.length ≤ 63 → callF C T 12 24 [.scr ns] = .ok (.bl true) := by
  intro ns hl
  obtain ⟨bs, hb, hlen, hbook⟩ := book_ok ns 0 4 (by decide) (by decide) (by decide) hl 7
  have h4 : bs.length ≤ 4 := by omega
  have hne : bs ≠ [] := by
    obtain ⟨b, r, e⟩ := hb.ne
    rw [e]
    exact List.cons_ne_nil _ _
  have hA := hb.any
  have hjoin := join_ok hb (by omega) 6
  have hbest := best_ok hb (by omega) 5
  have hgr : callF C T 11 19 [.tup (bs.map uT)] = .ok (uS (great bs)) := safest_gen hA.mem hb.few 6 (needbook_ok hb 6)
  have hG := great_book hb
  obtain ⟨g1, g2, g3⟩ := great_sub hne
  have hG4 : (great bs).length ≤ 4 := Nat.le_trans g2.length_le h4
  have hgb := isbookA hG.any 8
  have hgs := issafe_ok hG.any 5
  have hbs := issafe_ok hA 5
  have hgg : callF C T 11 19 [.tup ((great bs).map uT)] = .ok (uS (great (great bs))) := safest_gen hG.any.mem hG.few 6 (needbook_ok hG 6)
  have hgj := join_ok hG (by omega) 6
  rw [g3] at hgs
  rw [great_two hne] at hgg
  simp only [Nat.reduceAdd] at hbook hjoin hbest hgb hgs hbs hgj
  have hJl := join_len bs
  have hJA : ∀ x ∈ joinL bs, x ∈ AN := fun x hx => join_mem x hx
  have eb : b_law = .cons s_law_0 (.cons s_law_1 (.cons s_law_2 (.cons s_law_3 (.cons s_law_4 (.cons s_law_5 (.cons s_law_6 (.cons s_law_7 (.cons s_law_8 (.cons s_law_9 (.cons s_law_10 (.cons s_law_11 (.cons s_law_12 (.cons s_law_13 .nil))))))))))))) := rfl
  have e0 : callF C T 12 24 [.scr ns] = outR (exes C (callF C T 11) b_law [some (.scr ns), none, none, none, none, none, none, none, none]) := by kernel_rfl
  have s0 : exe C (callF C T 11) s_law_0 [some (.scr ns), none, none, none, none, none, none, none, none] = .nx [some (.scr ns), some (.tup (bs.map uT)), none, none, none, none, none, none, none] := by
    simp -implicitDefEqProofs (disch := first | assumption | omega) only [exes, exe_asg, exe_asgt, exe_setix, exe_mut, exe_expr, exe_ret, exe_cond, exe_rais, exe_pass, exe_tryr, bnd_ex, out_ex, asB_ex, notR_ex, isi_no, isi_bt, isi_bi, isi_bp, isi_si, isi_st, isi_li, isi_lt, isi_ti, isi_it, nl0, tl0, ll0, nl1, tl1, ll1, nl2, tl2, ll2, nl3, tl3, ll3, nl4, tl4, ll4, nl5, tl5, ll5, nl6, tl6, ll6, nl7, tl7, ll7, nl8, tl8, ll8, ev, evs, evo, evi, evB, En.get, bnd_ok, out_ok, asB_ok, asOI_ok, notR_ok, Cn.d, List.getElem?_cons_zero, List.getElem?_cons_succ, List.set_cons_zero, List.set_cons_succ, bltR, cmpR, isi_u2, isi_u3, isi_uT, isi_T, isi_I, isi_I', isi2R, len_u2, len_u3, len_uT, ln_L, ln_T, ix_u2a, ix_u2b, ix_u3a, ix_u3b, ix_u3c, decide_true, decide_false, eq_self, seq_uT, seq_L, seq_T, sr_uT, sr_L, sr_T, bindT_n, bindT_t, setAll, bindT2, bindT3, wipeD, List.map_cons, List.map_nil, tupleR, listR, intR, outR, addD, mulD, addI, binR_sub, negR, if_true, if_false, Int.reduceToNat, Int.reduceEq, Int.reduceLT, Int.reduceLE, Bool.false_eq_true, Bool.true_eq_false, Bool.not_true, Bool.not_false, lcGo_A, lcA_some, lcA_if, lcA_none, lcI_some, lcI_if, lcI_none, need_len, lcGo_nilA, lcGo_consA, and_ok, or_ok, chain_ok, slcTo_L, slcTo_T, slcFrom_L, slcFrom_T, rev_T, rev_L, Bool.true_and, Bool.and_true, Bool.false_and, Bool.and_false, Bool.true_or, Bool.or_true, Bool.false_or, Bool.or_false, mulL0, mulL1, addL0, addL1, appL, extL, allR_t, tupU2, tupU3, eqI, neI, eqN, neN, eqL00, neL00, eqT00, neT00, eqB, neB, eqL, neL, g_eqT, g_neT, eqL0, neL0, g_eqT0, g_neT0, inL, inT, memB_t, memB_f, cg_0, cg_1, cg_2, cg_3, cg_4, cg_5, cg_6, s_law_0, hbook]
  have s1 : exe C (callF C T 11) s_law_1 [some (.scr ns), some (.tup (bs.map uT)), none, none, none, none, none, none, none] = .nx [some (.scr ns), some (.tup (bs.map uT)), some (.lst ((joinL bs).map uT)), none, none, none, none, none, none] := by
    simp -implicitDefEqProofs (disch := first | assumption | omega) only [exes, exe_asg, exe_asgt, exe_setix, exe_mut, exe_expr, exe_ret, exe_cond, exe_rais, exe_pass, exe_tryr, bnd_ex, out_ex, asB_ex, notR_ex, isi_no, isi_bt, isi_bi, isi_bp, isi_si, isi_st, isi_li, isi_lt, isi_ti, isi_it, nl0, tl0, ll0, nl1, tl1, ll1, nl2, tl2, ll2, nl3, tl3, ll3, nl4, tl4, ll4, nl5, tl5, ll5, nl6, tl6, ll6, nl7, tl7, ll7, nl8, tl8, ll8, ev, evs, evo, evi, evB, En.get, bnd_ok, out_ok, asB_ok, asOI_ok, notR_ok, Cn.d, List.getElem?_cons_zero, List.getElem?_cons_succ, List.set_cons_zero, List.set_cons_succ, bltR, cmpR, isi_u2, isi_u3, isi_uT, isi_T, isi_I, isi_I', isi2R, len_u2, len_u3, len_uT, ln_L, ln_T, ix_u2a, ix_u2b, ix_u3a, ix_u3b, ix_u3c, decide_true, decide_false, eq_self, seq_uT, seq_L, seq_T, sr_uT, sr_L, sr_T, bindT_n, bindT_t, setAll, bindT2, bindT3, wipeD, List.map_cons, List.map_nil, tupleR, listR, intR, outR, addD, mulD, addI, binR_sub, negR, if_true, if_false, Int.reduceToNat, Int.reduceEq, Int.reduceLT, Int.reduceLE, Bool.false_eq_true, Bool.true_eq_false, Bool.not_true, Bool.not_false, lcGo_A, lcA_some, lcA_if, lcA_none, lcI_some, lcI_if, lcI_none, need_len, lcGo_nilA, lcGo_consA, and_ok, or_ok, chain_ok, slcTo_L, slcTo_T, slcFrom_L, slcFrom_T, rev_T, rev_L, Bool.true_and, Bool.and_true, Bool.false_and, Bool.and_false, Bool.true_or, Bool.or_true, Bool.false_or, Bool.or_false, mulL0, mulL1, addL0, addL1, appL, extL, allR_t, tupU2, tupU3, eqI, neI, eqN, neN, eqL00, neL00, eqT00, neT00, eqB, neB, eqL, neL, g_eqT, g_neT, eqL0, neL0, g_eqT0, g_neT0, inL, inT, memB_t, memB_f, cg_0, cg_1, cg_2, cg_3, cg_4, cg_5, cg_6, s_law_1, hjoin]
  have hset : srtSetR (.lst ((joinL bs).map uT)) = .ok (.lst ((joinL bs).map uT)) := by
    rw [srtSet_uT (fun x hx => AN_ne x (hJA x hx)) (by omega), once_strict (join_srt bs)]
  have hf : (joinL bs).filter (fun x => memB x bs) = [] := filt_none fun x hx => memB_f (join_not hx).1
  have s2 : exe C (callF C T 11) s_law_2 [some (.scr ns), some (.tup (bs.map uT)), some (.lst ((joinL bs).map uT)), none, none, none, none, none, none] = .nx [some (.scr ns), some (.tup (bs.map uT)), some (.lst ((joinL bs).map uT)), none, none, none, none, none, none] := by
    simp -implicitDefEqProofs (disch := first | assumption | omega) only [exes, exe_asg, exe_asgt, exe_setix, exe_mut, exe_expr, exe_ret, exe_cond, exe_rais, exe_pass, exe_tryr, bnd_ex, out_ex, asB_ex, notR_ex, isi_no, isi_bt, isi_bi, isi_bp, isi_si, isi_st, isi_li, isi_lt, isi_ti, isi_it, nl0, tl0, ll0, nl1, tl1, ll1, nl2, tl2, ll2, nl3, tl3, ll3, nl4, tl4, ll4, nl5, tl5, ll5, nl6, tl6, ll6, nl7, tl7, ll7, nl8, tl8, ll8, ev, evs, evo, evi, evB, En.get, bnd_ok, out_ok, asB_ok, asOI_ok, notR_ok, Cn.d, List.getElem?_cons_zero, List.getElem?_cons_succ, List.set_cons_zero, List.set_cons_succ, bltR, cmpR, isi_u2, isi_u3, isi_uT, isi_T, isi_I, isi_I', isi2R, len_u2, len_u3, len_uT, ln_L, ln_T, ix_u2a, ix_u2b, ix_u3a, ix_u3b, ix_u3c, decide_true, decide_false, eq_self, seq_uT, seq_L, seq_T, sr_uT, sr_L, sr_T, bindT_n, bindT_t, setAll, bindT2, bindT3, wipeD, List.map_cons, List.map_nil, tupleR, listR, intR, outR, addD, mulD, addI, binR_sub, negR, if_true, if_false, Int.reduceToNat, Int.reduceEq, Int.reduceLT, Int.reduceLE, Bool.false_eq_true, Bool.true_eq_false, Bool.not_true, Bool.not_false, lcGo_A, lcA_some, lcA_if, lcA_none, lcI_some, lcI_if, lcI_none, need_len, lcGo_nilA, lcGo_consA, and_ok, or_ok, chain_ok, slcTo_L, slcTo_T, slcFrom_L, slcFrom_T, rev_T, rev_L, Bool.true_and, Bool.and_true, Bool.false_and, Bool.and_false, Bool.true_or, Bool.or_true, Bool.false_or, Bool.or_false, mulL0, mulL1, addL0, addL1, appL, extL, allR_t, tupU2, tupU3, eqI, neI, eqN, neN, eqL00, neL00, eqT00, neT00, eqB, neB, eqL, neL, g_eqT, g_neT, eqL0, neL0, g_eqT0, g_neT0, inL, inT, memB_t, memB_f, cg_0, cg_1, cg_2, cg_3, cg_4, cg_5, cg_6, s_law_2_0, s_law_2, hset, hf]
  obtain ⟨e3, s3, o3, o4, o5, rfl⟩ := loop_inv (C := C) (cf := callF C T 11) (s := s_law_3) (enc := fun k : Nat => D.int (k : Int)) (l := List.range 12) (env := [some (.scr ns), some (.tup (bs.map uT)), some (.lst ((joinL bs).map uT)), none, none, none, none, none, none])
    (fun en => ∃ o3 o4 o5, en = [some (.scr ns), some (.tup (bs.map uT)), some (.lst ((joinL bs).map uT)), o3, o4, o5, none, none, none]) rfl (by kernel_rfl) ⟨_, _, _, rfl⟩ (by
      rintro k en - ⟨o3, o4, o5, rfl⟩
      obtain ⟨x, hx, hn⟩ := num_ok ns (60 + 5 * (k : Int)) (by omega) hl 8
      simp only [Nat.reduceAdd] at hn
      have hxA := NL_AN x hx
      have hall : ∀ y ∈ bs ++ [x], y ∈ AN := fun y hy => (List.mem_append.mp hy).elim (hA.mem y) fun h => List.mem_singleton.mp h ▸ hxA
      have ha := addT1 (f := uT) bs x (by omega)
      have hset := srtSet_tup (l := bs ++ [x]) (fun y hy => AN_ne y (hall y hy)) (by rw [List.length_append, List.length_singleton]; omega)
      have hbk := bkA_once hall (by simp) (by rw [List.length_append, List.length_singleton]; omega)
      have hsf := issafe_ok hbk 5
      simp only [Nat.reduceAdd] at hsf
      rw [safe_once] at hsf
      have hm : mulR (.int 5) (.int (k : Int)) = .ok (.int (5 * (k : Int))) := mulI (.inl (by decide))
      refine ⟨_, ?_, some (uT x), some (.int (k : Int)), some (.tup ((sortL (onceL (bs ++ [x]))).map uT)), rfl⟩
      by_cases hin : x ∈ bs
      · simp -implicitDefEqProofs (disch := first | assumption | omega) only [forB, s_law_3, Sm.tg, Sm.inn, s_law_3_0, s_law_3_1, s_law_3_2_0, s_law_3_2, exes, exe_asg, exe_asgt, exe_setix, exe_mut, exe_expr, exe_ret, exe_cond, exe_rais, exe_pass, exe_tryr, bnd_ex, out_ex, asB_ex, notR_ex, isi_no, isi_bt, isi_bi, isi_bp, isi_si, isi_st, isi_li, isi_lt, isi_ti, isi_it, nl0, tl0, ll0, nl1, tl1, ll1, nl2, tl2, ll2, nl3, tl3, ll3, nl4, tl4, ll4, nl5, tl5, ll5, nl6, tl6, ll6, nl7, tl7, ll7, nl8, tl8, ll8, ev, evs, evo, evi, evB, En.get, bnd_ok, out_ok, asB_ok, asOI_ok, notR_ok, Cn.d, List.getElem?_cons_zero, List.getElem?_cons_succ, List.set_cons_zero, List.set_cons_succ, bltR, cmpR, isi_u2, isi_u3, isi_uT, isi_T, isi_I, isi_I', isi2R, len_u2, len_u3, len_uT, ln_L, ln_T, ix_u2a, ix_u2b, ix_u3a, ix_u3b, ix_u3c, decide_true, decide_false, eq_self, seq_uT, seq_L, seq_T, sr_uT, sr_L, sr_T, bindT_n, bindT_t, setAll, bindT2, bindT3, wipeD, List.map_cons, List.map_nil, tupleR, listR, intR, outR, addD, mulD, addI, binR_sub, negR, if_true, if_false, Int.reduceToNat, Int.reduceEq, Int.reduceLT, Int.reduceLE, Bool.false_eq_true, Bool.true_eq_false, Bool.not_true, Bool.not_false, lcGo_A, lcA_some, lcA_if, lcA_none, lcI_some, lcI_if, lcI_none, need_len, lcGo_nilA, lcGo_consA, and_ok, or_ok, chain_ok, slcTo_L, slcTo_T, slcFrom_L, slcFrom_T, rev_T, rev_L, Bool.true_and, Bool.and_true, Bool.false_and, Bool.and_false, Bool.true_or, Bool.or_true, Bool.false_or, Bool.or_false, mulL0, mulL1, addL0, addL1, appL, extL, allR_t, tupU2, tupU3, eqI, neI, eqN, neN, eqL00, neL00, eqT00, neT00, eqB, neB, eqL, neL, g_eqT, g_neT, eqL0, neL0, g_eqT0, g_neT0, inL, inT, memB_t, memB_f, cg_0, cg_1, cg_2, cg_3, cg_4, cg_5, cg_6, hm, hn, ha, hset, memB_t hin]
      · have hj := join_in hxA hin
        simp -implicitDefEqProofs (disch := first | assumption | omega) only [forB, s_law_3, Sm.tg, Sm.inn, s_law_3_0, s_law_3_1, s_law_3_2_0, s_law_3_2, exes, exe_asg, exe_asgt, exe_setix, exe_mut, exe_expr, exe_ret, exe_cond, exe_rais, exe_pass, exe_tryr, bnd_ex, out_ex, asB_ex, notR_ex, isi_no, isi_bt, isi_bi, isi_bp, isi_si, isi_st, isi_li, isi_lt, isi_ti, isi_it, nl0, tl0, ll0, nl1, tl1, ll1, nl2, tl2, ll2, nl3, tl3, ll3, nl4, tl4, ll4, nl5, tl5, ll5, nl6, tl6, ll6, nl7, tl7, ll7, nl8, tl8, ll8, ev, evs, evo, evi, evB, En.get, bnd_ok, out_ok, asB_ok, asOI_ok, notR_ok, Cn.d, List.getElem?_cons_zero, List.getElem?_cons_succ, List.set_cons_zero, List.set_cons_succ, bltR, cmpR, isi_u2, isi_u3, isi_uT, isi_T, isi_I, isi_I', isi2R, len_u2, len_u3, len_uT, ln_L, ln_T, ix_u2a, ix_u2b, ix_u3a, ix_u3b, ix_u3c, decide_true, decide_false, eq_self, seq_uT, seq_L, seq_T, sr_uT, sr_L, sr_T, bindT_n, bindT_t, setAll, bindT2, bindT3, wipeD, List.map_cons, List.map_nil, tupleR, listR, intR, outR, addD, mulD, addI, binR_sub, negR, if_true, if_false, Int.reduceToNat, Int.reduceEq, Int.reduceLT, Int.reduceLE, Bool.false_eq_true, Bool.true_eq_false, Bool.not_true, Bool.not_false, lcGo_A, lcA_some, lcA_if, lcA_none, lcI_some, lcI_if, lcI_none, need_len, lcGo_nilA, lcGo_consA, and_ok, or_ok, chain_ok, slcTo_L, slcTo_T, slcFrom_L, slcFrom_T, rev_T, rev_L, Bool.true_and, Bool.and_true, Bool.false_and, Bool.and_false, Bool.true_or, Bool.or_true, Bool.false_or, Bool.or_false, mulL0, mulL1, addL0, addL1, appL, extL, allR_t, tupU2, tupU3, eqI, neI, eqN, neN, eqL00, neL00, eqT00, neT00, eqB, neB, eqL, neL, g_eqT, g_neT, eqL0, neL0, g_eqT0, g_neT0, inL, inT, memB_t, memB_f, cg_0, cg_1, cg_2, cg_3, cg_4, cg_5, cg_6, hm, hn, ha, hset, memB_f hin, hj, hsf, decide_true])
  have hcut : evi C (callF C T 11) s_law_4.itx [some (.scr ns), some (.tup (bs.map uT)), some (.lst ((joinL bs).map uT)), o3, o4, o5, none, none, none] = .ok (((joinL bs).take 6).map uT) := by
    have e1 : evi C (callF C T 11) s_law_4.itx [some (.scr ns), some (.tup (bs.map uT)), some (.lst ((joinL bs).map uT)), o3, o4, o5, none, none, none] = .ok (cutD ((joinL bs).map uT) none (some 6)) := by kernel_rfl
    rw [e1, cut_to _ (by decide)]
    rfl
  obtain ⟨e4, s4, p3, rfl⟩ := loop_inv (C := C) (cf := callF C T 11) (s := s_law_4) (enc := uT) (l := (joinL bs).take 6) (env := [some (.scr ns), some (.tup (bs.map uT)), some (.lst ((joinL bs).map uT)), o3, o4, o5, none, none, none])
    (fun en => ∃ p3, en = [some (.scr ns), some (.tup (bs.map uT)), some (.lst ((joinL bs).map uT)), p3, o4, o5, none, none, none]) rfl hcut ⟨_, rfl⟩ (by
      rintro x en hx ⟨p3, rfl⟩
      have hx := List.mem_of_mem_take hx
      have hxA := hJA x hx
      obtain ⟨j1, j2⟩ := join_not hx
      have hall : ∀ y ∈ bs ++ [x], y ∈ AN := fun y hy => (List.mem_append.mp hy).elim (hA.mem y) fun h => List.mem_singleton.mp h ▸ hxA
      have ha := addT1 (f := uT) bs x (by omega)
      have hsort := sort_tup (l := bs ++ [x]) (fun y hy => AN_ne y (hall y hy))
      have nd : (bs ++ [x]).Nodup := by
        rw [List.nodup_append]
        refine ⟨hA.nodup, List.pairwise_singleton _ _, fun a ha b hb' z => ?_⟩
        rw [List.mem_singleton.mp hb'] at z
        rw [z] at ha
        exact j1 ha
      have hbk := bkA_sort hall (by simp) (by rw [List.length_append, List.length_singleton]; omega) nd
      have hsf := issafe_ok hbk 5
      simp only [Nat.reduceAdd] at hsf
      rw [safe_sort, j2] at hsf
      refine ⟨_, ?_, some (uT x), rfl⟩
      simp -implicitDefEqProofs (disch := first | assumption | omega) only [forB, s_law_4, Sm.tg, Sm.inn, s_law_4_0_0, s_law_4_0, exes, exe_asg, exe_asgt, exe_setix, exe_mut, exe_expr, exe_ret, exe_cond, exe_rais, exe_pass, exe_tryr, bnd_ex, out_ex, asB_ex, notR_ex, isi_no, isi_bt, isi_bi, isi_bp, isi_si, isi_st, isi_li, isi_lt, isi_ti, isi_it, nl0, tl0, ll0, nl1, tl1, ll1, nl2, tl2, ll2, nl3, tl3, ll3, nl4, tl4, ll4, nl5, tl5, ll5, nl6, tl6, ll6, nl7, tl7, ll7, nl8, tl8, ll8, ev, evs, evo, evi, evB, En.get, bnd_ok, out_ok, asB_ok, asOI_ok, notR_ok, Cn.d, List.getElem?_cons_zero, List.getElem?_cons_succ, List.set_cons_zero, List.set_cons_succ, bltR, cmpR, isi_u2, isi_u3, isi_uT, isi_T, isi_I, isi_I', isi2R, len_u2, len_u3, len_uT, ln_L, ln_T, ix_u2a, ix_u2b, ix_u3a, ix_u3b, ix_u3c, decide_true, decide_false, eq_self, seq_uT, seq_L, seq_T, sr_uT, sr_L, sr_T, bindT_n, bindT_t, setAll, bindT2, bindT3, wipeD, List.map_cons, List.map_nil, tupleR, listR, intR, outR, addD, mulD, addI, binR_sub, negR, if_true, if_false, Int.reduceToNat, Int.reduceEq, Int.reduceLT, Int.reduceLE, Bool.false_eq_true, Bool.true_eq_false, Bool.not_true, Bool.not_false, lcGo_A, lcA_some, lcA_if, lcA_none, lcI_some, lcI_if, lcI_none, need_len, lcGo_nilA, lcGo_consA, and_ok, or_ok, chain_ok, slcTo_L, slcTo_T, slcFrom_L, slcFrom_T, rev_T, rev_L, Bool.true_and, Bool.and_true, Bool.false_and, Bool.and_false, Bool.true_or, Bool.or_true, Bool.false_or, Bool.or_false, mulL0, mulL1, addL0, addL1, appL, extL, allR_t, tupU2, tupU3, eqI, neI, eqN, neN, eqL00, neL00, eqT00, neT00, eqB, neB, eqL, neL, g_eqT, g_neT, eqL0, neL0, g_eqT0, g_neT0, inL, inT, memB_t, memB_f, cg_0, cg_1, cg_2, cg_3, cg_4, cg_5, cg_6, ha, hsort, hsf])
  have s5 : exe C (callF C T 11) s_law_5 [some (.scr ns), some (.tup (bs.map uT)), some (.lst ((joinL bs).map uT)), p3, o4, o5, none, none, none] = .nx [some (.scr ns), some (.tup (bs.map uT)), some (.lst ((joinL bs).map uT)), p3, o4, o5, some (hdD (srt (joinL bs))), none, none] := by
    simp -implicitDefEqProofs (disch := first | assumption | omega) only [exes, exe_asg, exe_asgt, exe_setix, exe_mut, exe_expr, exe_ret, exe_cond, exe_rais, exe_pass, exe_tryr, bnd_ex, out_ex, asB_ex, notR_ex, isi_no, isi_bt, isi_bi, isi_bp, isi_si, isi_st, isi_li, isi_lt, isi_ti, isi_it, nl0, tl0, ll0, nl1, tl1, ll1, nl2, tl2, ll2, nl3, tl3, ll3, nl4, tl4, ll4, nl5, tl5, ll5, nl6, tl6, ll6, nl7, tl7, ll7, nl8, tl8, ll8, ev, evs, evo, evi, evB, En.get, bnd_ok, out_ok, asB_ok, asOI_ok, notR_ok, Cn.d, List.getElem?_cons_zero, List.getElem?_cons_succ, List.set_cons_zero, List.set_cons_succ, bltR, cmpR, isi_u2, isi_u3, isi_uT, isi_T, isi_I, isi_I', isi2R, len_u2, len_u3, len_uT, ln_L, ln_T, ix_u2a, ix_u2b, ix_u3a, ix_u3b, ix_u3c, decide_true, decide_false, eq_self, seq_uT, seq_L, seq_T, sr_uT, sr_L, sr_T, bindT_n, bindT_t, setAll, bindT2, bindT3, wipeD, List.map_cons, List.map_nil, tupleR, listR, intR, outR, addD, mulD, addI, binR_sub, negR, if_true, if_false, Int.reduceToNat, Int.reduceEq, Int.reduceLT, Int.reduceLE, Bool.false_eq_true, Bool.true_eq_false, Bool.not_true, Bool.not_false, lcGo_A, lcA_some, lcA_if, lcA_none, lcI_some, lcI_if, lcI_none, need_len, lcGo_nilA, lcGo_consA, and_ok, or_ok, chain_ok, slcTo_L, slcTo_T, slcFrom_L, slcFrom_T, rev_T, rev_L, Bool.true_and, Bool.and_true, Bool.false_and, Bool.and_false, Bool.true_or, Bool.or_true, Bool.false_or, Bool.or_false, mulL0, mulL1, addL0, addL1, appL, extL, allR_t, tupU2, tupU3, eqI, neI, eqN, neN, eqL00, neL00, eqT00, neT00, eqB, neB, eqL, neL, g_eqT, g_neT, eqL0, neL0, g_eqT0, g_neT0, inL, inT, memB_t, memB_f, cg_0, cg_1, cg_2, cg_3, cg_4, cg_5, cg_6, s_law_5, hbest]
  have hsl := srt_len (joinL bs)
  have hlong : ∀ x ∈ AN, callF C T 11 5 [uT x, .int 1] = .ok (.int (bl x)) := fun x hx => map_all (longA 7) x hx
  have s67 : exe C (callF C T 11) s_law_6 [some (.scr ns), some (.tup (bs.map uT)), some (.lst ((joinL bs).map uT)), p3, o4, o5, some (hdD (srt (joinL bs))), none, none] = .nx [some (.scr ns), some (.tup (bs.map uT)), some (.lst ((joinL bs).map uT)), p3, o4, o5, some (hdD (srt (joinL bs))), none, none] ∧
      exe C (callF C T 11) s_law_7 [some (.scr ns), some (.tup (bs.map uT)), some (.lst ((joinL bs).map uT)), p3, o4, o5, some (hdD (srt (joinL bs))), none, none] = .nx [some (.scr ns), some (.tup (bs.map uT)), some (.lst ((joinL bs).map uT)), p3, o4, o5, some (hdD (srt (joinL bs))), none, none] := by
    cases e : srt (joinL bs) with
    | nil =>
      rw [e] at hsl
      have hJ : joinL bs = [] := List.eq_nil_of_length_eq_zero hsl.symm
      have hd0 : hdD [] = .non := rfl
      rw [hd0, hJ]
      refine ⟨?_, ?_⟩
      · kernel_rfl
      · kernel_rfl
    | cons x r =>
      obtain ⟨k1, k2⟩ := srt_head e
      have hJ : ¬ joinL bs = [] := fun z => by rw [z] at k1; cases k1
      have hd1 : hdD (x :: r) = .tup (x.map D.int) := rfl
      have hx : callF C T 11 5 [.tup (x.map D.int), .int 1] = .ok (.int (bl x)) := hlong x (hJA x k1)
      have hfl : (joinL bs).filter (fun y => decide (bl y < bl x)) = [] := filt_none fun y hy => decide_eq_false (by have := k2 y hy; omega)
      have hall : ∀ y ∈ joinL bs, callF C T 11 5 [uT y, .int 1] = .ok (.int (bl y)) := fun y hy => hlong y (hJA y hy)
      rw [hd1]
      refine ⟨?_, ?_⟩
      · simp -implicitDefEqProofs (disch := first | assumption | omega) only [exes, exe_asg, exe_asgt, exe_setix, exe_mut, exe_expr, exe_ret, exe_cond, exe_rais, exe_pass, exe_tryr, bnd_ex, out_ex, asB_ex, notR_ex, isi_no, isi_bt, isi_bi, isi_bp, isi_si, isi_st, isi_li, isi_lt, isi_ti, isi_it, nl0, tl0, ll0, nl1, tl1, ll1, nl2, tl2, ll2, nl3, tl3, ll3, nl4, tl4, ll4, nl5, tl5, ll5, nl6, tl6, ll6, nl7, tl7, ll7, nl8, tl8, ll8, ev, evs, evo, evi, evB, En.get, bnd_ok, out_ok, asB_ok, asOI_ok, notR_ok, Cn.d, List.getElem?_cons_zero, List.getElem?_cons_succ, List.set_cons_zero, List.set_cons_succ, bltR, cmpR, isi_u2, isi_u3, isi_uT, isi_T, isi_I, isi_I', isi2R, len_u2, len_u3, len_uT, ln_L, ln_T, ix_u2a, ix_u2b, ix_u3a, ix_u3b, ix_u3c, decide_true, decide_false, eq_self, seq_uT, seq_L, seq_T, sr_uT, sr_L, sr_T, bindT_n, bindT_t, setAll, bindT2, bindT3, wipeD, List.map_cons, List.map_nil, tupleR, listR, intR, outR, addD, mulD, addI, binR_sub, negR, if_true, if_false, Int.reduceToNat, Int.reduceEq, Int.reduceLT, Int.reduceLE, Bool.false_eq_true, Bool.true_eq_false, Bool.not_true, Bool.not_false, lcGo_A, lcA_some, lcA_if, lcA_none, lcI_some, lcI_if, lcI_none, need_len, lcGo_nilA, lcGo_consA, and_ok, or_ok, chain_ok, slcTo_L, slcTo_T, slcFrom_L, slcFrom_T, rev_T, rev_L, Bool.true_and, Bool.and_true, Bool.false_and, Bool.and_false, Bool.true_or, Bool.or_true, Bool.false_or, Bool.or_false, mulL0, mulL1, addL0, addL1, appL, extL, allR_t, tupU2, tupU3, eqI, neI, eqN, neN, eqL00, neL00, eqT00, neT00, eqB, neB, eqL, neL, g_eqT, g_neT, eqL0, neL0, g_eqT0, g_neT0, inL, inT, memB_t, memB_f, cg_0, cg_1, cg_2, cg_3, cg_4, cg_5, cg_6, s_law_6_0, s_law_6, eq_false hJ]
      · simp -implicitDefEqProofs (disch := first | assumption | omega) only [exes, exe_asg, exe_asgt, exe_setix, exe_mut, exe_expr, exe_ret, exe_cond, exe_rais, exe_pass, exe_tryr, bnd_ex, out_ex, asB_ex, notR_ex, isi_no, isi_bt, isi_bi, isi_bp, isi_si, isi_st, isi_li, isi_lt, isi_ti, isi_it, nl0, tl0, ll0, nl1, tl1, ll1, nl2, tl2, ll2, nl3, tl3, ll3, nl4, tl4, ll4, nl5, tl5, ll5, nl6, tl6, ll6, nl7, tl7, ll7, nl8, tl8, ll8, ev, evs, evo, evi, evB, En.get, bnd_ok, out_ok, asB_ok, asOI_ok, notR_ok, Cn.d, List.getElem?_cons_zero, List.getElem?_cons_succ, List.set_cons_zero, List.set_cons_succ, bltR, cmpR, isi_u2, isi_u3, isi_uT, isi_T, isi_I, isi_I', isi2R, len_u2, len_u3, len_uT, ln_L, ln_T, ix_u2a, ix_u2b, ix_u3a, ix_u3b, ix_u3c, decide_true, decide_false, eq_self, seq_uT, seq_L, seq_T, sr_uT, sr_L, sr_T, bindT_n, bindT_t, setAll, bindT2, bindT3, wipeD, List.map_cons, List.map_nil, tupleR, listR, intR, outR, addD, mulD, addI, binR_sub, negR, if_true, if_false, Int.reduceToNat, Int.reduceEq, Int.reduceLT, Int.reduceLE, Bool.false_eq_true, Bool.true_eq_false, Bool.not_true, Bool.not_false, lcGo_A, lcA_some, lcA_if, lcA_none, lcI_some, lcI_if, lcI_none, need_len, lcGo_nilA, lcGo_consA, and_ok, or_ok, chain_ok, slcTo_L, slcTo_T, slcFrom_L, slcFrom_T, rev_T, rev_L, Bool.true_and, Bool.and_true, Bool.false_and, Bool.and_false, Bool.true_or, Bool.or_true, Bool.false_or, Bool.or_false, mulL0, mulL1, addL0, addL1, appL, extL, allR_t, tupU2, tupU3, eqI, neI, eqN, neN, eqL00, neL00, eqT00, neT00, eqB, neB, eqL, neL, g_eqT, g_neT, eqL0, neL0, g_eqT0, g_neT0, inL, inT, memB_t, memB_f, cg_0, cg_1, cg_2, cg_3, cg_4, cg_5, cg_6, s_law_7_0, s_law_7, hx, hall, ltI, hfl]
  have s8 : exe C (callF C T 11) s_law_8 [some (.scr ns), some (.tup (bs.map uT)), some (.lst ((joinL bs).map uT)), p3, o4, o5, some (hdD (srt (joinL bs))), none, none] = .nx [some (.scr ns), some (.tup (bs.map uT)), some (.lst ((joinL bs).map uT)), p3, o4, o5, some (hdD (srt (joinL bs))), some (.tup ((great bs).map uT)), none] := by
    simp -implicitDefEqProofs (disch := first | assumption | omega) only [exes, exe_asg, exe_asgt, exe_setix, exe_mut, exe_expr, exe_ret, exe_cond, exe_rais, exe_pass, exe_tryr, bnd_ex, out_ex, asB_ex, notR_ex, isi_no, isi_bt, isi_bi, isi_bp, isi_si, isi_st, isi_li, isi_lt, isi_ti, isi_it, nl0, tl0, ll0, nl1, tl1, ll1, nl2, tl2, ll2, nl3, tl3, ll3, nl4, tl4, ll4, nl5, tl5, ll5, nl6, tl6, ll6, nl7, tl7, ll7, nl8, tl8, ll8, ev, evs, evo, evi, evB, En.get, bnd_ok, out_ok, asB_ok, asOI_ok, notR_ok, Cn.d, List.getElem?_cons_zero, List.getElem?_cons_succ, List.set_cons_zero, List.set_cons_succ, bltR, cmpR, isi_u2, isi_u3, isi_uT, isi_T, isi_I, isi_I', isi2R, len_u2, len_u3, len_uT, ln_L, ln_T, ix_u2a, ix_u2b, ix_u3a, ix_u3b, ix_u3c, decide_true, decide_false, eq_self, seq_uT, seq_L, seq_T, sr_uT, sr_L, sr_T, bindT_n, bindT_t, setAll, bindT2, bindT3, wipeD, List.map_cons, List.map_nil, tupleR, listR, intR, outR, addD, mulD, addI, binR_sub, negR, if_true, if_false, Int.reduceToNat, Int.reduceEq, Int.reduceLT, Int.reduceLE, Bool.false_eq_true, Bool.true_eq_false, Bool.not_true, Bool.not_false, lcGo_A, lcA_some, lcA_if, lcA_none, lcI_some, lcI_if, lcI_none, need_len, lcGo_nilA, lcGo_consA, and_ok, or_ok, chain_ok, slcTo_L, slcTo_T, slcFrom_L, slcFrom_T, rev_T, rev_L, Bool.true_and, Bool.and_true, Bool.false_and, Bool.and_false, Bool.true_or, Bool.or_true, Bool.false_or, Bool.or_false, mulL0, mulL1, addL0, addL1, appL, extL, allR_t, tupU2, tupU3, eqI, neI, eqN, neN, eqL00, neL00, eqT00, neT00, eqB, neB, eqL, neL, g_eqT, g_neT, eqL0, neL0, g_eqT0, g_neT0, inL, inT, memB_t, memB_f, cg_0, cg_1, cg_2, cg_3, cg_4, cg_5, cg_6, s_law_8, hgr]
    rfl
  have s9 : exe C (callF C T 11) s_law_9 [some (.scr ns), some (.tup (bs.map uT)), some (.lst ((joinL bs).map uT)), p3, o4, o5, some (hdD (srt (joinL bs))), some (.tup ((great bs).map uT)), none] = .nx [some (.scr ns), some (.tup (bs.map uT)), some (.lst ((joinL bs).map uT)), p3, o4, o5, some (hdD (srt (joinL bs))), some (.tup ((great bs).map uT)), none] := by
    simp -implicitDefEqProofs (disch := first | assumption | omega) only [exes, exe_asg, exe_asgt, exe_setix, exe_mut, exe_expr, exe_ret, exe_cond, exe_rais, exe_pass, exe_tryr, bnd_ex, out_ex, asB_ex, notR_ex, isi_no, isi_bt, isi_bi, isi_bp, isi_si, isi_st, isi_li, isi_lt, isi_ti, isi_it, nl0, tl0, ll0, nl1, tl1, ll1, nl2, tl2, ll2, nl3, tl3, ll3, nl4, tl4, ll4, nl5, tl5, ll5, nl6, tl6, ll6, nl7, tl7, ll7, nl8, tl8, ll8, ev, evs, evo, evi, evB, En.get, bnd_ok, out_ok, asB_ok, asOI_ok, notR_ok, Cn.d, List.getElem?_cons_zero, List.getElem?_cons_succ, List.set_cons_zero, List.set_cons_succ, bltR, cmpR, isi_u2, isi_u3, isi_uT, isi_T, isi_I, isi_I', isi2R, len_u2, len_u3, len_uT, ln_L, ln_T, ix_u2a, ix_u2b, ix_u3a, ix_u3b, ix_u3c, decide_true, decide_false, eq_self, seq_uT, seq_L, seq_T, sr_uT, sr_L, sr_T, bindT_n, bindT_t, setAll, bindT2, bindT3, wipeD, List.map_cons, List.map_nil, tupleR, listR, intR, outR, addD, mulD, addI, binR_sub, negR, if_true, if_false, Int.reduceToNat, Int.reduceEq, Int.reduceLT, Int.reduceLE, Bool.false_eq_true, Bool.true_eq_false, Bool.not_true, Bool.not_false, lcGo_A, lcA_some, lcA_if, lcA_none, lcI_some, lcI_if, lcI_none, need_len, lcGo_nilA, lcGo_consA, and_ok, or_ok, chain_ok, slcTo_L, slcTo_T, slcFrom_L, slcFrom_T, rev_T, rev_L, Bool.true_and, Bool.and_true, Bool.false_and, Bool.and_false, Bool.true_or, Bool.or_true, Bool.false_or, Bool.or_false, mulL0, mulL1, addL0, addL1, appL, extL, allR_t, tupU2, tupU3, eqI, neI, eqN, neN, eqL00, neL00, eqT00, neT00, eqB, neB, eqL, neL, g_eqT, g_neT, eqL0, neL0, g_eqT0, g_neT0, inL, inT, memB_t, memB_f, cg_0, cg_1, cg_2, cg_3, cg_4, cg_5, cg_6, s_law_9_0, s_law_9, hgb, hgs]
  have hf2 : (great bs).filter (fun x => !memB x bs) = [] := filt_none fun x hx => by rw [memB_t (g2.subset hx)]; rfl
  have s10 : exe C (callF C T 11) s_law_10 [some (.scr ns), some (.tup (bs.map uT)), some (.lst ((joinL bs).map uT)), p3, o4, o5, some (hdD (srt (joinL bs))), some (.tup ((great bs).map uT)), none] = .nx [some (.scr ns), some (.tup (bs.map uT)), some (.lst ((joinL bs).map uT)), p3, o4, o5, some (hdD (srt (joinL bs))), some (.tup ((great bs).map uT)), none] := by
    simp -implicitDefEqProofs (disch := first | assumption | omega) only [exes, exe_asg, exe_asgt, exe_setix, exe_mut, exe_expr, exe_ret, exe_cond, exe_rais, exe_pass, exe_tryr, bnd_ex, out_ex, asB_ex, notR_ex, isi_no, isi_bt, isi_bi, isi_bp, isi_si, isi_st, isi_li, isi_lt, isi_ti, isi_it, nl0, tl0, ll0, nl1, tl1, ll1, nl2, tl2, ll2, nl3, tl3, ll3, nl4, tl4, ll4, nl5, tl5, ll5, nl6, tl6, ll6, nl7, tl7, ll7, nl8, tl8, ll8, ev, evs, evo, evi, evB, En.get, bnd_ok, out_ok, asB_ok, asOI_ok, notR_ok, Cn.d, List.getElem?_cons_zero, List.getElem?_cons_succ, List.set_cons_zero, List.set_cons_succ, bltR, cmpR, isi_u2, isi_u3, isi_uT, isi_T, isi_I, isi_I', isi2R, len_u2, len_u3, len_uT, ln_L, ln_T, ix_u2a, ix_u2b, ix_u3a, ix_u3b, ix_u3c, decide_true, decide_false, eq_self, seq_uT, seq_L, seq_T, sr_uT, sr_L, sr_T, bindT_n, bindT_t, setAll, bindT2, bindT3, wipeD, List.map_cons, List.map_nil, tupleR, listR, intR, outR, addD, mulD, addI, binR_sub, negR, if_true, if_false, Int.reduceToNat, Int.reduceEq, Int.reduceLT, Int.reduceLE, Bool.false_eq_true, Bool.true_eq_false, Bool.not_true, Bool.not_false, lcGo_A, lcA_some, lcA_if, lcA_none, lcI_some, lcI_if, lcI_none, need_len, lcGo_nilA, lcGo_consA, and_ok, or_ok, chain_ok, slcTo_L, slcTo_T, slcFrom_L, slcFrom_T, rev_T, rev_L, Bool.true_and, Bool.and_true, Bool.false_and, Bool.and_false, Bool.true_or, Bool.or_true, Bool.false_or, Bool.or_false, mulL0, mulL1, addL0, addL1, appL, extL, allR_t, tupU2, tupU3, eqI, neI, eqN, neN, eqL00, neL00, eqT00, neT00, eqB, neB, eqL, neL, g_eqT, g_neT, eqL0, neL0, g_eqT0, g_neT0, inL, inT, memB_t, memB_f, cg_0, cg_1, cg_2, cg_3, cg_4, cg_5, cg_6, s_law_10_0, s_law_10, hf2]
  have hge := great_eq hne
  have hgg : callF C T 11 19 [.tup ((great bs).map uT)] = .ok (.tup ((great bs).map uT)) := hgg
  have s11 : exe C (callF C T 11) s_law_11 [some (.scr ns), some (.tup (bs.map uT)), some (.lst ((joinL bs).map uT)), p3, o4, o5, some (hdD (srt (joinL bs))), some (.tup ((great bs).map uT)), none] = .nx [some (.scr ns), some (.tup (bs.map uT)), some (.lst ((joinL bs).map uT)), p3, o4, o5, some (hdD (srt (joinL bs))), some (.tup ((great bs).map uT)), none] := by
    simp -implicitDefEqProofs (disch := first | assumption | omega) only [exes, exe_asg, exe_asgt, exe_setix, exe_mut, exe_expr, exe_ret, exe_cond, exe_rais, exe_pass, exe_tryr, bnd_ex, out_ex, asB_ex, notR_ex, isi_no, isi_bt, isi_bi, isi_bp, isi_si, isi_st, isi_li, isi_lt, isi_ti, isi_it, nl0, tl0, ll0, nl1, tl1, ll1, nl2, tl2, ll2, nl3, tl3, ll3, nl4, tl4, ll4, nl5, tl5, ll5, nl6, tl6, ll6, nl7, tl7, ll7, nl8, tl8, ll8, ev, evs, evo, evi, evB, En.get, bnd_ok, out_ok, asB_ok, asOI_ok, notR_ok, Cn.d, List.getElem?_cons_zero, List.getElem?_cons_succ, List.set_cons_zero, List.set_cons_succ, bltR, cmpR, isi_u2, isi_u3, isi_uT, isi_T, isi_I, isi_I', isi2R, len_u2, len_u3, len_uT, ln_L, ln_T, ix_u2a, ix_u2b, ix_u3a, ix_u3b, ix_u3c, decide_true, decide_false, eq_self, seq_uT, seq_L, seq_T, sr_uT, sr_L, sr_T, bindT_n, bindT_t, setAll, bindT2, bindT3, wipeD, List.map_cons, List.map_nil, tupleR, listR, intR, outR, addD, mulD, addI, binR_sub, negR, if_true, if_false, Int.reduceToNat, Int.reduceEq, Int.reduceLT, Int.reduceLE, Bool.false_eq_true, Bool.true_eq_false, Bool.not_true, Bool.not_false, lcGo_A, lcA_some, lcA_if, lcA_none, lcI_some, lcI_if, lcI_none, need_len, lcGo_nilA, lcGo_consA, and_ok, or_ok, chain_ok, slcTo_L, slcTo_T, slcFrom_L, slcFrom_T, rev_T, rev_L, Bool.true_and, Bool.and_true, Bool.false_and, Bool.and_false, Bool.true_or, Bool.or_true, Bool.false_or, Bool.or_false, mulL0, mulL1, addL0, addL1, appL, extL, allR_t, tupU2, tupU3, eqI, neI, eqN, neN, eqL00, neL00, eqT00, neT00, eqB, neB, eqL, neL, g_eqT, g_neT, eqL0, neL0, g_eqT0, g_neT0, inL, inT, memB_t, memB_f, cg_0, cg_1, cg_2, cg_3, cg_4, cg_5, cg_6, s_law_11_0, s_law_11, hge, hbs, hgg]
  have s12 : exe C (callF C T 11) s_law_12 [some (.scr ns), some (.tup (bs.map uT)), some (.lst ((joinL bs).map uT)), p3, o4, o5, some (hdD (srt (joinL bs))), some (.tup ((great bs).map uT)), none] = .nx [some (.scr ns), some (.tup (bs.map uT)), some (.lst ((joinL bs).map uT)), p3, o4, o5, some (hdD (srt (joinL bs))), some (.tup ((great bs).map uT)), some (.lst ((joinL (great bs)).map uT))] := by
    simp -implicitDefEqProofs (disch := first | assumption | omega) only [exes, exe_asg, exe_asgt, exe_setix, exe_mut, exe_expr, exe_ret, exe_cond, exe_rais, exe_pass, exe_tryr, bnd_ex, out_ex, asB_ex, notR_ex, isi_no, isi_bt, isi_bi, isi_bp, isi_si, isi_st, isi_li, isi_lt, isi_ti, isi_it, nl0, tl0, ll0, nl1, tl1, ll1, nl2, tl2, ll2, nl3, tl3, ll3, nl4, tl4, ll4, nl5, tl5, ll5, nl6, tl6, ll6, nl7, tl7, ll7, nl8, tl8, ll8, ev, evs, evo, evi, evB, En.get, bnd_ok, out_ok, asB_ok, asOI_ok, notR_ok, Cn.d, List.getElem?_cons_zero, List.getElem?_cons_succ, List.set_cons_zero, List.set_cons_succ, bltR, cmpR, isi_u2, isi_u3, isi_uT, isi_T, isi_I, isi_I', isi2R, len_u2, len_u3, len_uT, ln_L, ln_T, ix_u2a, ix_u2b, ix_u3a, ix_u3b, ix_u3c, decide_true, decide_false, eq_self, seq_uT, seq_L, seq_T, sr_uT, sr_L, sr_T, bindT_n, bindT_t, setAll, bindT2, bindT3, wipeD, List.map_cons, List.map_nil, tupleR, listR, intR, outR, addD, mulD, addI, binR_sub, negR, if_true, if_false, Int.reduceToNat, Int.reduceEq, Int.reduceLT, Int.reduceLE, Bool.false_eq_true, Bool.true_eq_false, Bool.not_true, Bool.not_false, lcGo_A, lcA_some, lcA_if, lcA_none, lcI_some, lcI_if, lcI_none, need_len, lcGo_nilA, lcGo_consA, and_ok, or_ok, chain_ok, slcTo_L, slcTo_T, slcFrom_L, slcFrom_T, rev_T, rev_L, Bool.true_and, Bool.and_true, Bool.false_and, Bool.and_false, Bool.true_or, Bool.or_true, Bool.false_or, Bool.or_false, mulL0, mulL1, addL0, addL1, appL, extL, allR_t, tupU2, tupU3, eqI, neI, eqN, neN, eqL00, neL00, eqT00, neT00, eqB, neB, eqL, neL, g_eqT, g_neT, eqL0, neL0, g_eqT0, g_neT0, inL, inT, memB_t, memB_f, cg_0, cg_1, cg_2, cg_3, cg_4, cg_5, cg_6, s_law_12, hgj]
  have hf3 : bs.filter (fun x => memB x (joinL (great bs))) = [] := filt_none fun x hx => memB_f (great_full hb hx)
  have s13 : exe C (callF C T 11) s_law_13 [some (.scr ns), some (.tup (bs.map uT)), some (.lst ((joinL bs).map uT)), p3, o4, o5, some (hdD (srt (joinL bs))), some (.tup ((great bs).map uT)), some (.lst ((joinL (great bs)).map uT))] = .ret (.bl true) := by
    simp -implicitDefEqProofs (disch := first | assumption | omega) only [exes, exe_asg, exe_asgt, exe_setix, exe_mut, exe_expr, exe_ret, exe_cond, exe_rais, exe_pass, exe_tryr, bnd_ex, out_ex, asB_ex, notR_ex, isi_no, isi_bt, isi_bi, isi_bp, isi_si, isi_st, isi_li, isi_lt, isi_ti, isi_it, nl0, tl0, ll0, nl1, tl1, ll1, nl2, tl2, ll2, nl3, tl3, ll3, nl4, tl4, ll4, nl5, tl5, ll5, nl6, tl6, ll6, nl7, tl7, ll7, nl8, tl8, ll8, ev, evs, evo, evi, evB, En.get, bnd_ok, out_ok, asB_ok, asOI_ok, notR_ok, Cn.d, List.getElem?_cons_zero, List.getElem?_cons_succ, List.set_cons_zero, List.set_cons_succ, bltR, cmpR, isi_u2, isi_u3, isi_uT, isi_T, isi_I, isi_I', isi2R, len_u2, len_u3, len_uT, ln_L, ln_T, ix_u2a, ix_u2b, ix_u3a, ix_u3b, ix_u3c, decide_true, decide_false, eq_self, seq_uT, seq_L, seq_T, sr_uT, sr_L, sr_T, bindT_n, bindT_t, setAll, bindT2, bindT3, wipeD, List.map_cons, List.map_nil, tupleR, listR, intR, outR, addD, mulD, addI, binR_sub, negR, if_true, if_false, Int.reduceToNat, Int.reduceEq, Int.reduceLT, Int.reduceLE, Bool.false_eq_true, Bool.true_eq_false, Bool.not_true, Bool.not_false, lcGo_A, lcA_some, lcA_if, lcA_none, lcI_some, lcI_if, lcI_none, need_len, lcGo_nilA, lcGo_consA, and_ok, or_ok, chain_ok, slcTo_L, slcTo_T, slcFrom_L, slcFrom_T, rev_T, rev_L, Bool.true_and, Bool.and_true, Bool.false_and, Bool.and_false, Bool.true_or, Bool.or_true, Bool.false_or, Bool.or_false, mulL0, mulL1, addL0, addL1, appL, extL, allR_t, tupU2, tupU3, eqI, neI, eqN, neN, eqL00, neL00, eqT00, neT00, eqB, neB, eqL, neL, g_eqT, g_neT, eqL0, neL0, g_eqT0, g_neT0, inL, inT, memB_t, memB_f, cg_0, cg_1, cg_2, cg_3, cg_4, cg_5, cg_6, s_law_13, hf3]
  rw [e0, eb, exes_nx s0, exes_nx s1, exes_nx s2, exes_nx s3, exes_nx s4, exes_nx s5, exes_nx s67.1, exes_nx s67.2, exes_nx s8, exes_nx s9, exes_nx s10, exes_nx s11, exes_nx s12, exes_ret s13]
  rfl
end Lw

theorem PySem.Challenge.cw_boxtaps_k71_whole_joining_holds : PySem.Challenge.rw_boxtaps_k71_whole_joining.Holds := by
  exact Lw.holds Lw.main
