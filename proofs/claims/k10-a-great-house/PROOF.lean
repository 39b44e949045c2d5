import PyProof.Rows.All
import Wide.All
import OpenK.AllK
import Wide.FinOn
import HandS.ForMost
import PyProof.ReprRoads
import HandS.ForExc
import HandS.HeadHook2
import HandS.CallSlots
import HandS.Iter
import HandS.TupAny
import HandS.SortInts
import HandS.Deep
import HandS.TupLe
import HandS.IsInst
import HandS.TupSets
import HandS.More
import HandS.Style
import HandS.Ends
import HandS.HeadEnd
import HandS.Defaults
import HandS.Small
import HandS.Set
import HandS.SetFor
import HandS.Strs
import HandS.Sort
import PyProof.DictWalks
import HandS.Dict
import HandS.Conv
import KE.KStateDown
import HandS.Head0
import HandS.Head1
import HandS.Head2
import HandS.HeadHook1
import HandS.FStrTup
import PyProof.Rows.StrJoinMade
import PySem.Challenge.RW_feastrobes_k10_a_great_house
set_option Elab.async false
set_option linter.all false
set_option maxRecDepth 100000
set_option maxHeartbeats 0
/-! Vi: a small interpreter of values, ahead of its soundness. -/
namespace Vi
open PySem L2
/-! ### data -/
inductive D where
  | non | bl (b : Bool) | int (i : Int) | str (s : Str)
  | tup (ds : List D) | lst (ds : List D) | dct (ks : List Key) (ds : List D) | scr (ds : List D)
  | obj (n : Nat) | fn (n : Nat) | exc (c : Nat) (ds : List D)
/-- what a mutable object holds -/
inductive C where
  | lst (ds : List D) | dct (ks : List Key) (ds : List D) | ins (c : Nat) (fs : List Str) (ds : List D)
/-- a slot: nothing, a value that never changes, an object of its own (io: handed in by a caller; lk: a loop walks it) -/
inductive Sl where
  | no | val (io : Bool) (d : D) | own (io lk : Bool) (c : C)
inductive Rv where
  | val (d : D) | own (c : C)
structure Ex where
  cls : Nat
  ds : List D
inductive Res (α : Type) where
  | ok (a : α) (r : List Sl) (cs : List C) | ex (x : Ex) (r : List Sl) (cs : List C) | no
def Res.bind {α β : Type} (m : Res α) (f : α → List Sl → List C → Res β) : Res β := match m with
  | .ok a r cs => f a r cs
  | .ex x r cs => .ex x r cs
  | .no => .no
/-- the end of a call: its result, what was handed in by reference as it stands, the cells -/
inductive Rc where
  | ok (v : Rv) (outs : List Rv) (cs : List C) | ex (x : Ex) (outs : List Rv) (cs : List C) | no
abbrev Gc := Nat → List Rv → List C → Rc
def C.toD : C → Option D
  | .lst ds => some (.lst ds)
  | .dct ks ds => some (.dct ks ds)
  | .ins _ _ _ => none
def Rv.frz (v : Rv) (r : List Sl) (cs : List C) : Res D := match v with
  | .val d => .ok d r cs
  | .own c => match c.toD with
    | some d => .ok d r cs
    | none => .no
/-! ### the text -/
inductive Op where
  | add | sub | mul | fdiv | mod | pow
inductive Cm where
  | lt | le | gt | ge | eq | ne | mem | nmem | is | nis
inductive Bi where
  | len | abs | min | max | int | str | list | tuple | sorted | sum | any | all
/-- a built-in class that isinstance asks -/
inductive Ty where
  | int | bool | list | tuple | str | dict
  deriving DecidableEq
/-- a method that changes a list, a dict of one's own -/
inductive Mu where
  | append | pop | popAt | extend | clear | reverse | insert
/-- further pure operations, each of a form of its own: len(set(x)), sorted(set(x)), d.get(k), d.get(k, y), x in d.values(), x not in d.values(), list(range(j)), list(range(i, j)), dict(l), repr(x), min(l), max(l), list(zip(l, m)), sum(l, []), l.index(x), l.count(x), min(d.values()) -/
inductive Ok where
  | lenSet | sortSet | get1 | get2 | inVals | ninVals | lrange1 | lrange2 | dictOf | repr | min1 | max1 | zipL | sumL | index | count | minVals
  deriving DecidableEq
/-- a default that a call leaves out -/
inductive Cst where
  | non | bl (b : Bool) | int (i : Int) | str (s : Str)
  deriving DecidableEq
/-- what a parameter gets: the i-th that is handed in, a default -/
inductive A0 where
  | at (i : Nat) | df (c : Cst)
  deriving DecidableEq
/-- a part of a target: a name, a tuple of names -/
inductive Pt where
  | n (i : Nat) | t (is : List Nat)
/-- a target -/
inductive Tg where
  | name (i : Nat) | tup (is : List Nat) | pat (ps : List Pt)
mutual
inductive E where
  | var (i : Nat)
  | non | bl (b : Bool) | int (i : Int) | str (s : Str)
  | glo (x : Str) (c : Cst)
  | bin (o : Op) (a b : E)
  | neg (a : E)
  | cmp (c : Cm) (a b : E)
  | cmp2 (c c2 : Cm) (a b e : E)
  | and (a b : E) | or (a b : E) | not (a : E)
  | ite (c a b : E)
  | tup (es : Es) | lst (es : Es) | dct (es : Es)
  | idx (a i : E)
  | slc (a : E) (lo hi : Es)
  | rev (a : E)
  | call (f : Nat) (es : Es) (ks : List Str) (kes : Es) (ord : List A0)
  | bi (b : Bi) (es : Es)
  | op (k : Ok) (es : Es)
  | stuck
  | isi (t : Ty) (e : E)
  | mut (m : Mu) (i : Nat) (es : Es)
  | comp (elt : E) (tg : Tg) (sr : Src) (cs : Es) (vs : List Nat)
inductive Es where
  | nil | cons (e : E) (es : Es)
inductive Src where
  | lst (e : E) | tup (e : E) | range (es : Es) | enum (e : E) | zip (a b : E) | items (e : E) | keys (e : E) | vals (e : E)
end
mutual
inductive S where
  | ex (e : E)
  | asg (i : Nat) (e : E)
  | asgT (is : List Nat) (e : E)
  | asgP (ps : List Pt) (e : E)
  | aug (i : Nat) (o : Op) (e : E)
  | setI (i : Nat) (k e : E)
  | setI2 (i : Nat) (k : E) (j : Nat) (l e : E)
  | ifs (c : E) (a b : Ss)
  | for_ (tg : Tg) (sr : Src) (b : Ss)
  | whl (c : E) (b : Ss)
  | stuck
  | ret (e : E) | retN | brk | cont | pass
inductive Ss where
  | nil | cons (s : S) (ss : Ss)
end
structure Fn where
  np : Nat
  ns : Nat
  body : Ss
end Vi

namespace Vi
open PySem L2
/-! ### operands: a slot's own object is read as it stands when the operation is done -/
inductive Od where
  | slot (i : Nat) | val (d : D)
def rd (r : List Sl) (o : Od) : Option D := match o with
  | .val d => some d
  | .slot i => match r[i]? with
    | some (.val _ d) => some d
    | some (.own _ _ c) => c.toD
    | _ => none
def rds (r : List Sl) : List Od → Option (List D)
  | [] => some []
  | o :: os => match rd r o with
    | some d => match rds r os with
      | some ds => some (d :: ds)
      | none => none
    | none => none
/-- a name read as a value: an object of its own is frozen -/
def readVar (i : Nat) (r : List Sl) (cs : List C) : Res Rv := match r[i]? with
  | some (.val _ d) => .ok (.val d) r cs
  | some (.own io false c) => match c.toD with
    | some d => .ok (.val d) (r.set i (.val io d)) cs
    | none => .no
  | _ => .no
def opd (e : E) (r : List Sl) (cs : List C) (m : Res Rv) : Res Od := match e with
  | .var i => match r[i]? with
    | some (.val _ d) => .ok (.val d) r cs
    | some (.own _ _ _) => .ok (.slot i) r cs
    | _ => .no
  | _ => m.bind fun v r cs => (v.frz r cs).bind fun d r cs => .ok (.val d) r cs
def liftO {α : Type} (o : Option α) (r : List Sl) (cs : List C) : Res α := match o with
  | some a => .ok a r cs
  | none => .no
/-- a value: frozen -/
def Res.d (m : Res Rv) : Res D := m.bind fun v r cs => v.frz r cs
def boolOf (m : Res Rv) : Res Bool := m.bind fun v r cs => match v with
  | .val (.bl b) => .ok b r cs
  | _ => .no
/-! ### operations on data -/
/-- bounds: told by natural numbers, so that nothing deep is unfolded where i is a length -/
def small64 (i : Int) : Bool := decide ((-i).toNat < 18446744073709551616) && decide (i.toNat < 18446744073709551616)
def small63 (i : Int) : Bool := decide ((-i).toNat ≤ 9223372036854775808) && decide (i.toNat < 9223372036854775808)
def binD (o : Op) (x y : D) : Option Rv := match o, x, y with
  | .add, .int i, .int j => some (.val (.int (i + j)))
  | .add, .str s, .str t => if s.length + t.length ≤ sizeLine then some (.val (.str (s ++ t))) else none
  | .add, .lst xs, .lst ys => if xs.length + ys.length ≤ sizeLine then some (.own (.lst (xs ++ ys))) else none
  | .add, .tup xs, .tup ys => if xs.length + ys.length ≤ sizeLine then some (.val (.tup (xs ++ ys))) else none
  | .sub, .int i, .int j => some (.val (.int (i - j)))
  | .mul, .int i, .int j => if small64 i || small64 j then some (.val (.int (i * j))) else none
  | .mul, .lst xs, .int j => if small63 j && decide (xs.length * j.toNat ≤ sizeLine) then some (.own (.lst (List.replicate j.toNat xs).flatten)) else none
  | .fdiv, .int i, .int j => if decide (j ≠ 0) && decide (j.natAbs < 1073741824) then some (.val (.int (i.fdiv j))) else none
  | .mod, .int i, .int j => if j = 0 then none else some (.val (.int (i.fmod j)))
  | .pow, .int i, .int j => if decide (0 ≤ j) && decide (j ≤ 1000000) && decide (i.natAbs < 2 ^ 64) then some (.val (.int (i ^ j.toNat))) else none
  | _, _, _ => none
def ofB (b : Bool) : Option Rv := some (.val (.bl b))
mutual
def D.py : D → PyData
  | .non => .none
  | .bl b => .bool b
  | .int i => .int i
  | .str s => .str s
  | .tup ds => .tuple (D.pys ds)
  | .lst ds => .list (D.pys ds)
  | _ => .none
def D.pys : List D → List PyData
  | [] => []
  | d :: ds => d.py :: D.pys ds
end
/-! data that == tells apart by value: no dict, no object within, not too deep -/
mutual
def D.plain : Nat → D → Bool
  | 0, _ => false
  | n + 1, .tup ds => D.plains n ds
  | n + 1, .lst ds => D.plains n ds
  | _ + 1, .non => true
  | _ + 1, .bl _ => true
  | _ + 1, .int _ => true
  | _ + 1, .str s => PyData.strOk s
  | _ + 1, _ => false
def D.plains : Nat → List D → Bool
  | _, [] => true
  | n, d :: ds => d.plain n && D.plains n ds
end
def eqD (x y : D) : Option Bool := match x, y with
  | .int i, .int j => some (i == j)
  | .str i, .str j => some (i == j)
  | .bl i, .bl j => some (i == j)
  | _, _ => if x.plain 60 && y.plain 60 then some (PyData.eqv x.py y.py) else none
def memD (x y : D) : Option Bool := match y with
  | .lst ds => if x.plain 50 && D.plains 50 ds then some (ds.any fun z => PyData.eqv z.py x.py) else none
  | .tup ds => if x.plain 50 && D.plains 50 ds then some (ds.any fun z => PyData.eqv z.py x.py) else none
  | .dct ks _ => match x with
    | .int i => some (ks.any fun k' => decide (k' = .inl i))
    | .str s => some (ks.any fun k' => decide (k' = .inr s))
    | _ => none
  | _ => none
/-- x is None, x is True, x is False -/
def isD (x y : D) : Option Bool := match y with
  | .non => some (match x with | .non => true | _ => false)
  | .bl b => match x with | .bl c => some (c == b) | _ => none
  | _ => none
def cmpD (c : Cm) (x y : D) : Option Bool := match c with
  | .lt => match x, y with | .int i, .int j => some (decide (i < j)) | _, _ => none
  | .le => match x, y with | .int i, .int j => some (decide (i ≤ j)) | _, _ => none
  | .gt => match x, y with | .int i, .int j => some (decide (j < i)) | _, _ => none
  | .ge => match x, y with | .int i, .int j => some (decide (j ≤ i)) | _, _ => none
  | .eq => eqD x y
  | .ne => (eqD x y).map (!·)
  | .mem => memD x y
  | .nmem => (memD x y).map (!·)
  | .is => isD x y
  | .nis => (isD x y).map (!·)
def keyD (d : D) : Option Key := match d with
  | .int i => some (.inl i)
  | .str s => some (.inr s)
  | _ => none
def getK (ks : List Key) (ds : List D) (k : Key) : Option D := match ks, ds with
  | k' :: ks, d :: ds => if k' = k then some d else getK ks ds k
  | _, _ => none
def hasK (ks : List Key) (k : Key) : Bool := ks.any fun k' => decide (k' = k)
def putK' (ks : List Key) (ds : List D) (k : Key) (v : D) : List Key × List D :=
  if hasK ks k then (ks, List.zipWith (fun k' d => if k' = k then v else d) ks ds) else (ks ++ [k], ds ++ [v])
def idxD (x y : D) : Option D := match x, y with
  | .lst xs, .int i => (ixN xs.length i).bind fun k => xs[k]?
  | .tup xs, .int i => (ixN xs.length i).bind fun k => xs[k]?
  | .dct ks ds, y => (keyD y).bind fun k => getK ks ds k
  | _, _ => none
def cutD {α : Type} (xs : List α) (lo hi : Option Int) : List α := (xs.drop (HT.sIx xs.length 0 lo)).take (HT.sIx xs.length xs.length hi - HT.sIx xs.length 0 lo)
def partD (l : List D) : Option (Option Int) := match l with
  | [] => some none
  | [.int i] => some (some i)
  | _ => none
def slcD (x : D) (lo hi : Option Int) : Option Rv := match x with
  | .lst xs => some (.own (.lst (cutD xs lo hi)))
  | .scr xs => some (.own (.lst (cutD xs lo hi)))
  | .tup xs => some (.val (.tup (cutD xs lo hi)))
  | .str s => if s.length ≤ sizeLine then some (.val (.str (cutS s lo hi))) else none
  | _ => none
def ordI : D → Option Int
  | .int i => some i
  | _ => none
def ints? : List D → Option (List Int)
  | [] => some []
  | .int i :: r => (ints? r).map (i :: ·)
  | _ :: _ => none
def bools? : List D → Option (List Bool)
  | [] => some []
  | .bl i :: r => (bools? r).map (i :: ·)
  | _ :: _ => none
/-- tuples of ints, all of one length -/
def tints? (d : D) : Option (List Int) := match d with
  | .tup ds => ints? ds
  | _ => none
def tupsI? : List D → Option (List (List Int))
  | [] => some []
  | d :: ds => match tints? d with
    | some l => (tupsI? ds).map (l :: ·)
    | none => none
/-- the order of lists of ints, as Python's tuples -/
def leL : List Int → List Int → Bool
  | [], _ => true
  | _ :: _, [] => false
  | x :: xs, y :: ys => if x < y then true else if x = y then leL xs ys else false
def strs? : List D → Option (List Str)
  | [] => some []
  | .str i :: r => (strs? r).map (i :: ·)
  | _ :: _ => none
def keyInts? : List Key → Option (List Int)
  | [] => some []
  | .inl i :: r => (keyInts? r).map (i :: ·)
  | .inr _ :: _ => none
def sortI (ns : List Int) : List Int := ns.mergeSort (fun a b => decide (a ≤ b))
def sortL (ls : List (List Int)) : List (List Int) := ls.mergeSort leL
def tupI (l : List Int) : D := .tup (l.map .int)
/-- tuples of ints sorted: fewer than 64, of one length -/
def sortTs (ls : List (List Int)) : Option Rv := match ls with
  | [] => some (.own (.lst []))
  | l :: r => if decide (1 ≤ l.length) && decide (r.length < 63) && (l :: r).all (fun m => decide (m.length = l.length) && m.all fun i => decide (0 ≤ i)) then some (.own (.lst ((sortL (l :: r)).map tupI))) else none
def biD (b : Bi) (xs : List D) : Option Rv := match b, xs with
  | .len, [.lst ds] => some (.val (.int ds.length))
  | .len, [.tup ds] => some (.val (.int ds.length))
  | .len, [.dct ks _] => some (.val (.int ks.length))
  | .len, [.str s] => if s.length ≤ sizeLine then some (.val (.int s.length)) else none
  | .abs, [.int i] => some (.val (.int (if i < 0 then -i else i)))
  | .min, [.int i, .int j] => some (.val (.int (if j < i then j else i)))
  | .max, [.int i, .int j] => some (.val (.int (if i < j then j else i)))
  | .min, [.int i, .int j, .int l] => some (.val (.int (if j < i then (if l < j then l else j) else (if l < i then l else i))))
  | .max, [.int i, .int j, .int l] => some (.val (.int (if i < j then (if j < l then l else j) else (if i < l then l else i))))
  | .int, [.int i] => some (.val (.int i))
  | .int, [.bl b] => some (.val (.int (if b then 1 else 0)))
  | .str, [.int i] => if i.natAbs.log2 < 1920 then some (.val (.str (toString i))) else none
  | .list, [.lst ds] => some (.own (.lst ds))
  | .list, [.tup ds] => some (.own (.lst ds))
  | .tuple, [.lst ds] => some (.val (.tup ds))
  | .tuple, [.tup ds] => some (.val (.tup ds))
  | .sum, [.lst ds] => (ints? ds).map fun ns => .val (.int ns.sum)
  | .any, [.lst ds] => (bools? ds).map fun ns => .val (.bl (ns.any id))
  | .all, [.lst ds] => (bools? ds).map fun ns => .val (.bl (ns.all id))
  | .sorted, [.lst ds] => match ints? ds with
    | some ns => some (.own (.lst ((sortI ns).map .int)))
    | none => (tupsI? ds).bind sortTs
  | .sorted, [.dct ks _] => (keyInts? ks).bind fun ns => if ns.length < 64 then some (.own (.lst ((sortI ns).map .int))) else none
  | _, _ => none
def isiD (t : Ty) (d : D) : Option Bool := match t, d with
  | _, .obj _ => none
  | _, .fn _ => none
  | _, .exc _ _ => none
  | .int, .int _ => some true
  | .int, .bl _ => some true
  | .bool, .bl _ => some true
  | .list, .lst _ => some true
  | .list, .scr _ => some true
  | .tuple, .tup _ => some true
  | .str, .str _ => some true
  | .dict, .dct _ _ => some true
  | _, _ => some false
def rangeD (lo : Int) (n : Nat) : List D := (List.range n).map fun (i : Nat) => .int (lo + (i : Int))
def small62 (i : Int) : Bool := decide ((-i).toNat ≤ 4611686018427387904) && decide (i.toNat < 4611686018427387904)
def rngD (xs : List D) : Option (List D) := match xs with
  | [.int j] => if small62 j then some (rangeD 0 j.toNat) else none
  | [.int i, .int j] => if small62 i && small62 j then some (rangeD i (j - i).toNat) else none
  | _ => none
def enumD (xs : List D) : List D := xs.zipIdx.map fun p => .tup [.int (p.2 : Int), p.1]
def zipD (xs ys : List D) : List D := (xs.zip ys).map fun p => .tup [p.1, p.2]
def unLst : D → Option (List D)
  | .lst ds => some ds
  | _ => none
/-- what a loop walks: a list (true), a tuple -/
def unSeq : D → Option (List D × Bool)
  | .lst ds => some (ds, true)
  | .tup ds => some (ds, false)
  | _ => none
def selL (b : Bool) (l : List Nat) : List Nat := match b with
  | true => l
  | false => []
def unTup : D → Option (List D)
  | .tup ds => some ds
  | _ => none
/-- a dict display: k, v, k, v, .. -/
def pairsD : List D → Option (List (Key × D))
  | [] => some []
  | k :: v :: r => match keyD k with
    | some k => (pairsD r).map ((k, v) :: ·)
    | none => none
  | _ => none
def mergeD (acc : List Key × List D) (ps : List (Key × D)) : List Key × List D := ps.foldl (fun a p => putK' a.1 a.2 p.1 p.2) acc
def dctD (xs : List D) : Option Rv := (pairsD xs).bind fun ps => if ps.length ≤ 15 then some (.own (.dct (mergeD ([], []) ps).1 (mergeD ([], []) ps).2)) else none
/-! ### further operations -/
/-- each once, as they come first -/
def dedI (ns : List Int) : List Int := ns.foldl (fun a k => if a.contains k then a else a ++ [k]) []
def leastI : Int → List Int → Int
  | m, [] => m
  | m, k :: ks => leastI (if k < m then k else m) ks
def mostI : Int → List Int → Int
  | m, [] => m
  | m, k :: ks => mostI (if m < k then k else m) ks
def dict? : List D → Option (List (Key × D))
  | [] => some []
  | .tup [k, v] :: r => match keyD k with
    | some k => (dict? r).map ((k, v) :: ·)
    | none => none
  | _ :: _ => none
def Key.d : Key → D
  | .inl i => .int i
  | .inr s => .str s
def isIntD : D → Bool
  | .int _ => true
  | _ => false
/-! data that repr shows: numbers of a size -/
def Key.py : Key → PyData
  | .inl i => .int i
  | .inr s => .str s
def Key.rok : Key → Bool
  | .inl i => decide (i.natAbs.log2 < 1920)
  | .inr _ => true
def kzip : List Key → List PyData → List (PyData × PyData)
  | k :: ks, d :: ds => (Key.py k, d) :: kzip ks ds
  | _, _ => []
mutual
def D.pyR : D → PyData
  | .non => .none
  | .bl b => .bool b
  | .int i => .int i
  | .str s => .str s
  | .tup ds => .tuple (D.pyRs ds)
  | .lst ds => .list (D.pyRs ds)
  | .dct ks ds => .dict (kzip ks (D.pyRs ds))
  | _ => .none
def D.pyRs : List D → List PyData
  | [] => []
  | d :: ds => d.pyR :: D.pyRs ds
end
mutual
def D.rok : Nat → D → Bool
  | 0, _ => false
  | n + 1, .tup ds => D.roks n ds
  | n + 1, .lst ds => D.roks n ds
  | n + 1, .dct ks ds => ks.all Key.rok && decide (ks.length = ds.length) && D.roks n ds
  | _ + 1, .int i => decide (i.natAbs.log2 < 1920)
  | _ + 1, .non => true
  | _ + 1, .bl _ => true
  | _ + 1, .str _ => true
  | _ + 1, _ => false
def D.roks : Nat → List D → Bool
  | _, [] => true
  | n, d :: ds => d.rok n && D.roks n ds
end

def preD (k : Ok) (d : D) : Option Unit := match k with
  | .get1 => match d with | .dct _ _ => some () | _ => none
  | .get2 => match d with | .dct _ _ => some () | _ => none
  | .index => match d with | .lst _ => some () | _ => none
  | .count => match d with | .lst _ => some () | _ => none
  | _ => some ()
/-- no list, no dict -/
def isSc : D → Bool
  | .lst _ => false
  | .dct _ _ => false
  | .scr _ => false
  | _ => true
def opD (k : Ok) (xs : List D) : Option Rv := match k, xs with
  | .lenSet, [.lst ds] => (ints? ds).bind fun ns => if ns.length ≤ 4000 then some (.val (.int (dedI ns).length)) else none
  | .sortSet, [.lst ds] => (ints? ds).bind fun ns => if ns.length < 64 then some (.own (.lst ((sortI (dedI ns)).map .int))) else none
  | .get1, [.dct ks ds, k] => (keyD k).map fun k => .val ((getK ks ds k).getD .non)
  | .get2, [.dct ks ds, k, d] => if isSc d then (keyD k).map fun k => .val ((getK ks ds k).getD d) else none
  | .inVals, [.int i, .dct _ ds] => (ints? ds).map fun ns => .val (.bl (ns.contains i))
  | .ninVals, [.int i, .dct _ ds] => (ints? ds).map fun ns => .val (.bl (!ns.contains i))
  | .lrange1, [.int j] => if small62 j && decide (j.toNat ≤ 16777216) then some (.own (.lst (rangeD 0 j.toNat))) else none
  | .lrange2, [.int i, .int j] => if small62 i && small62 j && decide ((j - i).toNat ≤ 16777216) then some (.own (.lst (rangeD i (j - i).toNat))) else none
  | .dictOf, [.lst ds] => (dict? ds).map fun ps => .own (.dct (mergeD ([], []) ps).1 (mergeD ([], []) ps).2)
  | .min1, [.lst ds] => (ints? ds).bind fun ns => match ns with
    | m :: ks => some (.val (.int (leastI m ks)))
    | [] => none
  | .max1, [.lst ds] => (ints? ds).bind fun ns => match ns with
    | m :: ks => some (.val (.int (mostI m ks)))
    | [] => none
  | .repr, [d] => if d.rok 50 && decide (d.pyR.shown.length ≤ sizeLine) then some (.val (.str d.pyR.shown)) else none
  | .minVals, [.dct _ ds] => (ints? ds).bind fun ns => match ns with
    | m :: ks => some (.val (.int (leastI m ks)))
    | [] => none
  | _, _ => none
def itemsD (ks : List Key) (ds : List D) : List D := List.zipWith (fun k d => .tup [Key.d k, d]) ks ds
def unTwo : D → Option (D × D)
  | .tup [a, b] => some (a, b)
  | _ => none
def unDct : D → Option (List Key × List D)
  | .dct ks ds => some (ks, ds)
  | _ => none
/-! ### methods that change -/
def muC (m : Mu) (c : C) (xs : List D) : Option (D × C) := match m, c, xs with
  | .append, .lst ds, [d] => if ds.length < sizeLine then some (.non, .lst (ds ++ [d])) else none
  | .extend, .lst ds, [.lst es] => if ds.length + es.length ≤ sizeLine then some (.non, .lst (ds ++ es)) else none
  | .clear, .lst ds, [] => some (.non, .lst [])
  | .reverse, .lst ds, [] => some (.non, .lst ds.reverse)
  | .pop, .lst ds, [] => match ds[ds.length - 1]? with
    | some d => some (d, .lst ds.dropLast)
    | none => none
  | .popAt, .lst ds, [.int i] => if small63 i then match ixN ds.length i with
      | some k => match ds[k]? with
        | some d => some (d, .lst (ds.eraseIdx k))
        | none => none
      | none => none
    else none
  | .insert, .lst ds, [.int i, d] => if decide (ds.length < sizeLine) && decide (0 ≤ i) && small63 i then some (.non, .lst (ds.take i.toNat ++ [d] ++ ds.drop i.toNat)) else none
  | _, _, _ => none
/-- c[k] = d -/
def setC (c : C) (k d : D) : Option C := match c with
  | .lst ds => match k with
    | .int j => match ixN ds.length j with
      | some n => some (.lst (ds.set n d))
      | none => none
    | _ => none
  | .dct ks ds => match keyD k with
    | some k => if ks.length < sizeLine then some (.dct (putK' ks ds k d).1 (putK' ks ds k d).2) else none
    | none => none
  | _ => none
/-- a op= b of ints -/
def augI (o : Op) (a b : Int) : Option Int := match o with
  | .add => some (a + b)
  | .sub => some (a - b)
  | .mul => if small64 a || small64 b then some (a * b) else none
  | .fdiv => if decide (0 < b) && decide (b < 1073741824) then some (a / b) else none
  | .mod => if decide (0 < b) then some (a % b) else none
  | .pow => none
def C.isLst : C → Bool
  | .lst _ => true
  | _ => false
/-- slot i holds an object of its own that may be changed -/
def ownAt (i : Nat) (r : List Sl) : Option (Bool × C) := match r[i]? with
  | some (.own io false c) => some (io, c)
  | _ => none
/-! ### stores -/
def setS (i : Nat) (x : Sl) (r : List Sl) : Option (List Sl) := match r[i]? with
  | some .no => some (r.set i x)
  | some (.val false _) => some (r.set i x)
  | some (.own false false _) => some (r.set i x)
  | _ => none
def setV (i : Nat) (v : Rv) (r : List Sl) : Option (List Sl) := match v with
  | .val d => setS i (.val false d) r
  | .own c => setS i (.own false false c) r
def setVs (is : List Nat) (ds : List D) (r : List Sl) : Option (List Sl) := match is, ds with
  | [], [] => some r
  | i :: is, d :: ds => (setS i (.val false d) r).bind fun r => setVs is ds r
  | _, _ => none
def setPs (ps : List Pt) (ds : List D) (r : List Sl) : Option (List Sl) := match ps, ds with
  | [], [] => some r
  | .n i :: ps, d :: ds => (setS i (.val false d) r).bind fun r => setPs ps ds r
  | .t is :: ps, .tup es :: ds => (setVs is es r).bind fun r => setPs ps ds r
  | _, _ => none
def bindT (tg : Tg) (d : D) (r : List Sl) : Option (List Sl) := match tg with
  | .name i => setS i (.val false d) r
  | .tup is => match d with
    | .tup ds => setVs is ds r
    | _ => none
  | .pat ps => match d with
    | .tup ds => setPs ps ds r
    | _ => none
/-! ### locks: what a loop walks isn't changed in it -/
def lockOf (os : List Od) (r : List Sl) : List Nat := os.filterMap fun o => match o with
  | .slot i => match r[i]? with
    | some (.own _ false _) => some i
    | _ => none
  | .val _ => none
def lock1 (b : Bool) (i : Nat) (r : List Sl) : List Sl := match r[i]? with
  | some (.own io _ c) => r.set i (.own io b c)
  | _ => r
def lockAll (b : Bool) (is : List Nat) (r : List Sl) : List Sl := is.foldl (fun r i => lock1 b i r) r
/-! ### calls -/
inductive Am where
  | slot (i : Nat) | val (v : Rv)
def amArg (r : List Sl) (a : Am) : Option Rv := match a with
  | .val v => some v
  | .slot i => match r[i]? with
    | some (.own _ false c) => some (.own c)
    | some (.val _ d) => some (.val d)
    | _ => none
def amArgs (r : List Sl) : List Am → Option (List Rv)
  | [] => some []
  | a :: as => match amArg r a with
    | some v => match amArgs r as with
      | some vs => some (v :: vs)
      | none => none
    | none => none
def amSlots : List Am → List Nat
  | [] => []
  | .slot i :: as => i :: amSlots as
  | .val _ :: as => amSlots as
def put1 (i : Nat) (v : Rv) (r : List Sl) : List Sl := match r[i]? with
  | some (.own io lk _) => match v with
    | .own c => r.set i (.own io lk c)
    | .val d => r.set i (.val io d)
  | _ => r
def putBack : List Am → List Rv → List Sl → List Sl
  | .slot i :: as, v :: vs, r => putBack as vs (put1 i v r)
  | .val _ :: as, _ :: vs, r => putBack as vs r
  | _, _, r => r
def nodupN : List Nat → Bool
  | [] => true
  | i :: is => !is.contains i && nodupN is
def doCall (g : Gc) (f : Nat) (as : List Am) (r : List Sl) (cs : List C) : Res Rv :=
  if nodupN (amSlots as) then match amArgs r as with
    | some vs => match g f vs cs with
      | .ok v outs cs => .ok v (putBack as outs r) cs
      | .ex x outs cs => .ex x (putBack as outs r) cs
      | .no => .no
    | none => .no
  else .no
def argVar (i : Nat) (r : List Sl) (cs : List C) : Res Am := match r[i]? with
  | some (.own _ false _) => .ok (.slot i) r cs
  | some (.val _ d) => .ok (.val (.val d)) r cs
  | _ => .no
def Cst.d : Cst → D
  | .non => .non
  | .bl b => .bl b
  | .int i => .int i
  | .str s => .str s
def ordA (as : List Am) : List A0 → Option (List Am)
  | [] => some []
  | .at i :: os => match as[i]? with
    | some a => match ordA as os with
      | some r => some (a :: r)
      | none => none
    | none => none
  | .df c :: os => match ordA as os with
    | some r => some (.val (.val c.d) :: r)
    | none => none
/-! ### loops -/
inductive Fl where
  | nx | rt (v : Rv) | bk | ct
def compL (bd : D → List Sl → Option (List Sl)) (cd : List Sl → List C → Res Bool) (el : List Sl → List C → Res D) : List D → List Sl → List C → List D → Res (List D)
  | [], r, cs, acc => .ok acc r cs
  | d :: ds, r, cs, acc => (liftO (bd d r) r cs).bind fun r _ _ => (cd r cs).bind fun b r cs => match b with
    | true => (el r cs).bind fun x r cs => if acc.length < sizeLine then compL bd cd el ds r cs (acc ++ [x]) else .no
    | false => compL bd cd el ds r cs acc
def forL (bd : D → List Sl → Option (List Sl)) (body : List Sl → List C → Res Fl) : List D → List Sl → List C → Res Fl
  | [], r, cs => .ok .nx r cs
  | d :: ds, r, cs => (liftO (bd d r) r cs).bind fun r _ _ => (body r cs).bind fun fl r cs => match fl with
    | .nx => forL bd body ds r cs
    | .ct => forL bd body ds r cs
    | .bk => .ok .nx r cs
    | .rt v => .ok (.rt v) r cs
def whileL (c : List Sl → List C → Res Bool) (body : List Sl → List C → Res Fl) : Nat → List Sl → List C → Res Fl
  | 0, _, _ => .no
  | n + 1, r, cs => (c r cs).bind fun b r cs => match b with
    | true => (body r cs).bind fun fl r cs => match fl with
      | .nx => whileL c body n r cs
      | .ct => whileL c body n r cs
      | .bk => .ok .nx r cs
      | .rt v => .ok (.rt v) r cs
    | false => .ok .nx r cs
def wF : Nat := 1000000
def wipeS (vs : List Nat) (r : List Sl) : List Sl := vs.foldl (fun r i => r.set i .no) r
def restS (vs : List Nat) (r0 r : List Sl) : List Sl := vs.foldl (fun r i => match r0[i]? with | some x => r.set i x | none => r) r
def noOwn (vs : List Nat) (r : List Sl) : Bool := vs.all fun i => match r[i]? with
  | some .no => true
  | some (.val false _) => true
  | _ => false
def noEx {α : Type} (m : Res α) : Res α := match m with
  | .ok a r cs => .ok a r cs
  | _ => .no
def unlockR {α : Type} (is : List Nat) (m : Res α) : Res α := match m with
  | .ok a r cs => .ok a (lockAll false is r) cs
  | .ex x r cs => .ex x (lockAll false is r) cs
  | .no => .no
end Vi

namespace Vi
open PySem L2
section
variable (g : Gc)
mutual
def evE : E → List Sl → List C → Res Rv
  | .var i, r, cs => readVar i r cs
  | .non, r, cs => .ok (.val .non) r cs
  | .bl b, r, cs => .ok (.val (.bl b)) r cs
  | .int i, r, cs => .ok (.val (.int i)) r cs
  | .str s, r, cs => .ok (.val (.str s)) r cs
  | .glo _ c, r, cs => .ok (.val c.d) r cs
  | .bin o a b, r, cs => (opd a r cs (evE a r cs)).bind fun x r cs => (opd b r cs (evE b r cs)).bind fun y r cs =>
      (liftO (rds r [x, y]) r cs).bind fun ds r cs => match ds with
        | [d, e] => liftO (binD o d e) r cs
        | _ => .no
  | .neg a, r, cs => (evE a r cs).bind fun v r cs => match v with
      | .val (.int i) => .ok (.val (.int (-i))) r cs
      | _ => .no
  | .cmp c a b, r, cs => (opd a r cs (evE a r cs)).bind fun x r cs => (opd b r cs (evE b r cs)).bind fun y r cs =>
      (liftO (rds r [x, y]) r cs).bind fun ds r cs => match ds with
        | [d, e] => (liftO (cmpD c d e) r cs).bind fun b r cs => .ok (.val (.bl b)) r cs
        | _ => .no
  | .cmp2 c c2 a b e, r, cs => (evE a r cs).d.bind fun x r cs => (evE b r cs).d.bind fun y r cs =>
      (liftO (cmpD c x y) r cs).bind fun k r cs => match k with
        | true => (evE e r cs).d.bind fun z r cs => (liftO (cmpD c2 y z) r cs).bind fun k r cs => .ok (.val (.bl k)) r cs
        | false => .ok (.val (.bl false)) r cs
  | .and a b, r, cs => (boolOf (evE a r cs)).bind fun k r cs => match k with
      | true => evE b r cs
      | false => .ok (.val (.bl false)) r cs
  | .or a b, r, cs => (boolOf (evE a r cs)).bind fun k r cs => match k with
      | true => .ok (.val (.bl true)) r cs
      | false => evE b r cs
  | .not a, r, cs => (boolOf (evE a r cs)).bind fun k r cs => .ok (.val (.bl (!k))) r cs
  | .ite c a b, r, cs => (boolOf (evE c r cs)).bind fun k r cs => match k with
      | true => evE a r cs
      | false => evE b r cs
  | .tup es, r, cs => (evDs es r cs).bind fun ds r cs => if ds.length ≤ sizeLine then .ok (.val (.tup ds)) r cs else .no
  | .lst es, r, cs => (evDs es r cs).bind fun ds r cs => if ds.length ≤ sizeLine then .ok (.own (.lst ds)) r cs else .no
  | .dct es, r, cs => (evDs es r cs).bind fun ds r cs => liftO (dctD ds) r cs
  | .idx a i, r, cs => (opd a r cs (evE a r cs)).bind fun x r cs => (opd i r cs (evE i r cs)).bind fun y r cs =>
      (liftO (rds r [x, y]) r cs).bind fun ds r cs => match ds with
        | [d, e] => (liftO (idxD d e) r cs).bind fun v r cs => .ok (.val v) r cs
        | _ => .no
  | .slc a lo hi, r, cs => (opd a r cs (evE a r cs)).bind fun x r cs => ((evDs lo r cs).bind fun l r cs => liftO (partD l) r cs).bind fun l r cs =>
      ((evDs hi r cs).bind fun h r cs => liftO (partD h) r cs).bind fun h r cs => liftO ((rd r x).bind fun d => slcD d l h) r cs
  | .rev a, r, cs => (opd a r cs (evE a r cs)).bind fun x r cs => (liftO (rd r x) r cs).bind fun d r cs => match d with
      | .lst ds => .ok (.own (.lst ds.reverse)) r cs
      | _ => .no
  | .call f es ks kes ord, r, cs => (evAs ks.isEmpty es r cs).bind fun as r cs => (evAs false kes r cs).bind fun bs r cs => (liftO (ordA (as ++ bs) ord) r cs).bind fun as r cs => doCall g f as r cs
  | .bi b es, r, cs => (evOs es r cs).bind fun os r cs => (liftO (rds r os) r cs).bind fun ds r cs => liftO (biD b ds) r cs
  | .op k es, r, cs => (evOp k es r cs).bind fun os r cs => (liftO (rds r os) r cs).bind fun ds r cs => liftO (opD k ds) r cs
  | .stuck, _, _ => .no
  | .isi t e, r, cs => (opd e r cs (evE e r cs)).bind fun x r cs => (liftO ((rd r x).bind (isiD t)) r cs).bind fun b r cs => .ok (.val (.bl b)) r cs
  | .mut m i es, r, cs => (liftO ((ownAt i r).bind fun p => if p.2.isLst then some () else none) r cs).bind fun _ r cs => (evDs es r cs).bind fun ds r cs => (liftO (ownAt i r) r cs).bind fun p r cs => (liftO (muC m p.2 ds) r cs).bind fun q r cs =>
      .ok (.val q.1) (r.set i (.own p.1 false q.2)) cs
  | .comp elt tg sr cn vs, r, cs => (evSrc sr r cs).bind fun p r cs =>
      if noOwn vs r then
        unlockR p.2 ((noEx (compL (fun d r => bindT tg d (wipeS vs r)) (fun r cs => evConds cn r cs) (fun r cs => (evE elt r cs).d) p.1 (lockAll true p.2 r) cs [])).bind fun ds r' cs => .ok (.own (.lst ds)) (restS vs r r') cs)
      else .no
/-- values, frozen -/
def evDs : Es → List Sl → List C → Res (List D)
  | .nil, r, cs => .ok [] r cs
  | .cons e es, r, cs => (evE e r cs).d.bind fun d r cs => (evDs es r cs).bind fun ds r cs => .ok (d :: ds) r cs
def evOs : Es → List Sl → List C → Res (List Od)
  | .nil, r, cs => .ok [] r cs
  | .cons e es, r, cs => (opd e r cs (evE e r cs)).bind fun d r cs => (evOs es r cs).bind fun ds r cs => .ok (d :: ds) r cs
def evOp : Ok → Es → List Sl → List C → Res (List Od)
  | _, .nil, r, cs => .ok [] r cs
  | k, .cons e es, r, cs => (opd e r cs (evE e r cs)).bind fun d r cs => (liftO ((rd r d).bind (preD k)) r cs).bind fun _ r cs => (evOs es r cs).bind fun ds r cs => .ok (d :: ds) r cs
def evAs : Bool → Es → List Sl → List C → Res (List Am)
  | _, .nil, r, cs => .ok [] r cs
  | b, .cons (.var i) es, r, cs => (argVar i r cs).bind fun a r cs => (evAs b es r cs).bind fun as r cs => .ok (a :: as) r cs
  | true, .cons e .nil, r, cs => (evE e r cs).bind fun v r cs => .ok [.val v] r cs
  | b, .cons e es, r, cs => (evE e r cs).d.bind fun d r cs => (evAs b es r cs).bind fun as r cs => .ok (.val (.val d) :: as) r cs
def evConds : Es → List Sl → List C → Res Bool
  | .nil, r, cs => .ok true r cs
  | .cons e _, r, cs => boolOf (evE e r cs)
/-- what a loop walks: the items, the slots that it locks -/
def evSrc : Src → List Sl → List C → Res (List D × List Nat)
  | .lst e, r, cs => (opd e r cs (evE e r cs)).bind fun x r cs => (liftO ((rd r x).bind unSeq) r cs).bind fun q r cs => .ok (q.1, selL q.2 (lockOf [x] r)) r cs
  | .tup e, r, cs => (opd e r cs (evE e r cs)).bind fun x r cs => (liftO ((rd r x).bind unTup) r cs).bind fun ds r cs => .ok (ds, []) r cs
  | .range es, r, cs => (evDs es r cs).bind fun ds r cs => (liftO (rngD ds) r cs).bind fun ds r cs => .ok (ds, []) r cs
  | .enum e, r, cs => (opd e r cs (evE e r cs)).bind fun x r cs => (liftO ((rd r x).bind unLst) r cs).bind fun ds r cs => .ok (enumD ds, lockOf [x] r) r cs
  | .zip a b, r, cs => (opd a r cs (evE a r cs)).bind fun x r cs => (opd b r cs (evE b r cs)).bind fun y r cs =>
      (liftO ((rd r x).bind unLst) r cs).bind fun ds r cs => (liftO ((rd r y).bind unLst) r cs).bind fun es r cs => .ok (zipD ds es, lockOf [x, y] r) r cs
  | .items e, r, cs => (evE e r cs).d.bind fun d r cs => (liftO (unDct d) r cs).bind fun p r cs => .ok (itemsD p.1 p.2, []) r cs
  | .keys e, r, cs => (evE e r cs).d.bind fun d r cs => (liftO (unDct d) r cs).bind fun p r cs => .ok (p.1.map Key.d, []) r cs
  | .vals e, r, cs => (evE e r cs).d.bind fun d r cs => (liftO (unDct d) r cs).bind fun p r cs => .ok (p.2, []) r cs
end
mutual
def evS : S → List Sl → List C → Res Fl
  | .ex e, r, cs => (evE g e r cs).bind fun _ r cs => .ok .nx r cs
  | .asg i e, r, cs => (evE g e r cs).bind fun v r cs => (liftO (setV i v r) r cs).bind fun r _ _ => .ok .nx r cs
  | .asgT is e, r, cs => (evE g e r cs).d.bind fun d r cs => (liftO ((unTup d).bind fun ds => setVs is ds r) r cs).bind fun r _ _ => .ok .nx r cs
  | .asgP ps e, r, cs => (evE g e r cs).d.bind fun d r cs => (liftO ((unTup d).bind fun ds => setPs ps ds r) r cs).bind fun r _ _ => .ok .nx r cs
  | .aug i o e, r, cs => match r[i]? with
      | some (.val _ (.int a)) => (evE g e r cs).d.bind fun d r cs => match d with
        | .int b => (liftO (augI o a b) r cs).bind fun c r cs => (liftO (setS i (.val false (.int c)) r) r cs).bind fun r _ _ => .ok .nx r cs
        | _ => .no
      | some (.val _ (.str a)) => (evE g e r cs).d.bind fun d r cs => match o, d with
        | .add, .str b => if a.length + b.length ≤ sizeLine then (liftO (setS i (.val false (.str (a ++ b))) r) r cs).bind fun r _ _ => .ok .nx r cs else .no
        | _, _ => .no
      | _ => .no
  | .setI i k e, r, cs => (evE g e r cs).d.bind fun d r cs => (liftO (ownAt i r) r cs).bind fun _ r cs => (evE g k r cs).d.bind fun k r cs => (liftO (ownAt i r) r cs).bind fun p r cs =>
      (liftO (setC p.2 k d) r cs).bind fun c r cs => .ok .nx (r.set i (.own p.1 false c)) cs
  | .setI2 i k j l e, r, cs => (evE g e r cs).d.bind fun d r cs => (liftO (unTwo d) r cs).bind fun q r cs =>
      (liftO (ownAt i r) r cs).bind fun _ r cs => (evE g k r cs).d.bind fun k r cs => (liftO (ownAt i r) r cs).bind fun p r cs => (liftO (setC p.2 k q.1) r cs).bind fun c _ cs => Res.bind (.ok () (r.set i (.own p.1 false c)) cs) fun _ r cs =>
      (liftO (ownAt j r) r cs).bind fun _ r cs => (evE g l r cs).d.bind fun k r cs => (liftO (ownAt j r) r cs).bind fun p r cs => (liftO (setC p.2 k q.2) r cs).bind fun c _ cs => Res.bind (.ok () (r.set j (.own p.1 false c)) cs) fun _ r cs => .ok .nx r cs
  | .whl c b, r, cs => whileL (fun r cs => boolOf (evE g c r cs)) (fun r cs => evSs b r cs) wF r cs
  | .stuck, _, _ => .no
  | .ifs c a b, r, cs => (boolOf (evE g c r cs)).bind fun k r cs => match k with
      | true => evSs a r cs
      | false => evSs b r cs
  | .for_ tg sr b, r, cs => (evSrc g sr r cs).bind fun p r cs => unlockR p.2 (forL (bindT tg) (fun r cs => evSs b r cs) p.1 (lockAll true p.2 r) cs)
  | .ret (.var i), r, cs => match r[i]? with
      | some (.own false false c) => .ok (.rt (.own c)) (r.set i .no) cs
      | _ => (readVar i r cs).bind fun v r cs => .ok (.rt v) r cs
  | .ret e, r, cs => (evE g e r cs).bind fun v r cs => .ok (.rt v) r cs
  | .retN, r, cs => .ok (.rt (.val .non)) r cs
  | .brk, r, cs => .ok .bk r cs
  | .cont, r, cs => .ok .ct r cs
  | .pass, r, cs => .ok .nx r cs
def evSs : Ss → List Sl → List C → Res Fl
  | .nil, r, cs => .ok .nx r cs
  | .cons s ss, r, cs => (evS s r cs).bind fun fl r cs => match fl with
      | .nx => evSs ss r cs
      | fl => .ok fl r cs
end
def outOf (s : Sl) : Rv := match s with
  | .val _ d => .val d
  | .own _ _ c => .own c
  | .no => .val .non
def inOf (v : Rv) : Sl := match v with
  | .val d => .val false d
  | .own c => .own true false c
/-- a def, run -/
def runF (f : Fn) (vs : List Rv) (cs : List C) : Rc :=
  if vs.length = f.np then match evSs g f.body (vs.map inOf ++ List.replicate (f.ns - f.np) .no) cs with
    | .ok (.rt v) r cs => .ok v ((r.take f.np).map outOf) cs
    | .ok .nx r cs => .ok (.val .non) ((r.take f.np).map outOf) cs
    | .ok _ _ _ => .no
    | .ex x r cs => .ex x ((r.take f.np).map outOf) cs
    | .no => .no
  else .no
end
/-- the calls, as deep as n -/
def dCall0 (T : Nat → Option Fn) : Nat → Gc
  | 0 => fun _ _ _ => .no
  | n + 1 => fun f vs cs => match T f with
    | some fn => runF (dCall0 T n) fn vs cs
    | none => .no
@[irreducible] def dCall (T : Nat → Option Fn) (n : Nat) : Gc := dCall0 T n
theorem dCall_0 {T : Nat → Option Fn} : dCall T 0 = fun _ _ _ => .no := by unfold dCall; rfl
theorem dCall_s {T : Nat → Option Fn} {n : Nat} : dCall T (n + 1) = fun f vs cs => match T f with
    | some fn => runF (dCall T n) fn vs cs
    | none => .no := by unfold dCall; rfl
end Vi

namespace Vi
open PySem PySem.Spec L2
abbrev Sg := List (Option V)
/-! ### what stands for what -/
structure Wd where
  F : Hp
  ph : List Addr
def Ext (w w' : Wd) : Prop := Same w.F w'.F ∧ ∀ (i : Nat) (p : Addr), w.ph[i]? = some p → w'.ph[i]? = some p
theorem Ext.refl (w : Wd) : Ext w w := ⟨Same.refl _, fun _ _ h => h⟩
theorem Ext.trans {a b c : Wd} (h : Ext a b) (k : Ext b c) : Ext a c := ⟨h.1.trans k.1, fun i p e => k.2 i p (h.2 i p e)⟩
theorem same_tup {K : PySem.W.Frag} {H H' : Hp} {a : Addr} {xs : List V} (e : Same H H') (h : SqT K H a xs) : SqT K H' a xs := by
  rcases h with (h | ⟨o, h⟩) | h
  · exact .inl (.inl (e _ _ h))
  · exact .inl (.inr ⟨o, e _ _ h⟩)
  · exact .inr h
theorem same_rd {H H' : Hp} {a : Addr} {u : HO} (e : Same H H') (h : Rd H a u) : Rd H' a u := by
  rcases h with h | ⟨o, h⟩
  · exact .inl (e _ _ h)
  · exact .inr ⟨o, e _ _ h⟩
section
variable (K : PySem.W.Frag) (w : Wd)
mutual
def Rep : D → V → Prop
  | .non, v => v = .non
  | .bl b, v => v = .bl b
  | .int i, v => v = .int i
  | .str s, v => v = .str s
  | .tup ds, v => ∃ p vs, v = .ref p ∧ SqT K w.F p vs ∧ Reps ds vs
  | .lst ds, v => ∃ p vs, v = .ref p ∧ w.F p = some (.lst vs) ∧ Reps ds vs
  | .scr ds, v => ∃ p vs, v = .ref p ∧ SqL K w.F p vs ∧ Reps ds vs
  | .dct ks ds, v => ∃ p o kvs, v = .ref p ∧ w.F p = some (.frz o (.dK kvs)) ∧ kvs.map (·.1) = ks ∧ Reps ds (kvs.map (·.2))
  | .obj n, v => ∃ p, w.ph[n]? = some p ∧ v = .ref p
  | .fn _, _ => False
  | .exc _ _, _ => False
def Reps : List D → List V → Prop
  | [], vs => vs = []
  | d :: ds, vs => ∃ x xs, vs = x :: xs ∧ Rep d x ∧ Reps ds xs
end
end
section
variable {K : PySem.W.Frag} {w w' : Wd}
mutual
theorem Rep.mono (e : Ext w w') : ∀ (d : D) (v : V), Rep K w d v → Rep K w' d v
  | .non, _, h => h
  | .bl _, _, h => h
  | .int _, _, h => h
  | .str _, _, h => h
  | .tup ds, _, h => by
    obtain ⟨p, vs, rfl, h1, h2⟩ := h
    exact ⟨p, vs, rfl, same_tup e.1 h1, Reps.mono e ds vs h2⟩
  | .lst ds, _, h => by
    obtain ⟨p, vs, rfl, h1, h2⟩ := h
    exact ⟨p, vs, rfl, e.1 _ _ h1, Reps.mono e ds vs h2⟩
  | .scr ds, _, h => by
    obtain ⟨p, vs, rfl, h1, h2⟩ := h
    exact ⟨p, vs, rfl, e.1.seq h1, Reps.mono e ds vs h2⟩
  | .dct ks ds, _, h => by
    obtain ⟨p, o, kvs, rfl, h1, h2, h3⟩ := h
    exact ⟨p, o, kvs, rfl, e.1 _ _ h1, h2, Reps.mono e ds _ h3⟩
  | .obj n, _, h => by
    obtain ⟨p, h1, h2⟩ := h
    exact ⟨p, e.2 _ _ h1, h2⟩
  | .fn _, _, h => h
  | .exc _ _, _, h => h
theorem Reps.mono (e : Ext w w') : ∀ (ds : List D) (vs : List V), Reps K w ds vs → Reps K w' ds vs
  | [], _, h => h
  | d :: ds, _, h => by
    obtain ⟨x, xs, rfl, h1, h2⟩ := h
    exact ⟨x, xs, rfl, Rep.mono e d x h1, Reps.mono e ds xs h2⟩
end
theorem Reps.length : ∀ {ds : List D} {vs : List V}, Reps K w ds vs → vs.length = ds.length
  | [], _, h => by cases h; rfl
  | d :: ds, _, h => by
    obtain ⟨x, xs, rfl, h1, h2⟩ := h
    simp [Reps.length h2]
theorem Reps.get : ∀ {ds : List D} {vs : List V} {i : Nat} {d : D}, Reps K w ds vs → ds[i]? = some d → ∃ v, vs[i]? = some v ∧ Rep K w d v
  | [], _, _, _, _, e => by simp at e
  | d :: ds, _, 0, d', h, e => by
    obtain ⟨x, xs, rfl, h1, h2⟩ := h
    simp at e
    subst e
    exact ⟨x, rfl, h1⟩
  | d :: ds, _, i + 1, d', h, e => by
    obtain ⟨x, xs, rfl, h1, h2⟩ := h
    obtain ⟨v, a, b⟩ := Reps.get (i := i) (d := d') h2 (by simpa using e)
    exact ⟨v, by simpa using a, b⟩
theorem Reps.append : ∀ {ds es : List D} {vs us : List V}, Reps K w ds vs → Reps K w es us → Reps K w (ds ++ es) (vs ++ us)
  | [], _, _, _, h, k => by cases h; exact k
  | d :: ds, _, _, _, h, k => by
    obtain ⟨x, xs, rfl, h1, h2⟩ := h
    exact ⟨x, _, rfl, h1, Reps.append h2 k⟩
theorem Reps.one {d : D} {v : V} (h : Rep K w d v) : Reps K w [d] [v] := ⟨v, [], rfl, h, rfl⟩
theorem Reps.take : ∀ {ds : List D} {vs : List V} (n : Nat), Reps K w ds vs → Reps K w (ds.take n) (vs.take n)
  | _, _, 0, _ => by simp [Reps]
  | [], _, n + 1, h => by cases h; simp [Reps]
  | d :: ds, _, n + 1, h => by
    obtain ⟨x, xs, rfl, h1, h2⟩ := h
    exact ⟨x, _, rfl, h1, Reps.take n h2⟩
theorem Reps.drop : ∀ {ds : List D} {vs : List V} (n : Nat), Reps K w ds vs → Reps K w (ds.drop n) (vs.drop n)
  | _, _, 0, h => by simpa using h
  | [], _, n + 1, h => by cases h; simp [Reps]
  | d :: ds, _, n + 1, h => by
    obtain ⟨x, xs, rfl, h1, h2⟩ := h
    simpa using Reps.drop n h2
theorem Reps.set : ∀ {ds : List D} {vs : List V} {d : D} {v : V} (n : Nat), Reps K w ds vs → Rep K w d v → Reps K w (ds.set n d) (vs.set n v)
  | [], _, _, _, n, h, _ => by cases h; simp [Reps]
  | d :: ds, _, _, _, 0, h, k => by
    obtain ⟨x, xs, rfl, h1, h2⟩ := h
    exact ⟨_, _, rfl, k, h2⟩
  | d :: ds, _, _, _, n + 1, h, k => by
    obtain ⟨x, xs, rfl, h1, h2⟩ := h
    exact ⟨x, _, rfl, h1, Reps.set n h2 k⟩
theorem Reps.reverse : ∀ {ds : List D} {vs : List V}, Reps K w ds vs → Reps K w ds.reverse vs.reverse
  | [], _, h => by cases h; simp [Reps]
  | d :: ds, _, h => by
    obtain ⟨x, xs, rfl, h1, h2⟩ := h
    simp only [List.reverse_cons]
    exact (Reps.reverse h2).append (Reps.one h1)
end
/-! ### an object of one's own -/
def HRep (K : PySem.W.Frag) (w : Wd) (H : Hp) (c : C) (p : Addr) : Prop := match c with
  | .lst ds => ∃ vs, H p = some (.lst vs) ∧ Reps K w ds vs
  | .dct ks ds => ∃ kvs, H p = some (.dK kvs) ∧ kvs.map (·.1) = ks ∧ Reps K w ds (kvs.map (·.2))
  | .ins _ _ _ => False
theorem HRep.mono {K : PySem.W.Frag} {w w' : Wd} {H H' : Hp} {c : C} {p : Addr} (h : HRep K w H c p) (e : Ext w w') (hp : ∀ o, H p = some o → H' p = some o) : HRep K w' H' c p := by
  cases c with
  | lst ds =>
    obtain ⟨vs, h1, h2⟩ := h
    exact ⟨vs, hp _ h1, h2.mono e⟩
  | dct ks ds =>
    obtain ⟨kvs, h1, h2, h3⟩ := h
    exact ⟨kvs, hp _ h1, h2, h3.mono e⟩
  | ins _ _ _ => exact h
theorem HRep.isobj {K : PySem.W.Frag} {w : Wd} {H : Hp} {c : C} {p : Addr} (h : HRep K w H c p) : ∃ o, H p = some o ∧ Mut (some o) := by
  cases c with
  | lst ds =>
    obtain ⟨vs, h1, h2⟩ := h
    exact ⟨_, h1, trivial⟩
  | dct ks ds =>
    obtain ⟨kvs, h1, h2, h3⟩ := h
    exact ⟨_, h1, trivial⟩
  | ins _ _ _ => exact h.elim
/-- the frame of a def's run: the heap and the frozen part at its entry, what it may write -/
structure Fx where
  /-- the heap at the def's entry -/
  E0 : Hp
  /-- the heap that the frame speaks of -/
  H0 : Hp
  w0 : Wd
  W : List Addr
  io : List (Option Addr)
  /-- what the loops around walk: slots whose objects stand -/
  lk : List (Option (Addr × C))
def Sl.isIo : Sl → Bool
  | .val io _ => io
  | .own io _ _ => io
  | .no => false
def SlRep (K : PySem.W.Frag) (g : Fx) (w : Wd) (H : Hp) (x : Sl) (s : Option (Option V)) : Prop := match x with
  | .no => True
  | .val _ d => ∃ v, s = some (some v) ∧ Rep K w d v
  | .own io _ c => ∃ p, s = some (some (.ref p)) ∧ HRep K w H c p ∧ w.F p = none ∧ p ∉ w.ph ∧ (p ∈ g.W ∨ g.H0 p = none) ∧ (io = false → g.E0 p = none)
/-- slot i holds an object of its own, at p -/
def OwnAt (r : List Sl) (σ : Sg) (i : Nat) (p : Addr) : Prop := ∃ io lk c, r[i]? = some (.own io lk c) ∧ σ[i]? = some (some (.ref p))
structure Cells (K : PySem.W.Frag) (g : Fx) (w : Wd) (cs : List C) (H : Hp) : Prop where
  len : cs.length = w.ph.length
  nd : w.ph.Nodup
  at_ : ∀ (n : Nat) (c : C) (p : Addr), cs[n]? = some c → w.ph[n]? = some p → HRep K w H c p ∧ w.F p = none ∧ (p ∈ g.W ∨ g.H0 p = none)
structure Rel (K : PySem.W.Frag) (g : Fx) (w : Wd) (r : List Sl) (cs : List C) (σ : Sg) (H : Hp) : Prop where
  ff : Same w.F H
  f0 : Ext g.w0 w
  gw : ∀ a ∈ g.W, ∃ o, g.H0 a = some o
  al : ∀ a o, g.H0 a = some o → ∃ o', H a = some o'
  ae : ∀ a o, g.E0 a = some o → ∃ o', H a = some o'
  keep : ∀ a o, g.H0 a = some o → a ∉ g.W → H a = some o
  fk : ∀ a o, g.H0 a = some o → a ∉ g.W → g.w0.F a = none → w.F a = none
  len : r.length = σ.length
  sl : ∀ (i : Nat) (x : Sl), r[i]? = some x → SlRep K g w H x σ[i]?
  dist : ∀ i j p, OwnAt r σ i p → OwnAt r σ j p → i = j
  io : ∀ (i : Nat) p, g.io[i]? = some (some p) → σ[i]? = some (some (.ref p)) ∧ ∃ x, r[i]? = some x ∧ x.isIo = true
  ce : Cells K g w cs H
  lk : ∀ (i : Nat) (p : Addr) (c : C), g.lk[i]? = some (some (p, c)) → σ[i]? = some (some (.ref p)) ∧ ∃ io, r[i]? = some (.own io true c)
/-- a result: a value, or a new object of one's own -/
def RvRep (K : PySem.W.Frag) (g : Fx) (w : Wd) (H : Hp) (r : List Sl) (σ : Sg) (x : Rv) (v : V) : Prop := match x with
  | .val d => Rep K w d v
  | .own c => ∃ p, v = .ref p ∧ HRep K w H c p ∧ w.F p = none ∧ p ∉ w.ph ∧ g.H0 p = none ∧ p ∉ g.W ∧ g.E0 p = none ∧ ∀ i, ¬ OwnAt r σ i p
/-- an operand, as it is when it has been evaluated -/
def OdRep (K : PySem.W.Frag) (w : Wd) (σ : Sg) (x : Od) (v : V) : Prop := match x with
  | .slot i => σ[i]? = some (some v)
  | .val d => Rep K w d v
/-- data as it is read off the heap: the outermost object may be one's own -/
def RdD (K : PySem.W.Frag) (w : Wd) (H : Hp) (d : D) (v : V) : Prop := match d with
  | .lst ds => ∃ p vs, v = .ref p ∧ H p = some (.lst vs) ∧ Reps K w ds vs
  | .scr ds => ∃ p vs, v = .ref p ∧ SqL K H p vs ∧ Reps K w ds vs
  | .dct ks ds => ∃ p kvs, v = .ref p ∧ Rd H p (.dK kvs) ∧ kvs.map (·.1) = ks ∧ Reps K w ds (kvs.map (·.2))
  | d => Rep K w d v
def RdDs (K : PySem.W.Frag) (w : Wd) (H : Hp) : List D → List V → Prop
  | [], vs => vs = []
  | d :: ds, vs => ∃ x xs, vs = x :: xs ∧ RdD K w H d x ∧ RdDs K w H ds xs
section
variable {K : PySem.W.Frag} {g : Fx} {w w' : Wd} {r r' : List Sl} {cs cs' : List C} {σ σ' : Sg} {H H' : Hp}
theorem RdD.of_rep (e : Same w.F H) {d : D} {v : V} (h : Rep K w d v) : RdD K w H d v := by
  cases d with
  | lst ds =>
    obtain ⟨p, vs, rfl, h1, h2⟩ := h
    exact ⟨p, vs, rfl, e _ _ h1, h2⟩
  | scr ds =>
    obtain ⟨p, vs, rfl, h1, h2⟩ := h
    exact ⟨p, vs, rfl, e.seq h1, h2⟩
  | dct ks ds =>
    obtain ⟨p, o, kvs, rfl, h1, h2, h3⟩ := h
    exact ⟨p, kvs, rfl, .inr ⟨o, e _ _ h1⟩, h2, h3⟩
  | _ => exact h
theorem RdD.of_own {c : C} {d : D} {p : Addr} (h : HRep K w H c p) (e : c.toD = some d) : RdD K w H d (.ref p) := by
  cases c with
  | lst ds =>
    obtain ⟨vs, h1, h2⟩ := h
    cases e
    exact ⟨p, vs, rfl, h1, h2⟩
  | dct ks ds =>
    obtain ⟨kvs, h1, h2, h3⟩ := h
    cases e
    exact ⟨p, kvs, rfl, .inl h1, h2, h3⟩
  | ins _ _ _ => cases e
theorem Rel.rd (R : Rel K g w r cs σ H) {o : Od} {v : V} {d : D} (h : OdRep K w σ o v) (e : rd r o = some d) : RdD K w H d v := by
  cases o with
  | val d' =>
    cases e
    exact RdD.of_rep R.ff h
  | slot i =>
    have hs : σ[i]? = some (some v) := h
    unfold Vi.rd at e
    cases q : r[i]? with
    | none => simp [q] at e
    | some x =>
      have q2 := R.sl i x q
      cases x with
      | no => simp [q] at e
      | val io d' =>
        simp [q] at e
        subst e
        obtain ⟨v', e1, e2⟩ := q2
        rw [hs] at e1
        cases e1
        exact RdD.of_rep R.ff e2
      | own io lk c =>
        simp [q] at e
        obtain ⟨p, e1, e2, _⟩ := q2
        rw [hs] at e1
        cases e1
        exact RdD.of_own e2 e
theorem Rel.rds (R : Rel K g w r cs σ H) : ∀ {os : List Od} {vs : List V} {ds : List D}, Paired (OdRep K w σ) os vs → rds r os = some ds → RdDs K w H ds vs
  | [], _, _, h, e => by
    cases h
    cases e
    rfl
  | o :: os, _, ds, h, e => by
    cases h with
    | cons h1 h2 =>
      unfold Vi.rds at e
      cases q : Vi.rd r o with
      | none => simp [q] at e
      | some d =>
        cases q2 : Vi.rds r os with
        | none => simp [q, q2] at e
        | some ds' =>
          simp [q, q2] at e
          subst e
          exact ⟨_, _, rfl, R.rd h1 q, Rel.rds R h2 q2⟩
end
end Vi

namespace Vi
open PySem PySem.Spec L2
/-! ### what is wanted of an end -/
def Res.P {α : Type} (m : Res α) (k : α → List Sl → List C → Prop) (e : Ex → List Sl → List C → Prop) : Prop := match m with
  | .ok a r cs => k a r cs
  | .ex x r cs => e x r cs
  | .no => False
section
variable {α β : Type} {m : Res α} {k k' : α → List Sl → List C → Prop} {e e' : Ex → List Sl → List C → Prop}
theorem Res.P.bind {f : α → List Sl → List C → Res β} {k : β → List Sl → List C → Prop} (h : (m.bind f).P k e) : m.P (fun a r cs => (f a r cs).P k e) e := by
  cases m <;> exact h
theorem Res.P.mono (h : m.P k e) (hk : ∀ a r cs, k a r cs → k' a r cs) (he : ∀ x r cs, e x r cs → e' x r cs) : m.P k' e' := by
  cases m with
  | ok a r cs => exact hk _ _ _ h
  | ex x r cs => exact he _ _ _ h
  | no => exact h
theorem liftO_P {o : Option α} {r : List Sl} {cs : List C} (h : (liftO o r cs).P k e) : ∃ a, o = some a ∧ k a r cs := by
  cases o with
  | none => exact h.elim
  | some a => exact ⟨a, rfl, h⟩
end
/-! ### the relation behind a step -/
/-- new objects alone -/
structure PureX (w : Wd) (H : Hp) (w' : Wd) (H' : Hp) : Prop where
  hh : Same H H'
  ff : Same w.F w'.F
  fh : Same w'.F H'
  ph : w'.ph = w.ph
  fr : ∀ a o, H a = some o → w.F a = none → w'.F a = none
theorem PureX.ext {w w' : Wd} {H H' : Hp} (p : PureX w H w' H') : Ext w w' := ⟨p.ff, fun i q e => by rw [p.ph]; exact e⟩
theorem PureX.refl {w : Wd} {H : Hp} (h : Same w.F H) : PureX w H w H := ⟨Same.refl _, Same.refl _, h, rfl, fun _ _ _ e => e⟩
/-- a new frozen object -/
def Wd.put (w : Wd) (p : Addr) (o : HO) : Wd := ⟨upd w.F p o, w.ph⟩
theorem PureX.new {w : Wd} {H : Hp} {p : Addr} {o : HO} (h : Same w.F H) (hp : H p = none) : PureX w H (w.put p o) (upd H p o) := by
  have hF : w.F p = none := by
    cases q : w.F p with
    | none => rfl
    | some o' => rw [h _ _ q] at hp; cases hp
  refine ⟨fun b u e => ?_, fun b u e => ?_, fun b u e => ?_, rfl, fun a u e1 e2 => ?_⟩
  · rw [upd_ne (ne_of_none e hp)]; exact e
  · show upd w.F p o b = some u
    rw [upd_ne (ne_of_none e hF)]; exact e
  · have e : upd w.F p o b = some u := e
    by_cases hb : b = p
    · subst hb; rw [upd_same] at e ⊢; exact e
    · rw [upd_ne hb] at e ⊢; exact h _ _ e
  · show upd w.F p o a = none
    rw [upd_ne (ne_of_none e1 hp)]; exact e2
/-- a new object of one's own: the frozen part stays -/
theorem PureX.newOwn {w : Wd} {H : Hp} {p : Addr} {o : HO} (h : Same w.F H) (hp : H p = none) : PureX w H w (upd H p o) := by
  refine ⟨fun b u e => ?_, Same.refl _, fun b u e => ?_, rfl, fun a u e1 e2 => e2⟩
  · rw [upd_ne (ne_of_none e hp)]; exact e
  · rw [upd_ne (ne_of_none (h _ _ e) hp)]; exact h _ _ e
section
variable {K : PySem.W.Frag} {g : Fx} {w w' : Wd} {r r' : List Sl} {cs cs' : List C} {σ σ' : Sg} {H H' : Hp}
theorem HRep.at_some {c : C} {p : Addr} (h : HRep K w H c p) : ∃ o, H p = some o := let ⟨o, e, _⟩ := HRep.isobj h; ⟨o, e⟩
theorem Rel.pure (R : Rel K g w r cs σ H) (x : PureX w H w' H') : Rel K g w' r cs σ H' where
  ff := x.fh
  f0 := R.f0.trans x.ext
  gw := R.gw
  al := fun a o e => let ⟨o', e'⟩ := R.al a o e; ⟨o', x.hh _ _ e'⟩
  ae := fun a o e => let ⟨o', e'⟩ := R.ae a o e; ⟨o', x.hh _ _ e'⟩
  keep := fun a o e h => x.hh _ _ (R.keep a o e h)
  fk := fun a o e h n => x.fr a o (R.keep a o e h) (R.fk a o e h n)
  len := R.len
  sl := fun i s e => by
    have q := R.sl i s e
    cases s with
    | no => trivial
    | val io d =>
      obtain ⟨v, e1, e2⟩ := q
      exact ⟨v, e1, e2.mono x.ext⟩
    | own io lk c =>
      obtain ⟨p, e1, e2, e3, e4, e5⟩ := q
      obtain ⟨o, eo⟩ := HRep.at_some e2
      exact ⟨p, e1, HRep.mono e2 x.ext (fun o q => x.hh _ _ q), x.fr _ _ eo e3, by rw [x.ph]; exact e4, e5⟩
  dist := R.dist
  io := R.io
  ce := ⟨by rw [x.ph]; exact R.ce.len, by rw [x.ph]; exact R.ce.nd, fun n c p e1 e2 => by
    rw [x.ph] at e2
    obtain ⟨h1, h2, h3⟩ := R.ce.at_ n c p e1 e2
    obtain ⟨o, eo⟩ := HRep.at_some h1
    exact ⟨HRep.mono h1 x.ext (fun o q => x.hh _ _ q), x.fr _ _ eo h2, h3⟩⟩
  lk := R.lk
/-- the object at p is new in the run, or may be written -/
theorem Rel.mayW (R : Rel K g w r cs σ H) {i : Nat} {io lk : Bool} {c : C} {p : Addr} (e : r[i]? = some (.own io lk c)) (es : σ[i]? = some (some (.ref p))) :
    HRep K w H c p ∧ w.F p = none ∧ p ∉ w.ph ∧ (p ∈ g.W ∨ g.H0 p = none) := by
  obtain ⟨p', e1, h1, h2, h3, h4, _⟩ := R.sl i _ e
  rw [es] at e1
  cases e1
  exact ⟨h1, h2, h3, h4⟩
theorem Rel.mayE (R : Rel K g w r cs σ H) {i : Nat} {io lk : Bool} {c : C} {p : Addr} (e : r[i]? = some (.own io lk c)) (es : σ[i]? = some (some (.ref p))) (hi : io = false) : g.E0 p = none := by
  obtain ⟨p', e1, _, _, _, _, h⟩ := R.sl i _ e
  rw [es] at e1
  cases e1
  exact h hi
theorem Rel.ownAddr (R : Rel K g w r cs σ H) {i : Nat} {io lk : Bool} {c : C} (e : r[i]? = some (.own io lk c)) : ∃ p, σ[i]? = some (some (.ref p)) := by
  obtain ⟨p, e1, _⟩ := R.sl i _ e
  exact ⟨p, e1⟩
theorem getElem?_set' {α : Type} {l : List α} {i j : Nat} {a b : α} (h : (l.set i a)[j]? = some b) : (j = i ∧ b = a) ∨ (j ≠ i ∧ l[j]? = some b) := by
  by_cases q : j = i
  · subst q
    rw [List.getElem?_set] at h
    simp at h
    exact .inl ⟨rfl, h.2.symm⟩
  · rw [List.getElem?_set_ne (Ne.symm q)] at h
    exact .inr ⟨q, h⟩
/-- an object of one's own is written, or frozen (w' holds it then) -/
theorem Rel.write (R : Rel K g w r cs σ H) {i : Nat} {io : Bool} {c : C} {p : Addr} {o : HO} {x : Sl} (e : r[i]? = some (.own io false c)) (es : σ[i]? = some (some (.ref p)))
    (hx : Ext w w') (hph : w'.ph = w.ph) (hw : ∀ b, b ≠ p → w'.F b = w.F b) (hff : Same w'.F (upd H p o)) (hio : x.isIo = io)
    (new : (∃ d, x = .val io d ∧ Rep K w' d (.ref p)) ∨ (∃ lk' c', x = .own io lk' c' ∧ HRep K w' (upd H p o) c' p ∧ w'.F p = none)) :
    Rel K g w' (r.set i x) cs σ (upd H p o) := by
  obtain ⟨h1, h2, h3, h4⟩ := R.mayW e es
  have hk : ∀ a u, g.H0 a = some u → a ∉ g.W → a ≠ p := fun a u e1 e2 z => by
    subst z
    rcases h4 with q | q
    · exact e2 q
    · rw [q] at e1; cases e1
  refine ⟨hff, R.f0.trans hx, R.gw, fun a u e1 => ?_, fun a u e1 => ?_, fun a u e1 e2 => ?_, fun a u e1 e2 n => ?_, by rw [List.length_set]; exact R.len, fun j s q => ?_, fun a b q o1 o2 => ?_, fun j q e1 => ?_, ⟨by rw [hph]; exact R.ce.len, by rw [hph]; exact R.ce.nd, fun n c' q e1 e2 => ?_⟩, fun j q c' e1 => ?_⟩
  · by_cases z : a = p
    · exact ⟨o, by rw [z]; exact upd_same⟩
    · rw [upd_ne z]; exact R.al a u e1
  · by_cases z : a = p
    · exact ⟨o, by rw [z]; exact upd_same⟩
    · rw [upd_ne z]; exact R.ae a u e1
  · rw [upd_ne (hk a u e1 e2)]; exact R.keep a u e1 e2
  · rw [hw _ (hk a u e1 e2)]; exact R.fk a u e1 e2 n
  · rcases getElem?_set' q with ⟨rfl, rfl⟩ | ⟨hj, q⟩
    · rcases new with ⟨d, rfl, rp⟩ | ⟨lk', c', rfl, hr, hf⟩
      · exact ⟨_, es, rp⟩
      · exact ⟨p, es, hr, hf, by rw [hph]; exact h3, h4, fun z => R.mayE e es z⟩
    · have z := R.sl j s q
      cases s with
      | no => trivial
      | val io d =>
        obtain ⟨v, e1, e2⟩ := z
        exact ⟨v, e1, e2.mono hx⟩
      | own io' lk' c' =>
        obtain ⟨p', e1, e2, e3, e4, e5⟩ := z
        have np : p' ≠ p := fun z => by
          subst z
          exact hj (R.dist j i p' ⟨_, _, _, q, e1⟩ ⟨_, _, _, e, es⟩)
        exact ⟨p', e1, HRep.mono e2 hx (fun u q => by rw [upd_ne np]; exact q), by rw [hw _ np]; exact e3, by rw [hph]; exact e4, e5⟩
  · have back : ∀ a, OwnAt (r.set i x) σ a q → OwnAt r σ a q := fun a ⟨io', lk', c', q1, q2⟩ => by
      rcases getElem?_set' q1 with ⟨rfl, q3⟩ | ⟨_, q3⟩
      · rw [es] at q2
        cases q2
        exact ⟨_, _, _, e, es⟩
      · exact ⟨_, _, _, q3, q2⟩
    exact R.dist a b q (back a o1) (back b o2)
  · obtain ⟨s1, y, y1, y2⟩ := R.io j q e1
    refine ⟨s1, ?_⟩
    by_cases hj : j = i
    · subst hj
      refine ⟨x, ?_, ?_⟩
      · have := List.getElem?_eq_some_iff.mp e
        rw [List.getElem?_set_self this.1]
      · rw [e] at y1
        cases y1
        rw [hio]; exact y2
    · exact ⟨y, by rw [List.getElem?_set_ne (Ne.symm hj)]; exact y1, y2⟩
  · rw [hph] at e2
    obtain ⟨z1, z2, z3⟩ := R.ce.at_ n c' q e1 e2
    have np : q ≠ p := fun z => by
      subst z
      exact h3 (List.mem_of_getElem? e2)
    exact ⟨HRep.mono z1 hx (fun u q => by rw [upd_ne np]; exact q), by rw [hw _ np]; exact z2, z3⟩
  · obtain ⟨y1, io', y2⟩ := R.lk j q c' e1
    refine ⟨y1, io', ?_⟩
    have hj : j ≠ i := fun z => by
      subst z
      rw [e] at y2
      cases y2
    rw [List.getElem?_set_ne (Ne.symm hj)]
    exact y2
theorem upd_self {H : Hp} {p : Addr} {o : HO} (h : H p = some o) : upd H p o = H := by
  funext b
  by_cases q : b = p
  · subst q; rw [upd_same, h]
  · rw [upd_ne q]
theorem Ext.put {p : Addr} {o : HO} (h : w.F p = none) : Ext w (w.put p o) := ⟨fun b u e => by
  show upd w.F p o b = some u
  rw [upd_ne (ne_of_none e h)]; exact e, fun _ _ e => e⟩
theorem Same.put {p : Addr} {o : HO} (h : Same w.F H) : Same (w.put p o).F (upd H p o) := fun b u e => by
  have e : upd w.F p o b = some u := e
  by_cases q : b = p
  · subst q; rw [upd_same] at e ⊢; exact e
  · rw [upd_ne q] at e ⊢; exact h _ _ e
/-- what is frozen: a dict is locked, a list stands as it is -/
def fo (od : Obj) (u : HO) : HO := match u with
  | .lst xs => .lst xs
  | u => .frz od u
theorem Inv.fo {X : Cx} {pins : List (Addr × Obj)} {σ : Sg} {H : Hp} {s : Shared} {p : Addr} {u : HO} (I : Inv X pins σ H s) (h : H p = some u) (mu : Mut (some u)) : ∃ od, Inv X pins σ (upd H p (Vi.fo od u)) s := by
  cases u with
  | lst xs => exact ⟨default, by rw [show Vi.fo default (.lst xs) = HO.lst xs from rfl, upd_self h]; exact I⟩
  | dK kvs => exact I.lock h mu
  | dT kvs => exact I.lock h mu
  | set S n => exact I.lock h mu
  | ins C dx fs => exact I.lock h mu
  | ext f => exact I.lock h mu
  | tup xs => exact mu.elim
  | own x => exact mu.elim
  | xd fs => exact mu.elim
  | met f x => exact mu.elim
  | rng lo hi => exact mu.elim
  | frz o u => exact mu.elim
  | tbl ps => exact mu.elim
/-- a slot's object is frozen -/
theorem Rel.freeze (R : Rel K g w r cs σ H) {i : Nat} {io : Bool} {c : C} {p : Addr} {u : HO} {d : D} (e : r[i]? = some (.own io false c)) (es : σ[i]? = some (some (.ref p))) (ed : c.toD = some d) :
    ∃ u, H p = some u ∧ Mut (some u) ∧ ∀ od, Rel K g (w.put p (fo od u)) (r.set i (.val io d)) cs σ (upd H p (fo od u)) ∧ Ext w (w.put p (fo od u)) ∧ Rep K (w.put p (fo od u)) d (.ref p) := by
  obtain ⟨h1, h2, h3, h4⟩ := R.mayW e es
  obtain ⟨u, e1, mu⟩ := HRep.isobj h1
  refine ⟨u, e1, mu, fun od => ?_⟩
  have ex : Ext w (w.put p (fo od u)) := Ext.put h2
  have rp : Rep K (w.put p (fo od u)) d (.ref p) := by
    cases c with
    | lst ds =>
      cases ed
      obtain ⟨vs, q1, q2⟩ := h1
      rw [e1] at q1
      cases q1
      exact ⟨p, vs, rfl, upd_same, q2.mono ex⟩
    | dct ks ds =>
      cases ed
      obtain ⟨kvs, q1, q2, q3⟩ := h1
      rw [e1] at q1
      cases q1
      exact ⟨p, od, kvs, rfl, upd_same, q2, q3.mono ex⟩
    | ins _ _ _ => cases ed
  exact ⟨R.write e es ex rfl (fun b q => upd_ne q) (Same.put R.ff) rfl (.inl ⟨d, rfl, rp⟩), ex, rp⟩
/-- a result is frozen -/
theorem Rel.freezeR (R : Rel K g w r cs σ H) {c : C} {v : V} {d : D} (h : RvRep K g w H r σ (.own c) v) (ed : c.toD = some d) :
    ∃ p u, v = .ref p ∧ H p = some u ∧ Mut (some u) ∧ ∀ od, Rel K g (w.put p (fo od u)) r cs σ (upd H p (fo od u)) ∧ Ext w (w.put p (fo od u)) ∧ Rep K (w.put p (fo od u)) d (.ref p) := by
  obtain ⟨p, rfl, h1, h2, h3, h4, h5, h7, h6⟩ := h
  obtain ⟨u, e1, mu⟩ := HRep.isobj h1
  refine ⟨p, u, rfl, e1, mu, fun od => ?_⟩
  have ex : Ext w (w.put p (fo od u)) := Ext.put h2
  have rp : Rep K (w.put p (fo od u)) d (.ref p) := by
    cases c with
    | lst ds =>
      cases ed
      obtain ⟨vs, q1, q2⟩ := h1
      rw [e1] at q1
      cases q1
      exact ⟨p, vs, rfl, upd_same, q2.mono ex⟩
    | dct ks ds =>
      cases ed
      obtain ⟨kvs, q1, q2, q3⟩ := h1
      rw [e1] at q1
      cases q1
      exact ⟨p, od, kvs, rfl, upd_same, q2, q3.mono ex⟩
    | ins _ _ _ => cases ed
  refine ⟨?_, ex, rp⟩
  have hw : ∀ b, b ≠ p → (w.put p (fo od u)).F b = w.F b := fun b q => upd_ne q
  have hk : ∀ a u, g.H0 a = some u → a ≠ p := fun a u e1 z => by
    rw [z, h4] at e1; cases e1
  have hk2 : ∀ a u, g.E0 a = some u → a ≠ p := fun a u e1 z => by
    rw [z, h7] at e1; cases e1
  refine ⟨Same.put R.ff, R.f0.trans ex, R.gw, fun a u e1 => by rw [upd_ne (hk a u e1)]; exact R.al a u e1, fun a u e1 => by rw [upd_ne (hk2 a u e1)]; exact R.ae a u e1, fun a u e1 e2 => ?_, fun a u e1 e2 n => ?_, R.len, fun j s q => ?_, R.dist, R.io, ⟨R.ce.len, R.ce.nd, fun n c' q e1 e2 => ?_⟩, R.lk⟩
  · rw [upd_ne (hk a u e1)]; exact R.keep a u e1 e2
  · rw [hw _ (hk a u e1)]; exact R.fk a u e1 e2 n
  · have z := R.sl j s q
    cases s with
    | no => trivial
    | val io d =>
      obtain ⟨v, e1, e2⟩ := z
      exact ⟨v, e1, e2.mono ex⟩
    | own io' lk' c' =>
      obtain ⟨p', e1, e2, e3, e4, e5⟩ := z
      have np : p' ≠ p := fun z => by
        rw [z] at e1
        exact h6 j ⟨_, _, _, q, e1⟩
      exact ⟨p', e1, HRep.mono e2 ex (fun u q => by rw [upd_ne np]; exact q), by rw [hw _ np]; exact e3, e4, e5⟩
  · obtain ⟨z1, z2, z3⟩ := R.ce.at_ n c' q e1 e2
    have np : q ≠ p := fun z => by
      subst z
      exact h3 (List.mem_of_getElem? e2)
    exact ⟨HRep.mono z1 ex (fun u q => by rw [upd_ne np]; exact q), by rw [hw _ np]; exact z2, z3⟩
end
end Vi

namespace Vi
open PySem PySem.Spec L2
/-! ### readings that follow the interpreter -/
/-- how an error stands for one of the interpreter's -/
abbrev XR := Wd → Hp → Ex → Value → Option Addr → Prop
section
variable (K : PySem.W.Frag) (xr : XR) (W : WX)
def exW (g : Fx) (w : Wd) (σ : Sg) : Ex → List Sl → List C → Prop := fun x r cs => ∀ w' H' cls d, Rel K g w' r cs σ H' → Ext w w' → xr w' H' x cls d → W cls d σ H'
variable {α β : Type} (rep : Fx → Wd → Hp → List Sl → Sg → α → β → Prop)
def Fin (g : Fx) (w : Wd) (σ : Sg) (Q : β → Hp → Prop) : α → List Sl → List C → Prop := fun a r cs => ∀ w' H' b, Rel K g w' r cs σ H' → Ext w w' → rep g w' H' r σ a b → Q b H'
def tG (m : List Sl → List C → Res α) : Sg → Hp → (β → Hp → Prop) → Prop := fun σ H Q => ∃ g w r cs, Rel K g w r cs σ H ∧ (m r cs).P (Fin K rep g w σ Q) (exW K xr W g w σ)
end
def repV (K : PySem.W.Frag) : Fx → Wd → Hp → List Sl → Sg → Rv → V → Prop := fun g w H r σ x v => RvRep K g w H r σ x v
def repD (K : PySem.W.Frag) : Fx → Wd → Hp → List Sl → Sg → D → V → Prop := fun _ w _ _ _ d v => Rep K w d v
def repO (K : PySem.W.Frag) : Fx → Wd → Hp → List Sl → Sg → Od → V → Prop := fun _ w _ _ σ o v => OdRep K w σ o v
def repB : Fx → Wd → Hp → List Sl → Sg → Bool → Bool → Prop := fun _ _ _ _ _ a b => a = b
def repDs (K : PySem.W.Frag) : Fx → Wd → Hp → List Sl → Sg → List D → List V → Prop := fun _ w _ _ _ d v => Reps K w d v
def repOs (K : PySem.W.Frag) : Fx → Wd → Hp → List Sl → Sg → List Od → List V → Prop := fun _ w _ _ σ o v => Paired (OdRep K w σ) o v
section
variable {K : PySem.W.Frag} {xr : XR} {W : WX} {α β γ δ : Type} {rep : Fx → Wd → Hp → List Sl → Sg → α → β → Prop} {rep2 : Fx → Wd → Hp → List Sl → Sg → γ → δ → Prop}
  {g : Fx} {w w1 : Wd} {r : List Sl} {cs : List C} {σ : Sg} {H : Hp}
theorem Fin.mono {Q Q' : β → Hp → Prop} {a : α} (h : Fin K rep g w σ Q a r cs) (e : Ext w w1) (hq : ∀ b H, Q b H → Q' b H) : Fin K rep g w1 σ Q' a r cs := fun w' H' b R e' q => hq _ _ (h w' H' b R (e.trans e') q)
theorem exW.mono {x : Ex} (h : exW K xr W g w σ x r cs) (e : Ext w w1) : exW K xr W g w1 σ x r cs := fun w' H' cls d R e' q => h w' H' cls d R (e.trans e') q
theorem tG.mono {m : List Sl → List C → Res α} {Q Q' : β → Hp → Prop} (h : tG K xr W rep m σ H Q) (hq : ∀ b H, Q b H → Q' b H) : tG K xr W rep m σ H Q' := by
  obtain ⟨g, w, r, cs, R, h⟩ := h
  exact ⟨g, w, r, cs, R, h.mono (fun a r cs z => Fin.mono z (Ext.refl _) hq) fun x r cs z => z⟩
/-- one step: what m comes to, then the rest -/
theorem Rel.step {m : List Sl → List C → Res α} {f : α → List Sl → List C → Res γ} {Q : δ → Hp → Prop} (R : Rel K g w r cs σ H) (h : ((m r cs).bind f).P (Fin K rep2 g w σ Q) (exW K xr W g w σ)) :
    tG K xr W rep m σ H fun b H1 => ∃ w1 r1 cs1 a, Rel K g w1 r1 cs1 σ H1 ∧ Ext w w1 ∧ rep g w1 H1 r1 σ a b ∧ (f a r1 cs1).P (Fin K rep2 g w1 σ Q) (exW K xr W g w1 σ) := by
  refine ⟨g, w, r, cs, R, h.bind.mono (fun a r1 cs1 z => ?_) fun x r cs z => z⟩
  intro w1 H1 b R1 e1 q
  exact ⟨w1, r1, cs1, a, R1, e1, q, z.mono (fun c r cs y => Fin.mono y e1 fun _ _ t => t) fun x r cs y => exW.mono y e1⟩
end
section
variable {X : Cx} {e : Expr} {t t' : TE}
theorem pe_weak (h : PE X e t) (k : ∀ σ H Q, t' σ H Q → t σ H Q) : PE X e t' := ⟨fun pins s σ H Q I q => h.run pins s σ H Q I (k σ H Q q)⟩
theorem pt_weak {t t' : TT} (h : PT X e t) (k : ∀ σ H Q, t' σ H Q → t σ H Q) : PT X e t' := ⟨fun pins s σ H Q I q => h.run pins s σ H Q I (k σ H Q q)⟩
theorem ps_weak {st : Stmt} {t t' : TS} (h : PS X st t) (k : ∀ D σ H, t' D σ H → t D σ H) : PS X st t' := ⟨fun pins s σ H D I q => h.run pins s σ H D I (k D σ H q)⟩
theorem pss_weak {st : List Stmt} {t t' : TS} (h : PSs X st t) (k : ∀ D σ H, t' D σ H → t D σ H) : PSs X st t' := ⟨fun pins s σ H D I q => h.run pins s σ H D I (k D σ H q)⟩
end
/-! ### pure operations on values -/
/-- a new result -/
def NewRv (K : PySem.W.Frag) (w : Wd) (H H' : Hp) (x : Rv) (v : V) : Prop := match x with
  | .val d => Rep K w d v
  | .own c => ∃ p, v = .ref p ∧ H p = none ∧ HRep K w H' c p ∧ w.F p = none
/-- what is wanted of a pure operation on the data ds -/
def rOf (K : PySem.W.Frag) (f : List D → Option Rv) : List V → Hp → VK → Prop := fun vs H Q =>
  ∃ w ds x, Same w.F H ∧ RdDs K w H ds vs ∧ f ds = some x ∧ ∀ v H' w', PureX w H w' H' → NewRv K w' H H' x v → Q v H'
def rOf2 (K : PySem.W.Frag) (f : D → D → Option Rv) : R2 := fun a b H Q =>
  ∃ w d e x, Same w.F H ∧ RdD K w H d a ∧ RdD K w H e b ∧ f d e = some x ∧ ∀ v H' w', PureX w H w' H' → NewRv K w' H H' x v → Q v H'
section
variable {K : PySem.W.Frag} {g : Fx} {w w' : Wd} {r : List Sl} {cs : List C} {σ : Sg} {H H' : Hp}
theorem Rel.freshE (R : Rel K g w r cs σ H) {p : Addr} (hp : H p = none) : g.E0 p = none := by
  cases q : g.E0 p with
  | none => rfl
  | some o =>
    obtain ⟨o', e⟩ := R.ae p o q
    rw [hp] at e; cases e
theorem Rel.fresh (R : Rel K g w r cs σ H) {p : Addr} (hp : H p = none) : g.H0 p = none ∧ p ∉ g.W ∧ p ∉ w.ph ∧ ∀ i, ¬ OwnAt r σ i p := by
  have h0 : g.H0 p = none := by
    cases q : g.H0 p with
    | none => rfl
    | some o =>
      obtain ⟨o', e⟩ := R.al p o q
      rw [hp] at e; cases e
  refine ⟨h0, fun z => ?_, fun z => ?_, fun i z => ?_⟩
  · obtain ⟨o, e⟩ := R.gw p z
    rw [h0] at e; cases e
  · obtain ⟨n, hn, e⟩ := List.getElem_of_mem z
    have hn2 : n < cs.length := by rw [R.ce.len]; exact hn
    obtain ⟨h1, _, _⟩ := R.ce.at_ n cs[n] p (List.getElem?_eq_getElem hn2) (by rw [List.getElem?_eq_getElem hn, e])
    obtain ⟨o, e1⟩ := HRep.at_some h1
    rw [hp] at e1; cases e1
  · obtain ⟨io, lk, c, e1, e2⟩ := z
    obtain ⟨h1, _⟩ := R.mayW e1 e2
    obtain ⟨o, e1⟩ := HRep.at_some h1
    rw [hp] at e1; cases e1
theorem Rel.newRv (R : Rel K g w r cs σ H) (x : PureX w H w' H') {v : Rv} {u : V} (n : NewRv K w' H H' v u) : RvRep K g w' H' r σ v u := by
  cases v with
  | val d => exact n
  | own c =>
    obtain ⟨p, rfl, hp, h1, h2⟩ := n
    obtain ⟨a1, a2, a3, a4⟩ := R.fresh hp
    exact ⟨p, rfl, h1, h2, by rw [x.ph]; exact a3, a1, a2, R.freshE hp, a4⟩
/-- the end of a pure operation -/
theorem Rel.endP (R : Rel K g w r cs σ H) {xr : XR} {W : WX} {Q : VK} {o : Option Rv} (h : (liftO o r cs).P (Fin K (repV K) g w σ Q) (exW K xr W g w σ)) :
    ∃ x, o = some x ∧ ∀ v H' w', PureX w H w' H' → NewRv K w' H H' x v → Q v H' := by
  obtain ⟨x, e, h⟩ := liftO_P h
  exact ⟨x, e, fun v H' w' p n => h w' H' v (R.pure p) p.ext (R.newRv p n)⟩
end
/-! ### expressions -/
section
variable {X : Cx} {xr : XR} {W : WX}
abbrev tM (K : PySem.W.Frag) (xr : XR) (W : WX) (m : List Sl → List C → Res Rv) : TE := tG K xr W (repV K) m
abbrev tDm (K : PySem.W.Frag) (xr : XR) (W : WX) (m : List Sl → List C → Res D) : TE := tG K xr W (repD K) m
abbrev tOm (K : PySem.W.Frag) (xr : XR) (W : WX) (m : List Sl → List C → Res Od) : TE := tG K xr W (repO K) m
/-- a constant -/
theorem pe_con {e : Expr} {v : V} {d : D} (h : PE X e (tC v)) (hr : ∀ w, Rep X.K w d v) : PE X e (tM X.K xr W fun r cs => .ok (.val d) r cs) := by
  refine pe_weak h fun σ H Q ⟨g, w, r, cs, R, q⟩ => ?_
  exact q w H v R (Ext.refl _) (hr w)
/-- a name, read as a value -/
theorem pe_read {i : Nat} {x : Str} {pos : Pos} (hN : X.N[i]? = some x) (hv : Vis X.env.scope x) (hd : (x == ("__debug__" : Str)) = false) (hcd : (x == ("__classdict__" : Str)) = false) :
    PE X (.Name x pos) (tM X.K xr W (readVar i)) := by
  refine ⟨fun pins s σ H Q I h => ?_⟩
  obtain ⟨g, w, r, cs, R, h⟩ := h
  unfold readVar at h
  cases q : r[i]? with
  | none => rw [q] at h; exact h.elim
  | some y =>
    rw [q] at h
    cases y with
    | no => exact h.elim
    | val io d =>
      obtain ⟨v, e1, e2⟩ := R.sl i _ q
      exact (pe_var hN hv hd hcd).run pins s σ H Q I ⟨v, e1, h w H v R (Ext.refl _) e2⟩
    | own io lk c =>
      cases lk with
      | true => exact h.elim
      | false =>
        cases ed : c.toD with
        | none => simp only [ed] at h; exact h.elim
        | some d =>
          simp only [ed] at h
          obtain ⟨p, es⟩ := R.ownAddr q
          obtain ⟨u, e1, mu, fz⟩ := R.freeze (u := .lst []) q es ed
          obtain ⟨od, I2⟩ := Inv.fo I e1 mu
          obtain ⟨R2, ex, rp⟩ := fz od
          exact (pe_var hN hv hd hcd).run pins s σ _ Q I2 ⟨_, es, h _ _ _ R2 ex rp⟩
/-- .. as an operand -/
theorem pe_opv {i : Nat} {x : Str} {pos : Pos} {m : List Sl → List C → Res Rv} (hN : X.N[i]? = some x) (hv : Vis X.env.scope x) (hd : (x == ("__debug__" : Str)) = false) (hcd : (x == ("__classdict__" : Str)) = false) :
    PE X (.Name x pos) (tOm X.K xr W fun r cs => opd (.var i) r cs (m r cs)) := by
  refine pe_weak (pe_var hN hv hd hcd) fun σ H Q ⟨g, w, r, cs, R, h⟩ => ?_
  unfold opd at h
  cases q : r[i]? with
  | none => simp only [q] at h; exact h.elim
  | some y =>
    simp only [q] at h
    cases y with
    | no => exact h.elim
    | val io d =>
      obtain ⟨v, e1, e2⟩ := R.sl i _ q
      exact ⟨v, e1, h w H v R (Ext.refl _) e2⟩
    | own io lk c =>
      obtain ⟨p, e1, _⟩ := R.sl i _ q
      exact ⟨_, e1, h w H _ R (Ext.refl _) e1⟩
/-- a result is frozen -/
theorem pe_frz {e : Expr} {m : List Sl → List C → Res Rv} (h : PE X e (tM X.K xr W m)) : PE X e (tDm X.K xr W fun r cs => (m r cs).d) := by
  refine ⟨fun pins s σ H Q I ⟨g, w, r, cs, R, hp⟩ => ?_⟩
  unfold Res.d at hp
  have q := R.step (rep := repV X.K) (m := m) hp
  refine thn (h.run pins s σ H _ I q) fun u s1 ⟨x, H1, I1, rx, w1, r1, cs1, v, R1, e1, rv, k⟩ => ?_
  cases v with
  | val d => exact ⟨x, H1, I1, rx, k w1 H1 x R1 (Ext.refl _) rv⟩
  | own c =>
    unfold Rv.frz at k
    cases ed : c.toD with
    | none => simp only [ed] at k; exact k.elim
    | some d =>
      simp only [ed] at k
      obtain ⟨p, u', rfl, hp, mu, fz⟩ := R1.freezeR rv ed
      obtain ⟨od, I2⟩ := Inv.fo I1 hp mu
      obtain ⟨R2, ex, rp⟩ := fz od
      exact ⟨_, _, I2, rx, k _ _ _ R2 ex rp⟩
/-- data as an operand -/
theorem opd_ne {ex : E} (hv : ∀ i, ex ≠ .var i) (r : List Sl) (cs : List C) (m : Res Rv) : opd ex r cs m = m.d.bind fun d r cs => .ok (.val d) r cs := by
  have e : opd ex r cs m = m.bind fun v r cs => (v.frz r cs).bind fun d r cs => .ok (.val d) r cs := by
    cases ex with
    | var i => exact absurd rfl (hv i)
    | _ => rfl
  rw [e]
  cases m <;> rfl
theorem pe_opd {e : Expr} {ex : E} {m : List Sl → List C → Res Rv} (hv : ∀ i, ex ≠ .var i) (h : PE X e (tM X.K xr W m)) : PE X e (tOm X.K xr W fun r cs => opd ex r cs (m r cs)) := by
  refine pe_weak (pe_frz h) fun σ H Q ⟨g, w, r, cs, R, hp⟩ => ?_
  refine ⟨g, w, r, cs, R, ?_⟩
  simp only [opd_ne hv] at hp
  exact hp.bind.mono (fun d r' cs' q w' H' b R' e' rb => q w' H' b R' e' rb) fun _ _ _ q => q
theorem RdDs.one {K : PySem.W.Frag} {w : Wd} {H : Hp} {ds : List D} {x : V} (h : RdDs K w H ds [x]) : ∃ d, ds = [d] ∧ RdD K w H d x := by
  match ds, h with
  | [d], ⟨_, _, q, h1, h2⟩ => cases q; exact ⟨d, rfl, h1⟩
  | [], h => cases h
  | d :: e :: t, ⟨_, _, e1, _, _, _, e2, _⟩ => cases e1; cases e2
theorem RdDs.two {K : PySem.W.Frag} {w : Wd} {H : Hp} {ds : List D} {x y : V} (h : RdDs K w H ds [x, y]) : ∃ d e, ds = [d, e] ∧ RdD K w H d x ∧ RdD K w H e y := by
  match ds, h with
  | d :: t, ⟨_, _, q, h1, h2⟩ =>
    cases q
    obtain ⟨e, rfl, h3⟩ := RdDs.one h2
    exact ⟨d, e, rfl, h1, h3⟩
  | [], h => cases h
theorem OdRep.mono {K : PySem.W.Frag} {w w' : Wd} {σ : Sg} {o : Od} {x : V} (h : OdRep K w σ o x) (e : Ext w w') : OdRep K w' σ o x := by
  cases o with
  | slot i => exact h
  | val d => exact Rep.mono e d x h
/-- a pure operation of two -/
theorem pe_bin {a b : Expr} {pos : Pos} {op : Operator} {f : D → D → Option Rv} {ma mb : List Sl → List C → Res Od} (ho : OpR X (binaryOp op) (rOf2 X.K f)) (ha : PE X a (tOm X.K xr W ma)) (hb : PE X b (tOm X.K xr W mb)) :
    PE X (.BinOp a op b pos) (tM X.K xr W fun r cs => (ma r cs).bind fun x r cs => (mb r cs).bind fun y r cs => (liftO (rds r [x, y]) r cs).bind fun ds r cs => match ds with
        | [d, e] => liftO (f d e) r cs
        | _ => .no) := by
  refine pe_weak (pe_op ho ha hb) fun σ H Q ⟨g, w, r, cs, R, hp⟩ => ?_
  refine tG.mono (R.step hp) fun x H1 ⟨w1, r1, cs1, o1, R1, e1, q1, k1⟩ => ?_
  refine tG.mono (R1.step k1) fun y H2 ⟨w2, r2, cs2, o2, R2, e2, q2, k2⟩ => ?_
  obtain ⟨ds, ed, k3⟩ := liftO_P k2.bind
  obtain ⟨d, e, rfl, h1, h2⟩ := RdDs.two (R2.rds (os := [o1, o2]) (vs := [x, y]) (.cons (OdRep.mono q1 e2) (.cons q2 .nil)) ed)
  obtain ⟨rv, erv, fin⟩ := R2.endP k3
  exact ⟨w2, _, _, rv, R2.ff, h1, h2, erv, fin⟩
end
end Vi

namespace Vi
open PySem PySem.Spec L2
/-! ### operations of two values -/
section
variable {X : Cx}
theorem newL {K : PySem.W.Frag} {w : Wd} {H : Hp} {p : Addr} {ds : List D} {vs : List V} (hp : H p = none) (ff : Same w.F H) (r : Reps K w ds vs) : NewRv K w H (upd H p (.lst vs)) (.own (.lst ds)) (.ref p) :=
  ⟨p, rfl, hp, ⟨vs, upd_same, r⟩, by
    cases q : w.F p with
    | none => rfl
    | some o => rw [ff _ _ q] at hp; cases hp⟩
theorem newT {K : PySem.W.Frag} {w : Wd} {H : Hp} {p : Addr} {ds : List D} {vs : List V} (hp : H p = none) (ff : Same w.F H) (r : Reps K w ds vs) : Rep K (w.put p (.tup vs)) (.tup ds) (.ref p) := by
  have hF : w.F p = none := by
    cases q : w.F p with
    | none => rfl
    | some o => rw [ff _ _ q] at hp; cases hp
  exact ⟨p, vs, rfl, .inl (.inl upd_same), r.mono (Ext.put hF)⟩
theorem rdT {K : PySem.W.Frag} {w : Wd} {H : Hp} {ds : List D} {v : V} (ff : Same w.F H) (h : RdD K w H (.tup ds) v) : ∃ p vs, v = .ref p ∧ SqT K H p vs ∧ Reps K w ds vs := by
  obtain ⟨p, vs, rfl, h1, h2⟩ := h
  exact ⟨p, vs, rfl, same_tup ff h1, h2⟩
theorem reps_nil {K : PySem.W.Frag} {w : Wd} {ds : List D} {vs : List V} (r : Reps K w ds vs) : vs = [] ↔ ds = [] := by
  have := r.length
  constructor
  · rintro rfl
    exact List.length_eq_zero_iff.mp (by simpa using this.symm)
  · rintro rfl
    exact List.length_eq_zero_iff.mp (by simpa using this)
theorem op_addD : OpR X (binaryOp .Add) (rOf2 X.K (binD .add)) := by
  intro pins s σ H x y v u Q I rx ry ⟨w, d, e, z, ff, h1, h2, hz, k⟩
  cases d <;> cases e <;> first
    | (simp [binD] at hz; done)
    | skip
  case int.int i j =>
    simp [binD] at hz
    subst hz
    exact op_add pins s σ H x y v u Q I rx ry ⟨i, j, h1, h2, k _ H w (PureX.refl ff) rfl⟩
  case str.str i j =>
    simp [binD] at hz
    obtain ⟨hl, rfl⟩ := hz
    exact op_add_str pins s σ H x y v u Q I rx ry ⟨i, j, h1, h2, hl, k _ H w (PureX.refl ff) rfl⟩
  case tup.tup ds es =>
    simp [binD] at hz
    obtain ⟨hl, rfl⟩ := hz
    obtain ⟨a, vs, rfl, a1, a2⟩ := rdT ff h1
    obtain ⟨b, us, rfl, b1, b2⟩ := rdT ff h2
    refine op_catA pins s σ H _ _ v u Q I rx ry ⟨a, b, vs, us, rfl, rfl, a1, b1, by rw [a2.length, b2.length]; exact hl, fun q => ?_, fun q1 q2 => ?_, fun q1 q2 p hp => ?_⟩
    · obtain rfl := (reps_nil a2).mp q
      obtain ⟨b, us, e1, b1, b2⟩ := h2
      cases e1
      exact k _ H w (PureX.refl ff) ⟨_, us, rfl, b1, by simpa using b2⟩
    · obtain rfl := (reps_nil b2).mp q2
      obtain ⟨a, vs, e1, a1, a2⟩ := h1
      cases e1
      exact k _ H w (PureX.refl ff) ⟨_, vs, rfl, a1, by simpa using a2⟩
    · exact k _ _ _ (PureX.new ff hp) (newT hp ff (a2.append b2))
  case lst.lst ds es =>
    simp [binD] at hz
    obtain ⟨hl, rfl⟩ := hz
    obtain ⟨a, vs, rfl, a1, a2⟩ := h1
    obtain ⟨b, us, rfl, b1, b2⟩ := h2
    exact op_cat pins s σ H _ _ v u Q I rx ry ⟨a, b, vs, us, rfl, rfl, a1, b1, by rw [a2.length, b2.length]; exact hl, fun p hp => k _ _ _ (PureX.newOwn ff hp) (newL hp ff (a2.append b2))⟩
theorem op_subD : OpR X (binaryOp .Sub) (rOf2 X.K (binD .sub)) := by
  intro pins s σ H x y v u Q I rx ry ⟨w, d, e, z, ff, h1, h2, hz, k⟩
  cases d <;> cases e <;> first
    | (simp [binD] at hz; done)
    | skip
  case int.int i j =>
    simp [binD] at hz
    subst hz
    exact op_sub pins s σ H x y v u Q I rx ry ⟨i, j, h1, h2, k _ H w (PureX.refl ff) rfl⟩
theorem small64_ok {i : Int} (h : small64 i = true) : -(2 ^ 64) < i ∧ i < 2 ^ 64 := by
  unfold small64 at h
  simp only [Bool.and_eq_true, decide_eq_true_eq] at h
  omega
theorem small63_ok {i : Int} (h : small63 i = true) : -(2 ^ 63) ≤ i ∧ i < 2 ^ 63 := by
  unfold small63 at h
  simp only [Bool.and_eq_true, decide_eq_true_eq] at h
  omega
theorem op_mulD : OpR X (binaryOp .Mult) (rOf2 X.K (binD .mul)) := by
  intro pins s σ H x y v u Q I rx ry ⟨w, d, e, z, ff, h1, h2, hz, k⟩
  cases d <;> cases e <;> first
    | (simp [binD] at hz; done)
    | skip
  case int.int i j =>
    simp only [binD] at hz
    split at hz
    · rename_i hc
      cases hz
      refine op_mul pins s σ H x y v u Q I rx ry ⟨i, j, h1, h2, ?_, k _ H w (PureX.refl ff) rfl⟩
      rcases Bool.or_eq_true_iff.mp hc with q | q
      · exact .inl (small64_ok q)
      · exact .inr (small64_ok q)
    · cases hz
  case lst.int ds j =>
    simp only [binD] at hz
    split at hz
    · rename_i hc
      cases hz
      obtain ⟨a, vs, rfl, a1, a2⟩ := h1
      simp only [Bool.and_eq_true, decide_eq_true_eq] at hc
      obtain ⟨c0, c3⟩ := hc
      obtain ⟨c1, c2⟩ := small63_ok c0
      refine op_rep pins s σ H _ _ v u Q I rx ry ⟨a, j, vs, rfl, h2, a1, c1, c2, by rw [a2.length]; exact c3, fun p hp => k _ _ _ (PureX.newOwn ff hp) (newL hp ff ?_)⟩
      generalize j.toNat = n
      clear k c3
      induction n with
      | zero => simp [Reps]
      | succ n ih => simpa [List.replicate_succ] using a2.append ih
    · cases hz
theorem op_fdivD : OpR X (binaryOp .FloorDiv) (rOf2 X.K (binD .fdiv)) := by
  intro pins s σ H x y v u Q I rx ry ⟨w, d, e, z, ff, h1, h2, hz, k⟩
  cases d <;> cases e <;> first
    | (simp [binD] at hz; done)
    | skip
  case int.int i j =>
    simp only [binD] at hz
    split at hz
    · rename_i hc
      cases hz
      simp only [Bool.and_eq_true, decide_eq_true_eq] at hc
      exact op_fdivN pins s σ H x y v u Q I rx ry ⟨i, j, h1, h2, hc, k _ H w (PureX.refl ff) rfl⟩
    · cases hz
theorem op_modD : OpR X (binaryOp .Mod) (rOf2 X.K (binD .mod)) := by
  intro pins s σ H x y v u Q I rx ry ⟨w, d, e, z, ff, h1, h2, hz, k⟩
  cases d <;> cases e <;> first
    | (simp [binD] at hz; done)
    | skip
  case int.int i j =>
    simp only [binD] at hz
    split at hz
    · cases hz
    · rename_i hc
      cases hz
      exact op_modN pins s σ H x y v u Q I rx ry ⟨i, j, h1, h2, hc, k _ H w (PureX.refl ff) rfl⟩
theorem op_powD : OpR X (binaryOp .Pow) (rOf2 X.K (binD .pow)) := by
  intro pins s σ H x y v u Q I rx ry ⟨w, d, e, z, ff, h1, h2, hz, k⟩
  cases d <;> cases e <;> first
    | (simp [binD] at hz; done)
    | skip
  case int.int i j =>
    simp only [binD] at hz
    split at hz
    · rename_i hc
      cases hz
      simp only [Bool.and_eq_true, decide_eq_true_eq] at hc
      exact op_pow pins s σ H x y v u Q I rx ry ⟨i, j, h1, h2, ⟨hc.1.1, hc.1.2, hc.2⟩, k _ H w (PureX.refl ff) rfl⟩
    · cases hz
def Op.op : Op → Operator
  | .add => .Add | .sub => .Sub | .mul => .Mult | .fdiv => .FloorDiv | .mod => .Mod | .pow => .Pow
theorem op_allD : ∀ o : Op, OpR X (binaryOp o.op) (rOf2 X.K (binD o))
  | .add => op_addD | .sub => op_subD | .mul => op_mulD | .fdiv => op_fdivD | .mod => op_modD | .pow => op_powD
end
end Vi

namespace Vi
open PySem PySem.Spec L2
/-! ### data that == reads -/
section
variable {K : PySem.W.Frag} {w : Wd} {H : Hp}
theorem plain_succ {n : Nat} {d : D} (h : d.plain n = true) : ∃ m, n = m + 1 := by
  cases n with
  | zero => simp [D.plain] at h
  | succ m => exact ⟨m, rfl⟩
mutual
theorem Rep.dp (ff : Same w.F H) : ∀ (d : D) (n : Nat) (v : V), d.plain n = true → Rep K w d v → Dp K H v d.py
  | .non, _, v, _, h => by
    cases (show v = .non from h)
    exact .non
  | .bl b, _, v, _, h => by
    cases (show v = .bl b from h)
    exact .bl b
  | .int i, _, v, _, h => by
    cases (show v = .int i from h)
    exact .int i
  | .str s, _, v, _, h => by
    cases (show v = .str s from h)
    exact .str s
  | .tup ds, n, v, hp, h => by
    obtain ⟨m, rfl⟩ := plain_succ hp
    obtain ⟨p, vs, rfl, h1, h2⟩ := h
    exact .tup (same_tup ff h1) (Reps.dp ff ds m vs (by simpa [D.plain] using hp) h2)
  | .lst ds, n, v, hp, h => by
    obtain ⟨m, rfl⟩ := plain_succ hp
    obtain ⟨p, vs, rfl, h1, h2⟩ := h
    exact .lst (SqL.of (ff _ _ h1)) (Reps.dp ff ds m vs (by simpa [D.plain] using hp) h2)
  | .dct _ _, n, _, hp, _ => by
    obtain ⟨m, rfl⟩ := plain_succ hp
    simp [D.plain] at hp
  | .scr _, n, _, hp, _ => by
    obtain ⟨m, rfl⟩ := plain_succ hp
    simp [D.plain] at hp
  | .obj _, n, _, hp, _ => by
    obtain ⟨m, rfl⟩ := plain_succ hp
    simp [D.plain] at hp
  | .fn _, n, _, hp, _ => by
    obtain ⟨m, rfl⟩ := plain_succ hp
    simp [D.plain] at hp
  | .exc _ _, n, _, hp, _ => by
    obtain ⟨m, rfl⟩ := plain_succ hp
    simp [D.plain] at hp
theorem Reps.dp (ff : Same w.F H) : ∀ (ds : List D) (n : Nat) (vs : List V), D.plains n ds = true → Reps K w ds vs → DpAll K H vs (D.pys ds)
  | [], _, vs, _, h => by
    cases (show vs = [] from h)
    exact .nil
  | d :: ds, n, vs, hp, h => by
    obtain ⟨x, xs, rfl, h1, h2⟩ := h
    have hp : (d.plain n && D.plains n ds) = true := by simpa [D.plains] using hp
    obtain ⟨q1, q2⟩ := Bool.and_eq_true_iff.mp hp
    exact .cons (Rep.dp ff d n x q1 h1) (Reps.dp ff ds n xs q2 h2)
end
theorem RdD.dp (ff : Same w.F H) {d : D} {n : Nat} {v : V} (hp : d.plain n = true) (h : RdD K w H d v) : Dp K H v d.py := by
  obtain ⟨m, rfl⟩ := plain_succ hp
  cases d with
  | lst ds =>
    obtain ⟨p, vs, rfl, h1, h2⟩ := h
    exact .lst (SqL.of h1) (Reps.dp ff ds m vs (by simpa [D.plain] using hp) h2)
  | dct ks ds => simp [D.plain] at hp
  | scr ds => simp [D.plain] at hp
  | non => exact Rep.dp ff _ _ _ hp h
  | bl _ => exact Rep.dp ff _ _ _ hp h
  | int _ => exact Rep.dp ff _ _ _ hp h
  | str _ => exact Rep.dp ff _ _ _ hp h
  | tup _ => exact Rep.dp ff _ _ _ hp h
  | obj _ => exact Rep.dp ff _ _ _ hp h
  | fn _ => exact Rep.dp ff _ _ _ hp h
  | exc _ _ => exact Rep.dp ff _ _ _ hp h
mutual
theorem plain_lay : ∀ (d : D) (n : Nat), d.plain n = true → d.py.canLay0 = true ∧ d.py.depth ≤ n
  | .non, n, h => by
    obtain ⟨m, rfl⟩ := plain_succ h
    simp [D.py, PyData.canLay0, PyData.depth]
  | .bl _, n, h => by
    obtain ⟨m, rfl⟩ := plain_succ h
    simp [D.py, PyData.canLay0, PyData.depth]
  | .int _, n, h => by
    obtain ⟨m, rfl⟩ := plain_succ h
    simp [D.py, PyData.canLay0, PyData.depth]
  | .str _, n, h => by
    obtain ⟨m, rfl⟩ := plain_succ h
    simpa [D.py, PyData.canLay0, PyData.depth, D.plain] using h
  | .tup ds, n, h => by
    obtain ⟨m, rfl⟩ := plain_succ h
    obtain ⟨q1, q2⟩ := plains_lay ds m (by simpa [D.plain] using h)
    simp only [D.py, PyData.canLay0, PyData.depth]
    exact ⟨q1, by omega⟩
  | .lst ds, n, h => by
    obtain ⟨m, rfl⟩ := plain_succ h
    obtain ⟨q1, q2⟩ := plains_lay ds m (by simpa [D.plain] using h)
    simp only [D.py, PyData.canLay0, PyData.depth]
    exact ⟨q1, by omega⟩
  | .dct _ _, n, hp => by
    obtain ⟨m, rfl⟩ := plain_succ hp
    simp [D.plain] at hp
  | .scr _, n, hp => by
    obtain ⟨m, rfl⟩ := plain_succ hp
    simp [D.plain] at hp
  | .obj _, n, hp => by
    obtain ⟨m, rfl⟩ := plain_succ hp
    simp [D.plain] at hp
  | .fn _, n, hp => by
    obtain ⟨m, rfl⟩ := plain_succ hp
    simp [D.plain] at hp
  | .exc _ _, n, hp => by
    obtain ⟨m, rfl⟩ := plain_succ hp
    simp [D.plain] at hp
theorem plains_lay : ∀ (ds : List D) (n : Nat), D.plains n ds = true → PyData.canLayAll0 (D.pys ds) = true ∧ PyData.depthAll (D.pys ds) ≤ n
  | [], n, _ => by simp [D.pys, PyData.canLayAll0, PyData.depthAll]
  | d :: ds, n, h => by
    have hp : (d.plain n && D.plains n ds) = true := by simpa [D.plains] using h
    obtain ⟨q1, q2⟩ := Bool.and_eq_true_iff.mp hp
    obtain ⟨a1, a2⟩ := plain_lay d n q1
    obtain ⟨b1, b2⟩ := plains_lay ds n q2
    simp only [D.pys, PyData.canLayAll0, PyData.depthAll]
    exact ⟨Bool.and_eq_true_iff.mpr ⟨a1, b1⟩, by omega⟩
end
theorem plain_shaped {d : D} {n : Nat} (h : d.plain n = true) (hn : n ≤ 64) : SeqAt.shaped d.py = true := by
  obtain ⟨a, b⟩ := plain_lay d n h
  exact Bool.and_eq_true_iff.mpr ⟨a, decide_eq_true (by omega)⟩
theorem pys_any (f : PyData → Bool) : ∀ ds : List D, (D.pys ds).any f = ds.any fun z => f z.py
  | [] => rfl
  | d :: ds => by simp [D.pys, pys_any f ds]
end
/-! ### dicts -/
section
variable {K : PySem.W.Frag} {w : Wd}
theorem getK_ok {k : Key} : ∀ {kvs : List (Key × V)} {ks : List Key} {ds : List D}, kvs.map (·.1) = ks → Reps K w ds (kvs.map (·.2)) →
    (∀ d, getK ks ds k = some d → ∃ v, valV kvs k = some v ∧ Rep K w d v) ∧ (getK ks ds k = none → valV kvs k = none)
  | [], _, ds, e, r => by
    subst e
    refine ⟨fun d h => ?_, fun _ => rfl⟩
    simp [getK] at h
  | (k', v) :: kvs, _, ds, e, r => by
    subst e
    cases ds with
    | nil => cases r
    | cons d ds =>
      obtain ⟨_, _, e1, h1, h2⟩ := r
      simp only [List.map_cons] at e1
      cases e1
      obtain ⟨i1, i2⟩ := getK_ok (k := k) (kvs := kvs) rfl h2
      by_cases q : k' = k
      · subst q
        refine ⟨fun d' h => ?_, fun h => ?_⟩
        · simp [getK] at h
          subst h
          exact ⟨v, valV_pos rfl, h1⟩
        · simp [getK] at h
      · refine ⟨fun d' h => ?_, fun h => ?_⟩
        · simp only [List.map_cons, getK, if_neg q] at h
          obtain ⟨v', e1, e2⟩ := i1 d' h
          exact ⟨v', by rw [valV_neg q]; exact e1, e2⟩
        · simp only [List.map_cons, getK, if_neg q] at h
          rw [valV_neg q]
          exact i2 h
theorem any_contains (kvs : List (Key × V)) (k : Key) : (kvs.any fun kv => decide (kv.1 = k)) = hasK (kvs.map (·.1)) k := by
  unfold hasK
  rw [List.any_map]
  rfl
theorem putK_ok {k : Key} {kvs : List (Key × V)} {ks : List Key} {ds : List D} {d : D} {v : V} (e : kvs.map (·.1) = ks) (r : Reps K w ds (kvs.map (·.2))) (rv : Rep K w d v) :
    (putK kvs k v).map (·.1) = (putK' ks ds k d).1 ∧ Reps K w (putK' ks ds k d).2 ((putK kvs k v).map (·.2)) := by
  unfold putK putK'
  rw [any_contains, e]
  by_cases q : hasK ks k = true
  · rw [if_pos q, if_pos q]
    clear q
    subst e
    induction kvs generalizing ds with
    | nil =>
      cases ds with
      | nil => simp [Reps]
      | cons _ _ =>
        obtain ⟨_, _, e1, _⟩ := r
        cases e1
    | cons p r' ih =>
      cases ds with
      | nil => cases r
      | cons d' ds =>
        obtain ⟨_, _, e1, h1, h2⟩ := r
        simp only [List.map_cons] at e1
        cases e1
        obtain ⟨i1, i2⟩ := ih h2
        simp only [List.map_cons, List.zipWith_cons_cons]
        by_cases q : p.1 = k
        · rw [if_pos q, if_pos q]
          exact ⟨by rw [i1], _, _, rfl, rv, i2⟩
        · rw [if_neg q, if_neg q]
          exact ⟨by rw [i1], _, _, rfl, h1, i2⟩
  · rw [if_neg q, if_neg q]
    refine ⟨by simp [e], ?_⟩
    simp only [List.map_append, List.map_cons, List.map_nil]
    exact r.append (Reps.one rv)
theorem keyD_ok {d : D} {k : Key} {v : V} {H : Hp} (e : keyD d = some k) (h : RdD K w H d v) : v = kV k := by
  cases d <;> simp [keyD] at e
  case int i => subst e; exact h
  case str i => subst e; exact h
end
/-! ### comparisons -/
section
variable {X : Cx}
theorem op_eqDD (hu : X.A.units + 64 < cLine) : OpR X (compareOp .Eq) (rOf2 X.K fun x y => (eqD x y).bind ofB) := by
  intro pins s σ H x y v u Q I rx ry ⟨w, d, e, z, ff, h1, h2, hz, k⟩
  obtain ⟨b, eb, ez⟩ := Option.bind_eq_some_iff.mp hz
  cases ez
  have gen : d.plain 60 = true → e.plain 60 = true → b = PyData.eqv d.py e.py → wpAny (model X.prog X.w) X.A (compareOp .Eq v u) (EP X pins σ Q) X.xe s := fun p1 p2 e3 =>
    op_eqD hu pins s σ H x y v u Q I rx ry ⟨d.py, e.py, RdD.dp ff p1 h1, RdD.dp ff p2 h2, plain_shaped p1 (by decide), plain_shaped p2 (by decide), by rw [← e3]; exact k _ H w (PureX.refl ff) rfl⟩
  cases d <;> cases e <;> first
    | (simp only [eqD] at eb
       split at eb
       · rename_i hp
         obtain ⟨q1, q2⟩ := Bool.and_eq_true_iff.mp hp
         exact gen q1 q2 (Option.some.inj eb).symm
       · cases eb)
    | skip
  case int.int i j =>
    cases (show x = .int i from h1)
    cases (show y = .int j from h2)
    refine op_eq pins s σ H _ _ v u Q I rx ry ⟨rfl, ?_⟩
    rw [dec_int]
    cases (show (i == j) = b from Option.some.inj eb)
    exact k _ H w (PureX.refl ff) rfl
  case bl.bl i j =>
    cases (show x = .bl i from h1)
    cases (show y = .bl j from h2)
    refine op_eq pins s σ H _ _ v u Q I rx ry ⟨rfl, ?_⟩
    rw [dec_bl]
    cases (show (i == j) = b from Option.some.inj eb)
    exact k _ H w (PureX.refl ff) rfl
  case str.str i j =>
    cases (show x = .str i from h1)
    cases (show y = .str j from h2)
    refine op_eq pins s σ H _ _ v u Q I rx ry ⟨rfl, ?_⟩
    rw [dec_str]
    cases (show (i == j) = b from Option.some.inj eb)
    exact k _ H w (PureX.refl ff) rfl
theorem op_neDD (hu : X.A.units + 64 < cLine) : OpR X (compareOp .NotEq) (rOf2 X.K fun x y => ((eqD x y).map (!·)).bind ofB) := by
  intro pins s σ H x y v u Q I rx ry ⟨w, d, e, z, ff, h1, h2, hz, k⟩
  obtain ⟨b', eb', ez⟩ := Option.bind_eq_some_iff.mp hz
  cases ez
  obtain ⟨b, eb, e4⟩ := Option.map_eq_some_iff.mp eb'
  subst e4
  have gen : d.plain 60 = true → e.plain 60 = true → b = PyData.eqv d.py e.py → wpAny (model X.prog X.w) X.A (compareOp .NotEq v u) (EP X pins σ Q) X.xe s := fun p1 p2 e3 =>
    op_neD hu pins s σ H x y v u Q I rx ry ⟨d.py, e.py, RdD.dp ff p1 h1, RdD.dp ff p2 h2, plain_shaped p1 (by decide), plain_shaped p2 (by decide), by rw [← e3]; exact k _ H w (PureX.refl ff) rfl⟩
  cases d <;> cases e <;> first
    | (simp only [eqD] at eb
       split at eb
       · rename_i hp
         obtain ⟨q1, q2⟩ := Bool.and_eq_true_iff.mp hp
         exact gen q1 q2 (Option.some.inj eb).symm
       · cases eb)
    | skip
  case int.int i j =>
    cases (show x = .int i from h1)
    cases (show y = .int j from h2)
    refine op_ne pins s σ H _ _ v u Q I rx ry ⟨rfl, ?_⟩
    rw [dec_int]
    cases (show (i == j) = b from Option.some.inj eb)
    exact k _ H w (PureX.refl ff) rfl
  case bl.bl i j =>
    cases (show x = .bl i from h1)
    cases (show y = .bl j from h2)
    refine op_ne pins s σ H _ _ v u Q I rx ry ⟨rfl, ?_⟩
    rw [dec_bl]
    cases (show (i == j) = b from Option.some.inj eb)
    exact k _ H w (PureX.refl ff) rfl
  case str.str i j =>
    cases (show x = .str i from h1)
    cases (show y = .str j from h2)
    refine op_ne pins s σ H _ _ v u Q I rx ry ⟨rfl, ?_⟩
    rw [dec_str]
    cases (show (i == j) = b from Option.some.inj eb)
    exact k _ H w (PureX.refl ff) rfl
theorem op_ordD {op : CmpOp} {f : Int → Int → Bool} (rule : OpR X (compareOp op) (rI0 fun i j => .bl (f i j))) : OpR X (compareOp op) (rOf2 X.K fun x y => (match x, y with | .int i, .int j => some (f i j) | _, _ => none).bind ofB) := by
  intro pins s σ H x y v u Q I rx ry ⟨w, d, e, z, ff, h1, h2, hz, k⟩
  cases d <;> cases e <;> first
    | (simp at hz; done)
    | skip
  case int.int i j =>
    cases hz
    exact rule pins s σ H x y v u Q I rx ry ⟨i, j, h1, h2, k _ H w (PureX.refl ff) rfl⟩
theorem op_isDD : OpR X (compareOp .Is) (rOf2 X.K fun x y => (isD x y).bind ofB) := by
  intro pins s σ H x y v u Q I rx ry ⟨w, d, e, z, ff, h1, h2, hz, k⟩
  obtain ⟨b, eb, ez⟩ := Option.bind_eq_some_iff.mp hz
  cases ez
  cases e <;> first
    | (simp [isD] at eb; done)
    | skip
  case non =>
    cases (show y = .non from h2)
    have e3 : decide (x = .non) = b := by
      cases d <;> simp [isD] at eb <;> subst eb
      case non => cases (show x = .non from h1); rfl
      case bl i => cases (show x = .bl i from h1); rfl
      case int i => cases (show x = .int i from h1); rfl
      case str i => cases (show x = .str i from h1); rfl
      case tup => obtain ⟨p, _, rfl, _⟩ := h1; rfl
      case lst => obtain ⟨p, _, rfl, _⟩ := h1; rfl
      case dct => obtain ⟨p, _, rfl, _⟩ := h1; rfl
      case scr => obtain ⟨p, _, rfl, _⟩ := h1; rfl
      case obj => obtain ⟨p, _, rfl⟩ := h1; rfl
      case fn => exact h1.elim
      case exc => exact h1.elim
    refine op_isN pins s σ H x _ v u Q I rx ry ⟨rfl, ?_⟩
    rw [e3]
    exact k _ H w (PureX.refl ff) rfl
  case bl c =>
    cases d <;> first
      | (simp [isD] at eb; done)
      | skip
    case bl i =>
      simp [isD] at eb
      subst eb
      refine op_is_bl pins s σ H x y v u Q I rx ry ⟨i, c, h1, h2, ?_⟩
      rw [show decide (i = c) = (i == c) from (Bool.beq_eq_decide_eq i c).symm]
      exact k _ H w (PureX.refl ff) rfl
theorem op_nisDD : OpR X (compareOp .IsNot) (rOf2 X.K fun x y => ((isD x y).map (!·)).bind ofB) := by
  intro pins s σ H x y v u Q I rx ry ⟨w, d, e, z, ff, h1, h2, hz, k⟩
  obtain ⟨b', eb', ez⟩ := Option.bind_eq_some_iff.mp hz
  cases ez
  obtain ⟨b, eb, e4⟩ := Option.map_eq_some_iff.mp eb'
  subst e4
  cases e <;> first
    | (simp [isD] at eb; done)
    | skip
  case non =>
    cases (show y = .non from h2)
    have e3 : decide (x = .non) = b := by
      cases d <;> simp [isD] at eb <;> subst eb
      case non => cases (show x = .non from h1); rfl
      case bl i => cases (show x = .bl i from h1); rfl
      case int i => cases (show x = .int i from h1); rfl
      case str i => cases (show x = .str i from h1); rfl
      case tup => obtain ⟨p, _, rfl, _⟩ := h1; rfl
      case lst => obtain ⟨p, _, rfl, _⟩ := h1; rfl
      case dct => obtain ⟨p, _, rfl, _⟩ := h1; rfl
      case scr => obtain ⟨p, _, rfl, _⟩ := h1; rfl
      case obj => obtain ⟨p, _, rfl⟩ := h1; rfl
      case fn => exact h1.elim
      case exc => exact h1.elim
    refine op_notN pins s σ H x _ v u Q I rx ry ⟨rfl, ?_⟩
    rw [e3]
    exact k _ H w (PureX.refl ff) rfl
  case bl c =>
    cases d <;> first
      | (simp [isD] at eb; done)
      | skip
    case bl i =>
      simp [isD] at eb
      subst eb
      refine op_isnot_bl pins s σ H x y v u Q I rx ry ⟨i, c, h1, h2, ?_⟩
      rw [show decide (i = c) = (i == c) from (Bool.beq_eq_decide_eq i c).symm]
      exact k _ H w (PureX.refl ff) rfl
theorem op_memDD (hu : X.A.units + 65 < cLine) : OpR X (compareOp .In) (rOf2 X.K fun x y => (memD x y).bind ofB) := by
  intro pins s σ H x y v u Q I rx ry ⟨w, d, e, z, ff, h1, h2, hz, k⟩
  obtain ⟨b, eb, ez⟩ := Option.bind_eq_some_iff.mp hz
  cases ez
  cases e <;> first
    | (simp [memD] at eb; done)
    | skip
  case lst ds =>
    simp only [memD] at eb
    split at eb
    · rename_i hp
      obtain ⟨q1, q2⟩ := Bool.and_eq_true_iff.mp hp
      have q3 : (D.lst ds).plain 51 = true := by simpa [D.plain] using q2
      cases eb
      refine op_inD hu pins s σ H x y v u Q I rx ry ⟨d.py, D.pys ds, RdD.dp ff q1 h1, RdD.dp ff q3 h2, plain_shaped q1 (by decide), plain_shaped q3 (by decide), ?_⟩
      rw [pys_any]
      exact k _ H w (PureX.refl ff) rfl
    · cases eb
  case tup ds =>
    simp only [memD] at eb
    split at eb
    · rename_i hp
      obtain ⟨q1, q2⟩ := Bool.and_eq_true_iff.mp hp
      have q3 : (D.tup ds).plain 51 = true := by simpa [D.plain] using q2
      cases eb
      obtain ⟨as, r1⟩ := Dp.reads I d.py x v (RdD.dp ff q1 h1) rx
      obtain ⟨bs, r2⟩ := Dp.reads I (.tuple (D.pys ds)) y u (RdD.dp ff q3 h2) ry
      refine SeqAt.in_tuple_reads r2 r1 (plains_lay ds 50 q2).1 (plain_lay d 50 q1).1 ?_ ⟨.bl _, H, I, rfl, k _ H w (PureX.refl ff) (by rw [pys_any]; rfl)⟩
      have := (plain_lay d 50 q1).2
      have m := Nat.min_le_right (PyData.depthAll (D.pys ds)) d.py.depth
      omega
    · cases eb
  case dct ks ds =>
    obtain ⟨a, kvs, rfl, hd, ek, rr⟩ := h2
    cases ry
    have fin : ∀ kk : Key, x = kV kk → b = hasK ks kk → wpAny (model X.prog X.w) X.A (compareOp .In v (.ref a)) (EP X pins σ Q) X.xe s := fun kk ex e2 => by
      refine d_in (by omega) I (o := valV kvs kk) (.inl ⟨kvs, kk, hd, ex, rfl⟩) rx fun s3 I3 => ⟨.bl _, H, I3, rfl, ?_⟩
      rw [← valV_any, any_contains, ek, ← e2]
      exact k _ H w (PureX.refl ff) rfl
    cases d <;> simp [memD] at eb
    case int i => exact fin (.inl i) h1 eb.symm
    case str i => exact fin (.inr i) h1 eb.symm
theorem op_nmemDD (hu : X.A.units + 65 < cLine) : OpR X (compareOp .NotIn) (rOf2 X.K fun x y => ((memD x y).map (!·)).bind ofB) := by
  intro pins s σ H x y v u Q I rx ry ⟨w, d, e, z, ff, h1, h2, hz, k⟩
  obtain ⟨b', eb', ez⟩ := Option.bind_eq_some_iff.mp hz
  cases ez
  obtain ⟨b, eb, e4⟩ := Option.map_eq_some_iff.mp eb'
  subst e4
  cases e <;> first
    | (simp [memD] at eb; done)
    | skip
  case lst ds =>
    simp only [memD] at eb
    split at eb
    · rename_i hp
      obtain ⟨q1, q2⟩ := Bool.and_eq_true_iff.mp hp
      have q3 : (D.lst ds).plain 51 = true := by simpa [D.plain] using q2
      cases eb
      refine op_notInD hu pins s σ H x y v u Q I rx ry ⟨d.py, D.pys ds, RdD.dp ff q1 h1, RdD.dp ff q3 h2, plain_shaped q1 (by decide), plain_shaped q3 (by decide), ?_⟩
      rw [pys_any]
      exact k _ H w (PureX.refl ff) rfl
    · cases eb
  case tup ds =>
    simp only [memD] at eb
    split at eb
    · rename_i hp
      obtain ⟨q1, q2⟩ := Bool.and_eq_true_iff.mp hp
      have q3 : (D.tup ds).plain 51 = true := by simpa [D.plain] using q2
      cases eb
      obtain ⟨as, r1⟩ := Dp.reads I d.py x v (RdD.dp ff q1 h1) rx
      obtain ⟨bs, r2⟩ := Dp.reads I (.tuple (D.pys ds)) y u (RdD.dp ff q3 h2) ry
      refine SeqAt.notIn_tuple_reads r2 r1 (plains_lay ds 50 q2).1 (plain_lay d 50 q1).1 ?_ ⟨.bl _, H, I, rfl, k _ H w (PureX.refl ff) (by rw [pys_any]; rfl)⟩
      have := (plain_lay d 50 q1).2
      have m := Nat.min_le_right (PyData.depthAll (D.pys ds)) d.py.depth
      omega
    · cases eb
  case dct ks ds =>
    obtain ⟨a, kvs, rfl, hd, ek, rr⟩ := h2
    cases ry
    have fin : ∀ kk : Key, x = kV kk → b = hasK ks kk → wpAny (model X.prog X.w) X.A (compareOp .NotIn v (.ref a)) (EP X pins σ Q) X.xe s := fun kk ex e2 => by
      refine d_notIn (by omega) I (o := valV kvs kk) (.inl ⟨kvs, kk, hd, ex, rfl⟩) rx fun s3 I3 => ⟨.bl _, H, I3, rfl, ?_⟩
      rw [← valV_any, any_contains, ek, ← e2]
      exact k _ H w (PureX.refl ff) rfl
    cases d <;> simp [memD] at eb
    case int i => exact fin (.inl i) h1 eb.symm
    case str i => exact fin (.inr i) h1 eb.symm
def Cm.op : Cm → CmpOp
  | .lt => .Lt | .le => .LtE | .gt => .Gt | .ge => .GtE | .eq => .Eq | .ne => .NotEq | .mem => .In | .nmem => .NotIn | .is => .Is | .nis => .IsNot
theorem op_cmpD (hu : X.A.units + 65 < cLine) : ∀ c : Cm, OpR X (compareOp c.op) (rOf2 X.K fun x y => (cmpD c x y).bind ofB)
  | .lt => op_ordD op_lt | .le => op_ordD op_le | .gt => op_ordD op_gt | .ge => op_ordD op_ge
  | .eq => op_eqDD (by omega) | .ne => op_neDD (by omega) | .mem => op_memDD hu | .nmem => op_nmemDD hu | .is => op_isDD | .nis => op_nisDD
/-! ### places -/
theorem ix_allD (hu : X.A.units + 1 < cLine) : IxR X (rOf2 X.K fun x y => (idxD x y).map .val) := by
  intro value slice pins s σ H x y v u Q I rx ry ⟨w, d, e, z, ff, h1, h2, hz, k⟩ hs
  obtain ⟨b, eb, e4⟩ := Option.map_eq_some_iff.mp hz
  subst e4
  have fin : Rep X.K w b = Rep X.K w b := rfl
  cases d <;> first
    | (simp [idxD] at eb; done)
    | skip
  case lst ds =>
    cases e <;> first
      | (simp [idxD] at eb; done)
      | skip
    case int i =>
      obtain ⟨p, vs, rfl, a1, a2⟩ := h1
      simp only [idxD] at eb
      obtain ⟨n, en, e5⟩ := Option.bind_eq_some_iff.mp eb
      obtain ⟨v', ev, rv⟩ := a2.get e5
      refine ix_list value slice pins s σ H _ y v u Q I rx ry ⟨p, vs, i, v', rfl, h2, SqL.of a1, ?_, k _ H w (PureX.refl ff) rv⟩ hs
      unfold atI
      rw [a2.length, en]
      exact ev
  case tup ds =>
    cases e <;> first
      | (simp [idxD] at eb; done)
      | skip
    case int i =>
      obtain ⟨p, vs, rfl, a1, a2⟩ := h1
      simp only [idxD] at eb
      obtain ⟨n, en, e5⟩ := Option.bind_eq_some_iff.mp eb
      obtain ⟨v', ev, rv⟩ := a2.get e5
      refine ix_tup value slice pins s σ H _ y v u Q I rx ry ⟨p, vs, i, v', rfl, h2, same_tup ff a1, ?_, k _ H w (PureX.refl ff) rv⟩ hs
      unfold atI
      rw [a2.length, en]
      exact ev
  case dct ks ds =>
    obtain ⟨a, kvs, rfl, hd, ek, rr⟩ := h1
    cases rx
    obtain ⟨kk, e1, e2⟩ : ∃ kk, keyD e = some kk ∧ getK ks ds kk = some b := Option.bind_eq_some_iff.mp (by cases e <;> exact eb)
    obtain ⟨v', ev, rv⟩ := (getK_ok (k := kk) ek rr).1 b e2
    have g : DGet H a y (some v') := .inl ⟨kvs, kk, hd, keyD_ok e1 h2, ev.symm⟩
    exact PyProof.Rows.tail_any (dict_typeIs I g) PySem.F.slot_dict_getitem.lookup (d_getItem hu I g ry fun w' s3 I3 rw' => ⟨v', H, I3, rw', k _ H w (PureX.refl ff) rv⟩) hs
end
end Vi

namespace Vi
open PySem PySem.Spec L2
/-! ### built-ins -/
section
variable {X : Cx} {K : PySem.W.Frag} {w : Wd} {H : Hp}
theorem RdDs.nil_of {ds : List D} (h : RdDs K w H ds []) : ds = [] := by
  match ds, h with
  | [], _ => rfl
  | d :: t, ⟨_, _, q, _⟩ => cases q
theorem RdDs.cons_of {ds : List D} {x : V} {xs : List V} (h : RdDs K w H ds (x :: xs)) : ∃ d t, ds = d :: t ∧ RdD K w H d x ∧ RdDs K w H t xs := by
  match ds, h with
  | d :: t, ⟨_, _, q, h1, h2⟩ => cases q; exact ⟨d, t, rfl, h1, h2⟩
  | [], h => cases h
theorem RdDs.to1 {d : D} {vs : List V} (h : RdDs K w H [d] vs) : ∃ x, vs = [x] ∧ RdD K w H d x := by
  obtain ⟨x, xs, rfl, h1, h2⟩ := h
  cases (show xs = [] from h2)
  exact ⟨x, rfl, h1⟩
theorem RdDs.to2 {d e : D} {vs : List V} (h : RdDs K w H [d, e] vs) : ∃ x y, vs = [x, y] ∧ RdD K w H d x ∧ RdD K w H e y := by
  obtain ⟨x, xs, rfl, h1, h2⟩ := h
  obtain ⟨y, rfl, h3⟩ := RdDs.to1 h2
  exact ⟨x, y, rfl, h1, h3⟩
theorem ints_ok : ∀ {ds : List D} {vs : List V} {ns : List Int}, Reps K w ds vs → ints? ds = some ns → vs = ns.map V.int ∧ ds = ns.map D.int
  | [], _, ns, h, e => by
    cases (show _ = [] from h)
    cases e
    exact ⟨rfl, rfl⟩
  | d :: ds, _, ns, h, e => by
    obtain ⟨x, xs, rfl, h1, h2⟩ := h
    cases d <;> simp [ints?] at e
    case int i =>
      obtain ⟨ms, e1, rfl⟩ := e
      obtain ⟨a, b⟩ := ints_ok h2 e1
      cases (show x = .int i from h1)
      exact ⟨by simp [a], by simp [b]⟩
theorem bools_ok : ∀ {ds : List D} {vs : List V} {ns : List Bool}, Reps K w ds vs → bools? ds = some ns → vs = ns.map V.bl
  | [], _, ns, h, e => by
    cases (show _ = [] from h)
    cases e
    rfl
  | d :: ds, _, ns, h, e => by
    obtain ⟨x, xs, rfl, h1, h2⟩ := h
    cases d <;> simp [bools?] at e
    case bl i =>
      obtain ⟨ms, e1, rfl⟩ := e
      have a := bools_ok h2 e1
      cases (show x = .bl i from h1)
      simp [a]
theorem reps_ints : ∀ ns : List Int, Reps K w (ns.map D.int) (ns.map V.int)
  | [] => rfl
  | n :: ns => ⟨_, _, rfl, rfl, reps_ints ns⟩
/-- what a built-in is: a function, a class -/
def Bi.val : Bi → Value
  | .len => .builtin "len" | .abs => .builtin "abs" | .min => .builtin "min" | .max => .builtin "max" | .sorted => .builtin "sorted" | .sum => .builtin "sum" | .any => .builtin "any" | .all => .builtin "all"
  | .int => .type "int" | .str => .type "str" | .list => .type "list" | .tuple => .type "tuple"
def Bi.name : Bi → Str
  | .len => "len" | .abs => "abs" | .min => "min" | .max => "max" | .sorted => "sorted" | .sum => "sum" | .any => "any" | .all => "all"
  | .int => "int" | .str => "str" | .list => "list" | .tuple => "tuple"
theorem sorted_eq {ns ns' : List Int} (p : ns'.Perm ns) (h : ns'.Pairwise (· ≤ ·)) : ns' = ns.mergeSort (fun a b => decide (a ≤ b)) := by
  have h2 : (ns.mergeSort (fun a b => decide (a ≤ b))).Pairwise (fun a b => decide (a ≤ b) = true) := List.pairwise_mergeSort (fun a b c h1 h2 => by simp at *; omega) (fun a b => by simp; omega) ns
  have p2 : (ns.mergeSort (fun a b => decide (a ≤ b))).Perm ns := List.mergeSort_perm ns _
  exact (p.trans p2.symm).eq_of_pairwise (le := fun a b : Int => a ≤ b) (fun a b _ _ h1 h2 => Int.le_antisymm h1 h2) h (h2.imp fun h => of_decide_eq_true h)
/-! ### sorted -/
theorem leL_trans : ∀ a b c : List Int, leL a b = true → leL b c = true → leL a c = true
  | [], _, _, _, _ => by cases ‹List Int› <;> rfl
  | _ :: _, [], _, h, _ => by cases h
  | _ :: _, _ :: _, [], _, h => by cases h
  | x :: xs, y :: ys, z :: zs, h1, h2 => by
    unfold leL at h1 h2 ⊢
    split at h1
    · split at h2
      · rw [if_pos (by omega)]
      · split at h2
        · rw [if_pos (by omega)]
        · cases h2
    · split at h1
      · split at h2
        · rw [if_pos (by omega)]
        · split at h2
          · rw [if_neg (by omega), if_pos (by omega)]
            exact leL_trans xs ys zs h1 h2
          · cases h2
      · cases h1
theorem leL_total : ∀ a b : List Int, (leL a b || leL b a) = true
  | [], b => by cases b <;> rfl
  | _ :: _, [] => rfl
  | x :: xs, y :: ys => by
    unfold leL
    by_cases h : x < y
    · rw [if_pos h]; rfl
    · by_cases h2 : x = y
      · subst h2
        simp only [Int.lt_irrefl, if_false, if_true]
        exact leL_total xs ys
      · rw [if_neg h, if_neg h2, if_pos (by omega)]; rfl
theorem leL_anti : ∀ a b : List Int, leL a b = true → leL b a = true → a = b
  | [], [], _, _ => rfl
  | [], _ :: _, _, h => by cases h
  | _ :: _, [], h, _ => by cases h
  | x :: xs, y :: ys, h1, h2 => by
    unfold leL at h1 h2
    split at h1
    · rw [if_neg (by omega), if_neg (by omega)] at h2; cases h2
    · split at h1
      · rename_i e
        subst e
        rw [if_neg (by omega), if_pos rfl] at h2
        rw [leL_anti xs ys h1 h2]
      · cases h1
theorem sortL_eq {ls ls' : List (List Int)} (p : ls'.Perm ls) (h : ls'.Pairwise (fun a b => leL a b = true)) : ls' = sortL ls := by
  have h2 := List.pairwise_mergeSort (le := leL) leL_trans leL_total ls
  have p2 : (ls.mergeSort leL).Perm ls := List.mergeSort_perm ls _
  exact (p.trans p2.symm).eq_of_pairwise (le := fun a b => leL a b = true) (fun a b _ _ h1 h2 => leL_anti a b h1 h2) h h2
theorem code_le {B : Int} : ∀ {n m : List Int}, n.length = m.length → TS.Bd B n → TS.Bd B m → TS.code B n ≤ TS.code B m → leL n m = true
  | [], _, _, _, _, _ => by cases ‹List Int› <;> rfl
  | _ :: _, [], h, _, _, _ => by cases h
  | x :: xs, y :: ys, hl, hx, hy, h => by
    have hq : xs.length = ys.length := by simpa using hl
    have bnd : ∀ zs : List Int, TS.Bd B zs → 0 ≤ TS.code B zs ∧ TS.code B zs < B ^ zs.length := by
      intro zs
      induction zs with
      | nil => intro _; exact ⟨Int.le_refl _, by show (0 : Int) < B ^ 0; rw [Int.pow_zero]; decide⟩
      | cons d r ih =>
        intro hb
        obtain ⟨c0, c1⟩ := ih hb.tail
        have := TS.num1 c0 c1 hb.head.1 hb.head.2
        show 0 ≤ d * B ^ r.length + TS.code B r ∧ d * B ^ r.length + TS.code B r < B ^ (r.length + 1)
        rw [Int.pow_succ]
        exact this
    obtain ⟨c0, c1⟩ := bnd xs hx.tail
    obtain ⟨e0, e1⟩ := bnd ys hy.tail
    have h : x * B ^ xs.length + TS.code B xs ≤ y * B ^ ys.length + TS.code B ys := h
    rw [← hq] at h e1
    generalize hP : B ^ xs.length = P at *
    unfold leL
    by_cases hxy : x < y
    · rw [if_pos hxy]
    · by_cases hxe : x = y
      · subst hxe
        rw [if_neg hxy, if_pos rfl]
        exact code_le hq hx.tail hy.tail (by omega)
      · exfalso
        have h1 : (y + 1) * P ≤ x * P := Int.mul_le_mul_of_nonneg_right (by omega) (by omega)
        rw [Int.add_mul, Int.one_mul] at h1
        omega
def topI : List Int → Int
  | [] => 1
  | k :: ks => if topI ks ≤ k then k + 1 else topI ks
theorem topI_lt : ∀ {l : List Int} {i : Int}, i ∈ l → i < topI l
  | k :: ks, i, h => by
    unfold topI
    rcases List.mem_cons.mp h with rfl | h
    · split <;> omega
    · have := topI_lt h
      split <;> omega
theorem ints_map' : ∀ l : List Int, ints? (l.map .int) = some l
  | [] => rfl
  | i :: l => by show (ints? (l.map .int)).map _ = _; rw [ints_map' l]; rfl
theorem tupsI_eq : ∀ {ds : List D} {ls : List (List Int)}, tupsI? ds = some ls → ds = ls.map tupI
  | [], _, h => by cases h; rfl
  | d :: ds, ls, h => by
    unfold tupsI? at h
    cases e : tints? d with
    | none => simp [e] at h
    | some l =>
      cases e2 : tupsI? ds with
      | none => simp [e, e2] at h
      | some r =>
        simp [e, e2] at h
        subst h
        rw [List.map_cons, ← tupsI_eq e2]
        cases d <;> first
          | (cases e; done)
          | skip
        rename_i ds'
        have e : ints? ds' = some l := e
        congr 1
        have : ∀ {xs : List D} {ns : List Int}, ints? xs = some ns → xs = ns.map .int := by
          intro xs
          induction xs with
          | nil => intro ns h; cases h; rfl
          | cons x xs ih =>
            intro ns h
            cases x <;> simp [ints?] at h
            obtain ⟨ms, q1, rfl⟩ := h
            rw [List.map_cons, ← ih q1]
        unfold tupI
        rw [this e]
theorem Rep.tupI {l : List Int} {v : V} (h : Rep K w (Vi.tupI l) v) : L2.TupI K w.F v l := by
  obtain ⟨p, vs, rfl, h1, h2⟩ := h
  obtain ⟨e, _⟩ := ints_ok h2 (ints_map' l)
  subst e
  exact ⟨p, rfl, h1⟩
theorem reps_perm : ∀ {xs ys : List V}, ys.Perm xs → ∀ {ls : List (List Int)}, Reps K w (ls.map Vi.tupI) xs → ∃ ls' : List (List Int), ls'.Perm ls ∧ Reps K w (ls'.map Vi.tupI) ys := by
  intro xs ys p
  induction p with
  | nil => intro ls h; exact ⟨ls, .refl _, h⟩
  | cons x p ih =>
    intro ls h
    cases ls with
    | nil => cases h
    | cons l ls =>
      obtain ⟨_, _, e, h1, h2⟩ := h
      cases e
      obtain ⟨ls', p', h'⟩ := ih h2
      exact ⟨l :: ls', p'.cons l, _, _, rfl, h1, h'⟩
  | swap x y l =>
    intro ls h
    match ls, h with
    | a :: b :: ls, ⟨_, _, e, h1, _, _, e2, h2, h3⟩ =>
      cases e
      cases e2
      exact ⟨b :: a :: ls, .swap _ _ _, _, _, rfl, h2, _, _, rfl, h1, h3⟩
    | [a], ⟨_, _, e, _, h2⟩ =>
      cases e
      cases h2
    | [], h => cases h
  | trans p q ihp ihq =>
    intro ls h
    obtain ⟨l1, p1, h1⟩ := ihq h
    obtain ⟨l2, p2, h2⟩ := ihp h1
    exact ⟨l2, p2.trans p1, h2⟩
theorem reps_pair {B : Int} {n : Nat} (ff : Same w.F H) : ∀ {ls : List (List Int)} {ys : List V}, (∀ l ∈ ls, l.length = n ∧ TS.Bd B l) → Reps K w (ls.map Vi.tupI) ys → ys.Pairwise (fun x y => ∀ n m, L2.TupI K H x n → L2.TupI K H y m → TS.code B n ≤ TS.code B m) → ls.Pairwise (fun a b => leL a b = true)
  | [], _, _, _, _ => .nil
  | l :: ls, _, hb, h, hp => by
    obtain ⟨x, xs, rfl, h1, h2⟩ := h
    have up : ∀ {l : List Int} {v : V}, Rep K w (Vi.tupI l) v → L2.TupI K H v l := fun h => by
      obtain ⟨t, e, q⟩ := Rep.tupI h
      exact ⟨t, e, same_tup ff q⟩
    obtain ⟨p1, p2⟩ := List.pairwise_cons.mp hp
    refine List.pairwise_cons.mpr ⟨fun m hm => ?_, reps_pair ff (fun l hl => hb l (List.mem_cons_of_mem _ hl)) h2 p2⟩
    obtain ⟨i, hi, e⟩ := List.getElem_of_mem hm
    obtain ⟨v, e1, e2⟩ := h2.get (i := i) (d := Vi.tupI m) (by rw [List.getElem?_map, List.getElem?_eq_getElem hi, e]; rfl)
    obtain ⟨b1, b2⟩ := hb l List.mem_cons_self
    obtain ⟨b3, b4⟩ := hb m (List.mem_cons_of_mem _ hm)
    exact code_le (by rw [b1, b3]) b2 b4 (p1 v (List.mem_of_getElem? e1) l m (up h1) (up e2))
theorem call_sortT {X : Cx} (pins : List (Addr × Obj)) (s : Shared) (σ : Sg) {w : Wd} {H : Hp} (us : List Value) (Q : VK) {p : Addr} {vs : List V} {ls : List (List Int)} {z : Rv} (I : Inv X pins σ H s) (rv : Vals [V.ref p] us) (ff : Same w.F H) (a1 : H p = some (.lst vs)) (a2 : Reps X.K w (ls.map Vi.tupI) vs) (hz : sortTs ls = some z)
    (k : ∀ v H' w', PureX w H w' H' → NewRv X.K w' H H' z v → Q v H') : wpAny (model X.prog X.w) X.A (call (.builtin "sorted") us) (EP X pins σ Q) X.xe s := by
  cases ls with
  | nil =>
    cases hz
    have e : vs = [] := a2
    subst e
    refine cr_sortedI pins s σ H _ us Q I rv ⟨p, [], rfl, SqL.of a1, fun ns' q pm pw hq => ?_⟩
    have e : ns' = [] := List.Perm.eq_nil pm
    subst e
    exact k _ _ _ (PureX.newOwn ff hq) (newL hq ff a2)
  | cons l r =>
    simp only [sortTs] at hz
    split at hz
    · rename_i hc
      cases hz
      simp only [Bool.and_eq_true, decide_eq_true_eq, List.all_eq_true] at hc
      obtain ⟨⟨c1, c2⟩, c3⟩ := hc
      have hb : ∀ m ∈ l :: r, m.length = l.length ∧ TS.Bd (topI ((l :: r).flatten)) m := fun m hm => ⟨(c3 m hm).1, fun i hi => ⟨(c3 m hm).2 i hi, topI_lt (List.mem_flatten.mpr ⟨m, hm, hi⟩)⟩⟩
      have hl : vs.length = (l :: r).length := by rw [a2.length, List.length_map]
      refine cr_sortT (d := l.length) (B := topI ((l :: r).flatten)) c1 pins s σ H _ us Q I rv ⟨p, vs, rfl, SqL.of a1, by rw [hl, List.length_cons]; omega, fun x hx => ?_, fun ys q pm pw hq => ?_⟩
      · obtain ⟨i, hi, e⟩ := List.getElem_of_mem hx
        have hi2 : i < (l :: r).length := by rw [← hl]; exact hi
        obtain ⟨v, e1, e2⟩ := a2.get (i := i) (d := Vi.tupI (l :: r)[i]) (by rw [List.getElem?_map, List.getElem?_eq_getElem hi2]; rfl)
        rw [List.getElem?_eq_getElem hi, e] at e1
        cases e1
        obtain ⟨t, e3, e4⟩ := Rep.tupI e2
        exact ⟨_, ⟨t, e3, same_tup ff e4⟩, hb _ (List.getElem_mem hi2)⟩
      · obtain ⟨ls', p', h'⟩ := reps_perm pm a2
        have e := sortL_eq p' (reps_pair ff (fun m hm => hb m (p'.mem_iff.mp hm)) h' pw)
        subst e
        exact k _ _ _ (PureX.newOwn ff hq) (newL hq ff h')
    · cases hz
theorem keyInts_ok : ∀ {ks : List Key} {ns : List Int}, keyInts? ks = some ns → ks = ns.map Sum.inl
  | [], _, h => by cases h; rfl
  | .inl i :: ks, ns, h => by
    obtain ⟨ms, e, rfl⟩ := Option.map_eq_some_iff.mp (show (keyInts? ks).map (i :: ·) = some ns from h)
    rw [List.map_cons, ← keyInts_ok e]
  | .inr _ :: ks, _, h => by cases h
theorem call_biD (hc : X.calm = true) (b : Bi) : CallR X b.val (rOf X.K (biD b)) := by
  intro pins s σ H vs us Q I rv ⟨w, ds, z, ff, h1, hz, k⟩
  cases b with
  | len =>
    match ds, hz with
    | [.lst ds], hz =>
      cases hz
      obtain ⟨x, rfl, p, vs, rfl, a1, a2⟩ := RdDs.to1 h1
      exact call_len pins s σ H _ us Q I rv ⟨_, _, rfl, .inl ⟨vs, SqL.of a1, rfl⟩, by rw [a2.length]; exact k _ H w (PureX.refl ff) rfl⟩
    | [.tup ds], hz =>
      cases hz
      obtain ⟨x, rfl, p, vs, rfl, a1, a2⟩ := RdDs.to1 h1
      exact call_len pins s σ H _ us Q I rv ⟨_, vs.length, rfl, .inr ⟨vs, same_tup ff a1, rfl⟩, by rw [a2.length]; exact k _ H w (PureX.refl ff) rfl⟩
    | [.dct ks ds], hz =>
      cases hz
      obtain ⟨x, rfl, p, kvs, rfl, a1, a2, a3⟩ := RdDs.to1 h1
      cases rv with
      | cons r1 r2 =>
        cases r1
        cases r2
        refine d_len I a1 fun t s' I' => ⟨.int kvs.length, H, I', ⟨t, rfl⟩, ?_⟩
        have e : ks.length = kvs.length := by rw [← a2, List.length_map]
        rw [← e]
        exact k _ H w (PureX.refl ff) rfl
    | [.str st], hz =>
      simp only [biD] at hz
      split at hz
      · rename_i hl
        cases hz
        obtain ⟨x, rfl, a1⟩ := RdDs.to1 h1
        cases (show x = .str st from a1)
        exact call_len pins s σ H _ us Q I rv ⟨_, _, rfl, ⟨hl, rfl⟩, k _ H w (PureX.refl ff) rfl⟩
      · cases hz
  | abs =>
    match ds, hz with
    | [.int i], hz =>
      cases hz
      obtain ⟨x, rfl, a1⟩ := RdDs.to1 h1
      cases (show x = .int i from a1)
      exact call_abs pins s σ H _ us Q I rv ⟨i, rfl, k _ H w (PureX.refl ff) rfl⟩
  | min =>
    match ds, hz with
    | [.int i, .int j], hz =>
      cases hz
      obtain ⟨x, y, rfl, a1, a2⟩ := RdDs.to2 h1
      cases (show x = .int i from a1)
      cases (show y = .int j from a2)
      exact call_min2 hc pins s σ H _ us Q I rv ⟨i, j, rfl, k _ H w (PureX.refl ff) rfl⟩
    | [.int i, .int j, .int l], hz =>
      cases hz
      obtain ⟨x, _, rfl, a1, y, _, rfl, a2, z, _, rfl, a3, a4⟩ := h1
      cases a4
      cases (show x = .int i from a1)
      cases (show y = .int j from a2)
      cases (show z = .int l from a3)
      cases rv with
      | cons r1 rv =>
        cases rv with
        | cons r2 rv =>
          cases rv with
          | cons r3 rv =>
            cases rv
            obtain ⟨t1, rfl⟩ := r1
            obtain ⟨t2, rfl⟩ := r2
            obtain ⟨t3, rfl⟩ := r3
            refine PySem.min_three_ints (I.ok.hd hc) fun h' tk hk => ⟨.int _, H, I.kept (h' := h') (t' := tk) hk, ?_, k _ H w (PureX.refl ff) rfl⟩
            split <;> split <;> exact ⟨_, rfl⟩
  | max =>
    match ds, hz with
    | [.int i, .int j], hz =>
      cases hz
      obtain ⟨x, y, rfl, a1, a2⟩ := RdDs.to2 h1
      cases (show x = .int i from a1)
      cases (show y = .int j from a2)
      exact call_max2 hc pins s σ H _ us Q I rv ⟨i, j, rfl, k _ H w (PureX.refl ff) rfl⟩
    | [.int i, .int j, .int l], hz =>
      cases hz
      obtain ⟨x, _, rfl, a1, y, _, rfl, a2, z, _, rfl, a3, a4⟩ := h1
      cases a4
      cases (show x = .int i from a1)
      cases (show y = .int j from a2)
      cases (show z = .int l from a3)
      cases rv with
      | cons r1 rv =>
        cases rv with
        | cons r2 rv =>
          cases rv with
          | cons r3 rv =>
            cases rv
            obtain ⟨t1, rfl⟩ := r1
            obtain ⟨t2, rfl⟩ := r2
            obtain ⟨t3, rfl⟩ := r3
            refine PySem.max_three_ints (I.ok.hd hc) fun h' tk hk => ⟨.int _, H, I.kept (h' := h') (t' := tk) hk, ?_, k _ H w (PureX.refl ff) rfl⟩
            split <;> split <;> exact ⟨_, rfl⟩
  | int =>
    match ds, hz with
    | [.int i], hz =>
      cases hz
      obtain ⟨x, rfl, a1⟩ := RdDs.to1 h1
      cases (show x = .int i from a1)
      exact call_int1 pins s σ H _ us Q I rv (.inl ⟨i, rfl, k _ H w (PureX.refl ff) rfl⟩)
    | [.bl i], hz =>
      cases hz
      obtain ⟨x, rfl, a1⟩ := RdDs.to1 h1
      cases (show x = .bl i from a1)
      exact call_int1 pins s σ H _ us Q I rv (.inr ⟨i, rfl, k _ H w (PureX.refl ff) rfl⟩)
  | str =>
    match ds, hz with
    | [.int i], hz =>
      simp only [biD] at hz
      split at hz
      · rename_i hl
        cases hz
        obtain ⟨x, rfl, a1⟩ := RdDs.to1 h1
        cases (show x = .int i from a1)
        exact call_str_int pins s σ H _ us Q I rv ⟨i, rfl, hl, k _ H w (PureX.refl ff) rfl⟩
      · cases hz
  | list =>
    match ds, hz with
    | [.lst ds], hz =>
      cases hz
      obtain ⟨x, rfl, p, vs, rfl, a1, a2⟩ := RdDs.to1 h1
      exact call_list_of pins s σ H _ us Q I rv ⟨p, vs, rfl, .inl (SqL.of a1), fun l hl => k _ _ _ (PureX.newOwn ff hl) (newL hl ff a2)⟩
    | [.tup ds], hz =>
      cases hz
      obtain ⟨x, rfl, p, vs, rfl, a1, a2⟩ := RdDs.to1 h1
      exact call_list_of pins s σ H _ us Q I rv ⟨p, vs, rfl, .inr (same_tup ff a1), fun l hl => k _ _ _ (PureX.newOwn ff hl) (newL hl ff a2)⟩
  | tuple =>
    match ds, hz with
    | [.lst ds], hz =>
      cases hz
      obtain ⟨x, rfl, p, vs, rfl, a1, a2⟩ := RdDs.to1 h1
      exact call_tuple_of pins s σ H _ us Q I rv ⟨p, vs, rfl, .inl ⟨SqL.of a1, fun l hl => k _ _ _ (PureX.new ff hl) (newT hl ff a2)⟩⟩
    | [.tup ds], hz =>
      cases hz
      obtain ⟨x, rfl, p, vs, rfl, a1, a2⟩ := RdDs.to1 h1
      exact call_tuple_of pins s σ H _ us Q I rv ⟨p, vs, rfl, .inr ⟨same_tup ff a1, k _ H w (PureX.refl ff) ⟨p, vs, rfl, a1, a2⟩⟩⟩
  | sum =>
    match ds, hz with
    | [.lst ds], hz =>
      obtain ⟨ns, e1, e2⟩ := Option.map_eq_some_iff.mp hz
      subst e2
      obtain ⟨x, rfl, p, vs, rfl, a1, a2⟩ := RdDs.to1 h1
      obtain ⟨rfl, _⟩ := ints_ok a2 e1
      exact cr_sum hc pins s σ H _ us Q I rv ⟨p, ns, rfl, SqL.of a1, k _ H w (PureX.refl ff) rfl⟩
  | any =>
    match ds, hz with
    | [.lst ds], hz =>
      obtain ⟨ns, e1, e2⟩ := Option.map_eq_some_iff.mp hz
      subst e2
      obtain ⟨x, rfl, p, vs, rfl, a1, a2⟩ := RdDs.to1 h1
      have e3 := bools_ok a2 e1
      subst e3
      exact cr_any hc pins s σ H _ us Q I rv ⟨p, ns, rfl, SqL.of a1, k _ H w (PureX.refl ff) rfl⟩
  | all =>
    match ds, hz with
    | [.lst ds], hz =>
      obtain ⟨ns, e1, e2⟩ := Option.map_eq_some_iff.mp hz
      subst e2
      obtain ⟨x, rfl, p, vs, rfl, a1, a2⟩ := RdDs.to1 h1
      have e3 := bools_ok a2 e1
      subst e3
      exact cr_all hc pins s σ H _ us Q I rv ⟨p, ns, rfl, SqL.of a1, k _ H w (PureX.refl ff) rfl⟩
  | sorted =>
    match ds, hz with
    | [.lst ds], hz =>
      obtain ⟨x, rfl, p, vs, rfl, a1, a2⟩ := RdDs.to1 h1
      simp only [biD] at hz
      cases e1 : ints? ds with
      | some ns =>
        rw [e1] at hz
        cases hz
        obtain ⟨rfl, _⟩ := ints_ok a2 e1
        refine cr_sortedI pins s σ H _ us Q I rv ⟨p, ns, rfl, SqL.of a1, fun ns' q pm pw hq => ?_⟩
        rw [sorted_eq pm pw]
        exact k _ _ _ (PureX.newOwn ff hq) (newL hq ff (reps_ints _))
      | none =>
        rw [e1] at hz
        obtain ⟨ls, e2, e3⟩ := Option.bind_eq_some_iff.mp hz
        have e4 := tupsI_eq e2
        subst e4
        exact call_sortT pins s σ us Q I rv ff a1 a2 e3 k
    | [.dct ks ds], hz =>
      obtain ⟨x, rfl, p, kvs, rfl, a1, a2, a3⟩ := RdDs.to1 h1
      obtain ⟨ns, e1, e2⟩ := Option.bind_eq_some_iff.mp hz
      split at e2
      · rename_i hl
        cases e2
        have e3 := keyInts_ok e1
        refine call_sortedDI hc pins s σ H _ us Q I rv ⟨p, kvs, ns, rfl, a1, by rw [a2, e3], hl, fun ns' q pm pw hq => ?_⟩
        rw [sorted_eq pm pw]
        exact k _ _ _ (PureX.newOwn ff hq) (newL hq ff (reps_ints _))
      · cases e2
end
/-! ### isinstance -/
def Ty.name : Ty → String
  | .int => "int" | .bool => "bool" | .list => "list" | .tuple => "tuple" | .str => "str" | .dict => "dict"
theorem kit_table (K : PySem.W.Frag) : ∀ (t : Ty), PySem.W.kitOne K (.type "int") (.type t.name) = some (decide (t = .int)) ∧ PySem.W.kitOne K (.type "bool") (.type t.name) = some (decide (t = .int) || decide (t = .bool)) ∧
    PySem.W.kitOne K (.type "list") (.type t.name) = some (decide (t = .list)) ∧ PySem.W.kitOne K (.type "tuple") (.type t.name) = some (decide (t = .tuple)) ∧ PySem.W.kitOne K (.type "str") (.type t.name) = some (decide (t = .str)) ∧
    PySem.W.kitOne K (.type "dict") (.type t.name) = some (decide (t = .dict)) ∧ PySem.W.kitOne K (.type "NoneType") (.type t.name) = some false := by
  intro t
  cases t <;> exact ⟨rfl, rfl, rfl, rfl, rfl, rfl, rfl⟩
end Vi

namespace Vi
open PySem PySem.Spec L2
/-! ### rules of expressions -/
section
variable {X : Cx} {xr : XR} {W : WX} {a b c e : Expr} {es : List Expr} {pos : Pos}
variable {ma mb mc m : List Sl → List C → Res Rv} {oa ob oc : List Sl → List C → Res Od}
abbrev tAO (K : PySem.W.Frag) (xr : XR) (W : WX) (m : List Sl → List C → Res (List Od)) : TA := tG K xr W (repOs K) m
abbrev tAD (K : PySem.W.Frag) (xr : XR) (W : WX) (m : List Sl → List C → Res (List D)) : TA := tG K xr W (repDs K) m
abbrev tTM (K : PySem.W.Frag) (xr : XR) (W : WX) (m : List Sl → List C → Res Bool) : TT := tG K xr W repB m
theorem pa_weak {t t' : TA} (h : PA X es t) (k : ∀ σ H Q, t' σ H Q → t σ H Q) : PA X es t' := ⟨fun pos pins s σ H Q I q => h.run pos pins s σ H Q I (k σ H Q q)⟩
theorem odsMono {K : PySem.W.Frag} {w w' : Wd} {σ : Sg} (e : Ext w w') : ∀ {os : List Od} {vs : List V}, Paired (OdRep K w σ) os vs → Paired (OdRep K w' σ) os vs
  | _, _, .nil => .nil
  | _, _, .cons h t => .cons (OdRep.mono h e) (odsMono e t)
theorem pa_os0 : PA X [] (tAO X.K xr W fun r cs => .ok [] r cs) := pa_weak pa_nil fun σ H Q ⟨g, w, r, cs, R, h⟩ => h w H [] R (Ext.refl _) .nil
theorem pa_os1 {ms : List Sl → List C → Res (List Od)} (ha : PE X e (tOm X.K xr W oa)) (hr : PA X es (tAO X.K xr W ms)) (hs : starEach (e :: es) X.env = (false, eval e X.env) :: starEach es X.env) :
    PA X (e :: es) (tAO X.K xr W fun r cs => (oa r cs).bind fun d r cs => (ms r cs).bind fun ds r cs => .ok (d :: ds) r cs) := by
  refine pa_weak (pa_cons ha hr hs) fun σ H Q ⟨g, w, r, cs, R, hp⟩ => ?_
  refine tG.mono (R.step hp) fun x H1 ⟨w1, r1, cs1, o1, R1, e1, q1, k1⟩ => ?_
  refine tG.mono (R1.step k1) fun y H2 ⟨w2, r2, cs2, o2, R2, e2, q2, k2⟩ => ?_
  exact k2 w2 H2 _ R2 (Ext.refl _) (.cons (OdRep.mono q1 e2) q2)
theorem pa_ds0 : PA X [] (tAD X.K xr W fun r cs => .ok [] r cs) := pa_weak pa_nil fun σ H Q ⟨g, w, r, cs, R, h⟩ => h w H [] R (Ext.refl _) rfl
theorem pa_ds1 {ms : List Sl → List C → Res (List D)} (ha : PE X e (tM X.K xr W ma)) (hr : PA X es (tAD X.K xr W ms)) (hs : starEach (e :: es) X.env = (false, eval e X.env) :: starEach es X.env) :
    PA X (e :: es) (tAD X.K xr W fun r cs => (ma r cs).d.bind fun d r cs => (ms r cs).bind fun ds r cs => .ok (d :: ds) r cs) := by
  refine pa_weak (pa_cons (pe_frz ha) hr hs) fun σ H Q ⟨g, w, r, cs, R, hp⟩ => ?_
  refine tG.mono (R.step (rep := repD X.K) hp) fun x H1 ⟨w1, r1, cs1, o1, R1, e1, q1, k1⟩ => ?_
  refine tG.mono (R1.step k1) fun y H2 ⟨w2, r2, cs2, o2, R2, e2, q2, k2⟩ => ?_
  exact k2 w2 H2 _ R2 (Ext.refl _) ⟨_, _, rfl, Rep.mono e2 _ _ q1, q2⟩
/-- an operand read, then a pure operation of one -/
theorem Rel.rd1 {K : PySem.W.Frag} {g : Fx} {w : Wd} {r : List Sl} {cs : List C} {σ : Sg} {H : Hp} {α : Type} {f : D → Option α} {x : Od} {v : V} {k : α → List Sl → List C → Prop} {e : Ex → List Sl → List C → Prop}
    (R : Rel K g w r cs σ H) (q : OdRep K w σ x v) (h : (liftO ((Vi.rd r x).bind f) r cs).P k e) : ∃ d a, RdD K w H d v ∧ f d = some a ∧ k a r cs := by
  obtain ⟨z, ez, hk⟩ := liftO_P h
  obtain ⟨d, e1, e2⟩ := Option.bind_eq_some_iff.mp ez
  exact ⟨d, z, R.rd q e1, e2, hk⟩
abbrev mCmp (f : D → D → Option Bool) (oa ob : List Sl → List C → Res Od) : List Sl → List C → Res Rv := fun r cs => (oa r cs).bind fun x r cs => (ob r cs).bind fun y r cs => (liftO (rds r [x, y]) r cs).bind fun ds r cs => match ds with
        | [d, e] => (liftO (f d e) r cs).bind fun b r cs => .ok (.val (.bl b)) r cs
        | _ => .no
theorem cmp_im {f : D → D → Option Bool} (σ : Sg) (H : Hp) (Q : VK) (h : tM X.K xr W (mCmp f oa ob) σ H Q) : tOp (rOf2 X.K fun x y => (f x y).bind ofB) (tOm X.K xr W oa) (tOm X.K xr W ob) σ H Q := by
  obtain ⟨g, w, r, cs, R, hp⟩ := h
  refine tG.mono (R.step hp) fun x H1 ⟨w1, r1, cs1, o1, R1, e1, q1, k1⟩ => ?_
  refine tG.mono (R1.step k1) fun y H2 ⟨w2, r2, cs2, o2, R2, e2, q2, k2⟩ => ?_
  obtain ⟨ds, ed, k3⟩ := liftO_P k2.bind
  obtain ⟨d, e, rfl, h1, h2⟩ := RdDs.two (R2.rds (os := [o1, o2]) (vs := [x, y]) (.cons (OdRep.mono q1 e2) (.cons q2 .nil)) ed)
  obtain ⟨bb, eb, k4⟩ := liftO_P k3.bind
  exact ⟨w2, d, e, _, R2.ff, h1, h2, by show (f d e).bind ofB = _; rw [eb]; rfl, fun v H' w' p n => k4 w' H' v (R2.pure p) p.ext (R2.newRv p n)⟩
theorem pe_cmpM {op : CmpOp} {f : D → D → Option Bool} (ho : OpR X (compareOp op) (rOf2 X.K fun x y => (f x y).bind ofB)) (ha : PE X a (tOm X.K xr W oa)) (hb : PE X b (tOm X.K xr W ob)) (hm : behindInMarks op b = false) :
    PE X (.Compare a [op] [b] pos) (tM X.K xr W (mCmp f oa ob)) := pe_weak (pe_cmpR ho ha hb hm) cmp_im
abbrev mCmp2 (f f' : D → D → Option Bool) (ma mb mc : List Sl → List C → Res Rv) : List Sl → List C → Res Rv := fun r cs => (ma r cs).d.bind fun x r cs => (mb r cs).d.bind fun y r cs =>
      (liftO (f x y) r cs).bind fun k r cs => match k with
        | true => (mc r cs).d.bind fun z r cs => (liftO (f' y z) r cs).bind fun k r cs => .ok (.val (.bl k)) r cs
        | false => .ok (.val (.bl false)) r cs
theorem cmp2_im {f f' : D → D → Option Bool} (σ : Sg) (H : Hp) (Q : VK) (h : tM X.K xr W (mCmp2 f f' ma mb mc) σ H Q) : tChain (rOf2 X.K fun x y => (f x y).bind ofB) (rOf2 X.K fun x y => (f' x y).bind ofB) (tDm X.K xr W fun r cs => (ma r cs).d) (tDm X.K xr W fun r cs => (mb r cs).d) (tDm X.K xr W fun r cs => (mc r cs).d) σ H Q := by
  obtain ⟨g, w, r, cs, R, hp⟩ := h
  refine tG.mono (R.step (rep := repD X.K) hp) fun x H1 ⟨w1, r1, cs1, d1, R1, e1, q1, k1⟩ => ?_
  refine tG.mono (R1.step (rep := repD X.K) k1) fun y H2 ⟨w2, r2, cs2, d2, R2, e2, q2, k2⟩ => ?_
  obtain ⟨bb, eb, k3⟩ := liftO_P k2.bind
  refine ⟨w2, d1, d2, .val (.bl bb), R2.ff, RdD.of_rep R2.ff (Rep.mono e2 _ _ q1), RdD.of_rep R2.ff q2, by show (f d1 d2).bind ofB = _; rw [eb]; rfl, fun v H' w' p n => ⟨bb, (show v = .bl bb from n), ?_⟩⟩
  cases bb with
  | false => exact iteF (k3 w' H' _ (R2.pure p) p.ext rfl)
  | true =>
    refine iteT ?_
    have R3 := R2.pure p
    have k3' := k3.mono (k' := Fin X.K (repV X.K) g w' σ Q) (e' := exW X.K xr W g w' σ) (fun _ _ _ y => Fin.mono y p.ext fun _ _ t => t) fun _ _ _ y => exW.mono y p.ext
    refine tG.mono (R3.step (rep := repD X.K) k3') fun z H4 ⟨w4, r4, cs4, d4, R4, e4, q4, k4⟩ => ?_
    obtain ⟨b2, eb2, k5⟩ := liftO_P k4.bind
    exact ⟨w4, d2, d4, _, R4.ff, RdD.of_rep R4.ff (Rep.mono (p.ext.trans e4) _ _ q2), RdD.of_rep R4.ff q4, by show (f' d2 d4).bind ofB = _; rw [eb2]; rfl, fun v H' w' p n => k5 w' H' v (R4.pure p) p.ext (R4.newRv p n)⟩
theorem pe_cmp2M {op op' : CmpOp} {f f' : D → D → Option Bool} (ho : OpR X (compareOp op) (rOf2 X.K fun x y => (f x y).bind ofB)) (ho' : OpR X (compareOp op') (rOf2 X.K fun x y => (f' x y).bind ofB)) (ha : PE X a (tM X.K xr W ma)) (hb : PE X b (tM X.K xr W mb)) (hc : PE X c (tM X.K xr W mc))
    (hm : lastMarks [op, op'] [b, c] = false) :
    PE X (.Compare a [op, op'] [b, c] pos) (tM X.K xr W (mCmp2 f f' ma mb mc)) := pe_weak (pe_chain ho ho' (pe_frz ha) (pe_frz hb) (pe_frz hc) hm) cmp2_im
/-- an expression as a test -/
theorem tTest_of (m : List Sl → List C → Res Rv) : ∀ σ H Q, tTM X.K xr W (fun r cs => boolOf (m r cs)) σ H Q → tTest (tM X.K xr W m) σ H Q := fun σ H Q ⟨g, w, r, cs, R, hp⟩ => by
  unfold boolOf at hp
  refine tG.mono (R.step (rep := repV X.K) hp) fun x H1 ⟨w1, r1, cs1, v, R1, e1, q1, k1⟩ => ?_
  cases v with
  | own c => exact k1.elim
  | val d =>
    cases d <;> first
      | exact k1.elim
      | skip
    case bl bb => exact ⟨bb, q1, k1 w1 H1 bb R1 (Ext.refl _) rfl⟩
theorem pt_cmpM {op : CmpOp} {f : D → D → Option Bool} (ho : OpR X (compareOp op) (rOf2 X.K fun x y => (f x y).bind ofB)) (ha : PE X a (tOm X.K xr W oa)) (hb : PE X b (tOm X.K xr W ob)) (hm : behindInMarks op b = false) :
    PT X (.Compare a [op] [b] pos) (tTM X.K xr W fun r cs => boolOf (mCmp f oa ob r cs)) := pt_weak (pt_cmpR ho ha hb hm) fun σ H Q h => cmp_im σ H _ (tTest_of _ σ H Q h)
theorem pt_cmp2M {op op' : CmpOp} {f f' : D → D → Option Bool} (ho : OpR X (compareOp op) (rOf2 X.K fun x y => (f x y).bind ofB)) (ho' : OpR X (compareOp op') (rOf2 X.K fun x y => (f' x y).bind ofB)) (ha : PE X a (tM X.K xr W ma)) (hb : PE X b (tM X.K xr W mb)) (hc : PE X c (tM X.K xr W mc))
    (hm : lastMarks [op, op'] [b, c] = false) :
    PT X (.Compare a [op, op'] [b, c] pos) (tTM X.K xr W fun r cs => boolOf (mCmp2 f f' ma mb mc r cs)) := pt_weak (pt_chain ho ho' (pe_frz ha) (pe_frz hb) (pe_frz hc) hm) fun σ H Q h => cmp2_im σ H _ (tTest_of _ σ H Q h)
theorem boolOf_step {g : Fx} {w : Wd} {r : List Sl} {cs : List C} {σ : Sg} {H : Hp} {α β : Type} {rep : Fx → Wd → Hp → List Sl → Sg → α → β → Prop} {f : Bool → List Sl → List C → Res α} {Q : β → Hp → Prop} (R : Rel X.K g w r cs σ H)
    (h : ((boolOf (m r cs)).bind f).P (Fin X.K rep g w σ Q) (exW X.K xr W g w σ)) :
    tM X.K xr W m σ H fun x H1 => ∃ k w1 r1 cs1, x = .bl k ∧ Rel X.K g w1 r1 cs1 σ H1 ∧ Ext w w1 ∧ (f k r1 cs1).P (Fin X.K rep g w1 σ Q) (exW X.K xr W g w1 σ) := by
  have h2 := h.bind
  unfold boolOf at h2
  refine ⟨g, w, r, cs, R, h2.bind.mono (fun v r1 cs1 z => ?_) fun _ _ _ z => z⟩
  intro w1 H1 b R1 e1 q
  cases v with
  | own c => exact z.elim
  | val d =>
    cases d <;> first
      | exact z.elim
      | skip
    case bl bb =>
      have z : (f bb r1 cs1).P (Fin X.K rep g w σ Q) (exW X.K xr W g w σ) := z
      exact ⟨bb, w1, r1, cs1, q, R1, e1, z.mono (fun _ _ _ y => Fin.mono y e1 fun _ _ t => t) fun _ _ _ y => exW.mono y e1⟩
theorem pe_andM {rest : List Expr} (ha : PE X a (tM X.K xr W ma)) (hb : PE X (.BoolOp .And (b :: rest) pos) (tM X.K xr W mb)) :
    PE X (.BoolOp .And (a :: b :: rest) pos) (tM X.K xr W fun r cs => (boolOf (ma r cs)).bind fun k r cs => match k with
      | true => mb r cs
      | false => .ok (.val (.bl false)) r cs) := by
  refine pe_weak (pe_and ha hb) fun σ H Q ⟨g, w, r, cs, R, hp⟩ => ?_
  refine tG.mono (boolOf_step R hp) fun x H1 ⟨k, w1, r1, cs1, ex, R1, e1, k1⟩ => ⟨k, ex, ?_⟩
  cases k with
  | true => exact iteT ⟨g, w1, r1, cs1, R1, k1⟩
  | false => exact iteF (k1 w1 H1 _ R1 (Ext.refl _) rfl)
theorem pe_orM {rest : List Expr} (ha : PE X a (tM X.K xr W ma)) (hb : PE X (.BoolOp .Or (b :: rest) pos) (tM X.K xr W mb)) :
    PE X (.BoolOp .Or (a :: b :: rest) pos) (tM X.K xr W fun r cs => (boolOf (ma r cs)).bind fun k r cs => match k with
      | true => .ok (.val (.bl true)) r cs
      | false => mb r cs) := by
  refine pe_weak (pe_or ha hb) fun σ H Q ⟨g, w, r, cs, R, hp⟩ => ?_
  refine tG.mono (boolOf_step R hp) fun x H1 ⟨k, w1, r1, cs1, ex, R1, e1, k1⟩ => ⟨k, ex, ?_⟩
  cases k with
  | true => exact iteT (k1 w1 H1 _ R1 (Ext.refl _) rfl)
  | false => exact iteF ⟨g, w1, r1, cs1, R1, k1⟩
theorem pe_notM (ha : PE X a (tM X.K xr W ma)) : PE X (.UnaryOp .Not a pos) (tM X.K xr W fun r cs => (boolOf (ma r cs)).bind fun k r cs => .ok (.val (.bl (!k))) r cs) := by
  refine pe_weak (pe_not ha) fun σ H Q ⟨g, w, r, cs, R, hp⟩ => ?_
  refine tG.mono (boolOf_step R hp) fun x H1 ⟨k, w1, r1, cs1, ex, R1, e1, k1⟩ => ⟨k, ex, k1 w1 H1 _ R1 (Ext.refl _) rfl⟩
theorem pe_negM (ha : PE X a (tM X.K xr W ma)) : PE X (.UnaryOp .USub a pos) (tM X.K xr W fun r cs => (ma r cs).bind fun v r cs => match v with
      | .val (.int i) => .ok (.val (.int (-i))) r cs
      | _ => .no) := by
  refine pe_weak (pe_un un_neg ha) fun σ H Q ⟨g, w, r, cs, R, hp⟩ => ?_
  refine tG.mono (R.step (rep := repV X.K) hp) fun x H1 ⟨w1, r1, cs1, v, R1, e1, q1, k1⟩ => ?_
  cases v with
  | own c => exact k1.elim
  | val d =>
    cases d <;> first
      | exact k1.elim
      | skip
    case int i => exact ⟨i, q1, k1 w1 H1 _ R1 (Ext.refl _) rfl⟩
theorem ptb_step {g : Fx} {w : Wd} {r : List Sl} {cs : List C} {σ : Sg} {H : Hp} {α β : Type} {rep : Fx → Wd → Hp → List Sl → Sg → α → β → Prop} {f : Bool → List Sl → List C → Res α} {Q : β → Hp → Prop} {mt : List Sl → List C → Res Bool} (R : Rel X.K g w r cs σ H)
    (h : ((mt r cs).bind f).P (Fin X.K rep g w σ Q) (exW X.K xr W g w σ)) :
    tTM X.K xr W mt σ H fun k H1 => ∃ w1 r1 cs1, Rel X.K g w1 r1 cs1 σ H1 ∧ Ext w w1 ∧ (f k r1 cs1).P (Fin X.K rep g w1 σ Q) (exW X.K xr W g w1 σ) := by
  refine tG.mono (R.step (rep := repB) h) fun k H1 ⟨w1, r1, cs1, a, R1, e1, q, z⟩ => ?_
  cases q
  exact ⟨w1, r1, cs1, R1, e1, z⟩
theorem pe_iteM {mt : List Sl → List C → Res Bool} (hc : PT X c (tTM X.K xr W mt)) (ha : PE X a (tM X.K xr W ma)) (hb : PE X b (tM X.K xr W mb)) :
    PE X (.IfExp c a b pos) (tM X.K xr W fun r cs => (mt r cs).bind fun k r cs => match k with
      | true => ma r cs
      | false => mb r cs) := by
  refine pe_weak (pe_ifExp hc ha hb) fun σ H Q ⟨g, w, r, cs, R, hp⟩ => ?_
  refine tG.mono (ptb_step R hp) fun k H1 ⟨w1, r1, cs1, R1, e1, k1⟩ => ?_
  cases k with
  | true => exact iteT ⟨g, w1, r1, cs1, R1, k1⟩
  | false => exact iteF ⟨g, w1, r1, cs1, R1, k1⟩
/-! tests -/
theorem pt_andM {rest : List Expr} (ha : PT X a (tTM X.K xr W fun r cs => boolOf (ma r cs))) (hb : PW X (.BoolOp .And (b :: rest) pos) (tTM X.K xr W fun r cs => boolOf (mb r cs))) :
    PW X (.BoolOp .And (a :: b :: rest) pos) (tTM X.K xr W fun r cs => boolOf ((boolOf (ma r cs)).bind fun k r cs => match k with
      | true => mb r cs
      | false => .ok (.val (.bl false)) r cs)) := by
  refine ⟨fun wh pins s σ H Q I hq => (pw_and ha hb).run wh pins s σ H Q I ?_⟩
  obtain ⟨g, w, r, cs, R, hp⟩ := hq
  have e : ∀ (mm : Res Bool) (f : Bool → List Sl → List C → Res Rv), boolOf (mm.bind f) = mm.bind fun k r cs => boolOf (f k r cs) := fun mm f => by cases mm <;> rfl
  simp only [e] at hp
  refine tG.mono (ptb_step (mt := fun r cs => boolOf (ma r cs)) R hp) fun k H1 ⟨w1, r1, cs1, R1, e1, k1⟩ => ?_
  cases k with
  | true => exact iteT ⟨g, w1, r1, cs1, R1, k1⟩
  | false => exact iteF (k1 w1 H1 _ R1 (Ext.refl _) rfl)
theorem pt_orM {rest : List Expr} (ha : PT X a (tTM X.K xr W fun r cs => boolOf (ma r cs))) (hb : PW X (.BoolOp .Or (b :: rest) pos) (tTM X.K xr W fun r cs => boolOf (mb r cs))) :
    PW X (.BoolOp .Or (a :: b :: rest) pos) (tTM X.K xr W fun r cs => boolOf ((boolOf (ma r cs)).bind fun k r cs => match k with
      | true => .ok (.val (.bl true)) r cs
      | false => mb r cs)) := by
  refine ⟨fun wh pins s σ H Q I hq => (pw_or ha hb).run wh pins s σ H Q I ?_⟩
  obtain ⟨g, w, r, cs, R, hp⟩ := hq
  have e : ∀ (mm : Res Bool) (f : Bool → List Sl → List C → Res Rv), boolOf (mm.bind f) = mm.bind fun k r cs => boolOf (f k r cs) := fun mm f => by cases mm <;> rfl
  simp only [e] at hp
  refine tG.mono (ptb_step (mt := fun r cs => boolOf (ma r cs)) R hp) fun k H1 ⟨w1, r1, cs1, R1, e1, k1⟩ => ?_
  cases k with
  | true => exact iteT (k1 w1 H1 _ R1 (Ext.refl _) rfl)
  | false => exact iteF ⟨g, w1, r1, cs1, R1, k1⟩
theorem pt_notM (ha : PT X a (tTM X.K xr W fun r cs => boolOf (ma r cs))) : PT X (.UnaryOp .Not a pos) (tTM X.K xr W fun r cs => boolOf ((boolOf (ma r cs)).bind fun k r cs => .ok (.val (.bl (!k))) r cs)) := by
  refine pt_weak (pt_not ha) fun σ H Q ⟨g, w, r, cs, R, hp⟩ => ?_
  have e : ∀ (mm : Res Bool) (f : Bool → List Sl → List C → Res Rv), boolOf (mm.bind f) = mm.bind fun k r cs => boolOf (f k r cs) := fun mm f => by cases mm <;> rfl
  simp only [e] at hp
  refine tG.mono (ptb_step (mt := fun r cs => boolOf (ma r cs)) R hp) fun k H1 ⟨w1, r1, cs1, R1, e1, k1⟩ => ?_
  exact k1 w1 H1 _ R1 (Ext.refl _) rfl
theorem tB_of (m : List Sl → List C → Res Rv) : ∀ σ H Q, tTM X.K xr W (fun r cs => boolOf (m r cs)) σ H Q → tB (tM X.K xr W m) σ H Q := fun σ H Q h => tTest_of m σ H Q h
/-! displays, places, slices -/
theorem pe_tupM {x1} {ms : List Sl → List C → Res (List D)} (h : PA X es (tAD X.K xr W ms)) : PE X (.Tuple es x1 pos) (tM X.K xr W fun r cs => (ms r cs).bind fun ds r cs => if ds.length ≤ sizeLine then .ok (.val (.tup ds)) r cs else .no) := by
  refine pe_weak (pe_tup h) fun σ H Q ⟨g, w, r, cs, R, hp⟩ => ?_
  refine tG.mono (R.step hp) fun xs H1 ⟨w1, r1, cs1, ds, R1, e1, q1, k1⟩ => ?_
  split at k1
  · rename_i hl
    have q1 : Reps X.K w1 ds xs := q1
    refine ⟨by rw [q1.length]; exact hl, fun p hp => ?_⟩
    have px := PureX.new (o := .tup xs) R1.ff hp
    exact k1 _ _ _ (R1.pure px) px.ext (newT hp R1.ff q1)
  · exact k1.elim
theorem pe_lstM {ms : List Sl → List C → Res (List D)} (h : PA X es (tAD X.K xr W ms)) : PE X (.List es pos) (tM X.K xr W fun r cs => (ms r cs).bind fun ds r cs => if ds.length ≤ sizeLine then .ok (.own (.lst ds)) r cs else .no) := by
  refine pe_weak (pe_lst h) fun σ H Q ⟨g, w, r, cs, R, hp⟩ => ?_
  refine tG.mono (R.step hp) fun xs H1 ⟨w1, r1, cs1, ds, R1, e1, q1, k1⟩ => ?_
  split at k1
  · rename_i hl
    have q1 : Reps X.K w1 ds xs := q1
    refine ⟨by rw [q1.length]; exact hl, fun p hp => ?_⟩
    have px := PureX.newOwn (o := .lst xs) R1.ff hp
    exact k1 _ _ _ (R1.pure px) px.ext (R1.newRv px (newL hp R1.ff q1))
  · exact k1.elim
theorem pe_idxM (hu : X.A.units + 1 < cLine) (ha : PE X a (tOm X.K xr W oa)) (hb : PE X b (tOm X.K xr W ob)) (hs : PlainIx b) :
    PE X (.Subscript a b pos) (tM X.K xr W fun r cs => (oa r cs).bind fun x r cs => (ob r cs).bind fun y r cs => (liftO (rds r [x, y]) r cs).bind fun ds r cs => match ds with
        | [d, e] => (liftO (idxD d e) r cs).bind fun v r cs => .ok (.val v) r cs
        | _ => .no) := by
  refine pe_weak (pe_ix (ix_allD hu) ha hb hs) fun σ H Q ⟨g, w, r, cs, R, hp⟩ => ?_
  refine tG.mono (R.step hp) fun x H1 ⟨w1, r1, cs1, o1, R1, e1, q1, k1⟩ => ?_
  refine tG.mono (R1.step k1) fun y H2 ⟨w2, r2, cs2, o2, R2, e2, q2, k2⟩ => ?_
  obtain ⟨ds, ed, k3⟩ := liftO_P k2.bind
  obtain ⟨d, e, rfl, h1, h2⟩ := RdDs.two (R2.rds (os := [o1, o2]) (vs := [x, y]) (.cons (OdRep.mono q1 e2) (.cons q2 .nil)) ed)
  obtain ⟨bb, eb, k4⟩ := liftO_P k3.bind
  exact ⟨w2, d, e, _, R2.ff, h1, h2, by show (idxD d e).map Rv.val = _; rw [eb]; rfl, fun v H' w' p n => k4 w' H' v (R2.pure p) p.ext (R2.newRv p n)⟩
theorem pe_biM (bi : Bi) {x : Str} {p0 : Pos} {ms : List Sl → List C → Res (List Od)} (hc : X.calm = true) (hx : x = bi.name) (hg : Gl X x) (hm : X.mg x = none) (ha : PA X (e :: es) (tAO X.K xr W ms))
    (he : starEach (e :: es) X.env = (false, eval e X.env) :: starEach es X.env) (hpl : (backTo pos (starEach es X.env)).any (·.1) = false) :
    PE X (.Call (.Name x p0) (e :: es) [] pos) (tM X.K xr W fun r cs => (ms r cs).bind fun os r cs => (liftO (rds r os) r cs).bind fun ds r cs => liftO (biD bi ds) r cs) := by
  have key : PE X (.Call (.Name x p0) (e :: es) [] pos) (tCB (rOf X.K (biD bi)) (tAO X.K xr W ms)) := by
    subst hx
    cases bi <;> first
      | exact pe_callB (call_biD hc _) hg hm (by decide +kernel) ha (by decide) (by decide) he hpl
      | exact pe_callTy (call_biD hc _) hg hm (by decide +kernel) ha (by decide) (by decide) he hpl
  refine pe_weak key fun σ H Q ⟨g, w, r, cs, R, hp⟩ => ?_
  refine tG.mono (R.step hp) fun x H1 ⟨w1, r1, cs1, os, R1, e1, q1, k1⟩ => ?_
  obtain ⟨ds, ed, k3⟩ := liftO_P k1.bind
  obtain ⟨rv, erv, fin⟩ := R1.endP k3
  exact ⟨w1, ds, rv, R1.ff, R1.rds q1 ed, erv, fin⟩
theorem pe_isiM (t : Ty) {p0 p1 : Pos} (hg : Gl X "isinstance") (hm : X.mg "isinstance" = none) (hg2 : Gl X (Str.ofString t.name)) (hm2 : X.mg (Str.ofString t.name) = none) (ha : PE X e (tOm X.K xr W oa))
    (he : starEach [e, .Name (Str.ofString t.name) p1] X.env = (false, eval e X.env) :: starEach [.Name (Str.ofString t.name) p1] X.env) :
    PE X (.Call (.Name "isinstance" p0) [e, .Name (Str.ofString t.name) p1] [] pos) (tM X.K xr W fun r cs => (oa r cs).bind fun x r cs => (liftO ((rd r x).bind (isiD t)) r cs).bind fun b r cs => .ok (.val (.bl b)) r cs) := by
  have hn : PE X (.Name (Str.ofString t.name) p1) (tC (.ty t.name)) := by
    cases t <;> exact pe_bltn hg2 hm2 (u := .type _) (by decide +kernel) rfl (by decide) (by decide)
  refine pe_weak (pe_callB call_isi hg hm (by decide +kernel) (pa_cons ha (pa_cons hn pa_nil (by rfl)) he) (by decide) (by decide) he (by rfl)) fun σ H Q ⟨g, w, r, cs, R, hp⟩ => ?_
  refine tG.mono (R.step hp) fun x H1 ⟨w1, r1, cs1, o1, R1, e1, q1, k1⟩ => ?_
  obtain ⟨d, bb, hd, eb, k2⟩ := R1.rd1 q1 k1.bind
  have fin : Q (.bl bb) H1 := k2 w1 H1 _ R1 (Ext.refl _) rfl
  obtain ⟨t1, t2, t3, t4, t5, t6, t7⟩ := kit_table X.K t
  have go : ∀ n : String, TyX X.K H1 x (.type n) → PySem.W.kitOne X.K (.type n) (.type t.name) = some bb → rIsi X.K [x, .ty t.name] H1 Q := fun n h1 h2 => ⟨x, .ty t.name, _, _, bb, rfl, .ty _, h1, h2, fin⟩
  cases d with
  | non =>
    cases (show x = .non from hd)
    exact go _ (.base .non) (by rw [t7]; cases t <;> exact eb)
  | bl _ =>
    obtain rfl : x = _ := hd
    exact go _ (.base (.bl _)) (by rw [t2]; cases t <;> exact eb)
  | int _ =>
    obtain rfl : x = _ := hd
    exact go _ (.base (.int _)) (by rw [t1]; cases t <;> exact eb)
  | str _ =>
    obtain rfl : x = _ := hd
    exact go _ (.base (.str _)) (by rw [t5]; cases t <;> exact eb)
  | tup ds =>
    obtain ⟨p, vs, rfl, h1, _⟩ := rdT R1.ff hd
    refine go "tuple" ?_ (by rw [t4]; cases t <;> exact eb)
    rcases h1 with (h1 | ⟨o, h1⟩) | ⟨o, its, n, h1, h2, _⟩
    · exact .base (.tup h1)
    · exact .fTuple h1
    · exact .kTuple h1 h2
  | lst ds =>
    obtain ⟨p, vs, rfl, h1, _⟩ := hd
    exact go "list" (.base (.lst h1)) (by rw [t3]; cases t <;> exact eb)
  | dct ks ds =>
    obtain ⟨p, kvs, rfl, h1, _⟩ := hd
    refine go "dict" ?_ (by rw [t6]; cases t <;> exact eb)
    rcases h1 with h1 | ⟨o, h1⟩
    · exact .base (.dK h1)
    · exact .fDict h1
  | scr ds =>
    obtain ⟨p, vs, rfl, h1, _⟩ := hd
    refine go "list" ?_ (by rw [t3]; cases t <;> exact eb)
    rcases h1 with (h1 | ⟨o, h1⟩) | ⟨o, its, n, h1, h2, _⟩
    · exact .base (.lst h1)
    · exact .base (.frz h1)
    · exact .kList h1 h2
  | obj _ => cases t <;> cases eb
  | fn _ => cases t <;> cases eb
  | exc _ _ => cases t <;> cases eb
end
end Vi

namespace Vi
open PySem PySem.Spec L2
/-! ### slices -/
section
variable {X : Cx} {xr : XR} {W : WX} {a b c e : Expr} {es : List Expr} {pos : Pos}
variable {ma mb mc m : List Sl → List C → Res Rv} {oa ob oc : List Sl → List C → Res Od}
def repP : Fx → Wd → Hp → List Sl → Sg → Option Int → Option Int → Prop := fun _ _ _ _ _ a b => a = b
def tPM (K : PySem.W.Frag) (xr : XR) (W : WX) (m : List Sl → List C → Res (Option Int)) : TO := tG K xr W repP m
theorem po_weak {o : Option Expr} {t t' : TO} (h : PO X o t) (k : ∀ σ H Q, t' σ H Q → t σ H Q) : PO X o t' := ⟨fun pins s σ H Q I q => h.run pins s σ H Q I (k σ H Q q)⟩
theorem po0M : PO X none (tPM X.K xr W fun r cs => .ok none r cs) := po_weak po_none fun σ H Q ⟨g, w, r, cs, R, h⟩ => h w H none R (Ext.refl _) rfl
theorem po1M (h : PE X e (tM X.K xr W m)) : PO X (some e) (tPM X.K xr W fun r cs => (m r cs).d.bind fun d r cs => liftO (partD [d]) r cs) := by
  refine po_weak (po_some (pe_frz h)) fun σ H Q ⟨g, w, r, cs, R, hp⟩ => ?_
  refine tG.mono (R.step (rep := repD X.K) hp) fun x H1 ⟨w1, r1, cs1, d, R1, e1, q1, k1⟩ => ?_
  obtain ⟨o, eo, k2⟩ := liftO_P k1
  cases d <;> first
    | (cases eo; done)
    | skip
  case int i =>
    cases eo
    exact ⟨i, q1, k2 w1 H1 _ R1 (Ext.refl _) rfl⟩
def rSlD (K : PySem.W.Frag) : V → Option Int → Option Int → Hp → VK → Prop := fun x lo hi H Q =>
  ∃ w d z, Same w.F H ∧ RdD K w H d x ∧ slcD d lo hi = some z ∧ ∀ v H' w', PureX w H w' H' → NewRv K w' H H' z v → Q v H'
theorem reps_cut {K : PySem.W.Frag} {w : Wd} {ds : List D} {vs : List V} (r : Reps K w ds vs) (lo hi : Option Int) : Reps K w (cutD ds lo hi) (cutV vs lo hi) := by
  unfold cutD cutV
  rw [r.length]
  exact (r.drop _).take _
theorem sl_allD : SlR X (rSlD X.K) := by
  intro pins s σ H x v vl vu lo hi sl Q I rx hs pl pu ⟨w, d, z, ff, h1, hz, k⟩
  cases d <;> first
    | (simp [slcD] at hz; done)
    | skip
  case lst ds =>
    cases hz
    obtain ⟨p, vs, rfl, a1, a2⟩ := h1
    exact sl_list pins s σ H _ v vl vu lo hi sl Q I rx hs pl pu ⟨p, vs, rfl, SqL.of a1, fun p hp => k _ _ _ (PureX.newOwn ff hp) (newL hp ff (reps_cut a2 lo hi))⟩
  case scr ds =>
    cases hz
    obtain ⟨p, vs, rfl, a1, a2⟩ := h1
    exact sl_list pins s σ H _ v vl vu lo hi sl Q I rx hs pl pu ⟨p, vs, rfl, a1, fun p hp => k _ _ _ (PureX.newOwn ff hp) (newL hp ff (reps_cut a2 lo hi))⟩
  case tup ds =>
    cases hz
    obtain ⟨p, vs, rfl, a1, a2⟩ := rdT ff h1
    refine sl_tupA pins s σ H _ v vl vu lo hi sl Q I rx hs pl pu ⟨p, vs, rfl, a1, fun hw => ?_, fun _ p hp => k _ _ _ (PureX.new ff hp) (newT hp ff (reps_cut a2 lo hi))⟩
    obtain ⟨p, us, e1, b1, b2⟩ := h1
    cases e1
    refine k _ H w (PureX.refl ff) ⟨_, us, rfl, b1, ?_⟩
    have el : vs.length = ds.length := a2.length
    have e3 : cutD ds lo hi = ds := by
      unfold cutD
      rw [el] at hw
      rw [hw.1, hw.2]
      simp
    rw [e3]
    exact b2
  case str st =>
    simp only [slcD] at hz
    split at hz
    · rename_i hl
      cases hz
      cases (show x = .str st from h1)
      exact sl_str pins s σ H _ v vl vu lo hi sl Q I rx hs pl pu ⟨st, rfl, hl, k _ H w (PureX.refl ff) rfl⟩
    · cases hz
theorem pe_slcM {lo hi : Option Expr} {p2 : Pos} {ml mh : List Sl → List C → Res (Option Int)} (ha : PE X a (tOm X.K xr W oa)) (hl : PO X lo (tPM X.K xr W ml)) (hh : PO X hi (tPM X.K xr W mh)) :
    PE X (.Subscript a (.Slice lo hi none p2) pos) (tM X.K xr W fun r cs => (oa r cs).bind fun x r cs => (ml r cs).bind fun l r cs => (mh r cs).bind fun h r cs => liftO ((rd r x).bind fun d => slcD d l h) r cs) := by
  refine pe_weak (pe_slice sl_allD ha hl hh) fun σ H Q ⟨g, w, r, cs, R, hp⟩ => ?_
  refine tG.mono (R.step hp) fun x H1 ⟨w1, r1, cs1, o1, R1, e1, q1, k1⟩ => ?_
  refine tG.mono (R1.step (rep := repP) k1) fun y H2 ⟨w2, r2, cs2, o2, R2, e2, q2, k2⟩ => ?_
  refine tG.mono (R2.step (rep := repP) k2) fun z H3 ⟨w3, r3, cs3, o3, R3, e3, q3, k3⟩ => ?_
  cases q2
  cases q3
  obtain ⟨rv, erv, fin⟩ := R3.endP k3
  obtain ⟨d, ed, es⟩ := Option.bind_eq_some_iff.mp erv
  exact ⟨w3, d, rv, R3.ff, R3.rd (OdRep.mono q1 (e2.trans e3)) ed, es, fin⟩
theorem pe_revM {k : Nat} {p1 p2 p3 : Pos} (ha : PE X a (tOm X.K xr W oa)) :
    PE X (.Subscript a (.Slice none none (some (.UnaryOp .USub (.Constant (.int 1) k p1) p2)) p3) pos) (tM X.K xr W fun r cs => (oa r cs).bind fun x r cs => (liftO (rd r x) r cs).bind fun d r cs => match d with
      | .lst ds => .ok (.own (.lst ds.reverse)) r cs
      | _ => .no) := by
  refine pe_weak (pe_revL ha) fun σ H Q ⟨g, w, r, cs, R, hp⟩ => ?_
  refine tG.mono (R.step hp) fun x H1 ⟨w1, r1, cs1, o1, R1, e1, q1, k1⟩ => ?_
  obtain ⟨d, ed, k2⟩ := liftO_P k1.bind
  have hd := R1.rd q1 ed
  cases d <;> first
    | exact k2.elim
    | skip
  case lst ds =>
    obtain ⟨p, vs, rfl, a1, a2⟩ := hd
    refine ⟨p, vs, rfl, SqL.of a1, fun q hq => ?_⟩
    have px := PureX.newOwn (o := .lst vs.reverse) R1.ff hq
    exact k2 _ _ _ (R1.pure px) px.ext (R1.newRv px (newL hq R1.ff a2.reverse))
/-! ### methods that change -/
def rMu (K : PySem.W.Frag) (m : Mu) : V → List V → Hp → VK → Prop := fun x vs H Q => ∃ w p c ds q, x = .ref p ∧ Same w.F H ∧ HRep K w H c p ∧ w.F p = none ∧ Reps K w ds vs ∧ muC m c ds = some q ∧
  ∀ o v, HRep K w (upd H p o) q.2 p → Rep K w q.1 v → Q v (upd H p o)
def Mu.id : Mu → String
  | .append => "list.append" | .pop => "list.pop" | .popAt => "list.pop" | .extend => "list.extend" | .clear => "list.clear" | .reverse => "list.reverse" | .insert => "list.insert"
def Mu.name : Mu → Str
  | .append => "append" | .pop => "pop" | .popAt => "pop" | .extend => "extend" | .clear => "clear" | .reverse => "reverse" | .insert => "insert"
theorem reps1 {K : PySem.W.Frag} {w : Wd} {d : D} {vs : List V} (h : Reps K w [d] vs) : ∃ x, vs = [x] ∧ Rep K w d x := by
  obtain ⟨x, xs, rfl, h1, h2⟩ := h
  cases (show xs = [] from h2)
  exact ⟨x, rfl, h1⟩
theorem reps_dropLast {K : PySem.W.Frag} {w : Wd} {ds : List D} {vs : List V} (r : Reps K w ds vs) : Reps K w ds.dropLast vs.dropLast := by
  rw [List.dropLast_eq_take, List.dropLast_eq_take, r.length]
  exact r.take _
theorem reps_erase {K : PySem.W.Frag} {w : Wd} {ds : List D} {vs : List V} (r : Reps K w ds vs) (k : Nat) : Reps K w (ds.eraseIdx k) (vs.eraseIdx k) := by
  rw [List.eraseIdx_eq_take_drop_succ, List.eraseIdx_eq_take_drop_succ]
  exact (r.take _).append (r.drop _)
theorem mt_muD : ∀ m : Mu, MtR X m.id (rMu X.K m) := by
  intro m pins s σ H x xs v us Q I rx rv ⟨w, p, c, ds, q, ex, ff, hr, hF, ha, hz, k⟩
  subst ex
  cases c with
  | ins _ _ _ => exact hr.elim
  | dct ks ds => cases m <;> simp [muC] at hz
  | lst es =>
    obtain ⟨ws, hp, rw'⟩ := hr
    cases m with
    | append =>
      match ds, hz with
      | [d], hz =>
        simp only [muC] at hz
        split at hz
        · rename_i hl
          cases hz
          obtain ⟨y, rfl, ry⟩ := reps1 ha
          exact mt_append pins s σ H _ _ v us Q I rx rv ⟨p, ws, y, rfl, rfl, hp, by rw [rw'.length]; exact hl, k _ _ ⟨_, upd_same, rw'.append (Reps.one ry)⟩ rfl⟩
        · cases hz
    | extend =>
      match ds, hz with
      | [.lst fs], hz =>
        simp only [muC] at hz
        split at hz
        · rename_i hl
          cases hz
          obtain ⟨y, rfl, b, zs, rfl, b1, b2⟩ := reps1 ha
          exact mt_extend pins s σ H _ _ v us Q I rx rv ⟨p, b, ws, zs, rfl, rfl, hp, ff _ _ b1, by rw [rw'.length, b2.length]; exact hl, k _ _ ⟨_, upd_same, rw'.append b2⟩ rfl⟩
        · cases hz
    | insert =>
      match ds, hz with
      | [.int i, d], hz =>
        simp only [muC] at hz
        split at hz
        · rename_i hb
          simp only [Bool.and_eq_true, decide_eq_true_eq] at hb
          cases hz
          obtain ⟨a, _, rfl, ra, y, _, rfl, ry, e⟩ := ha
          cases e
          cases (show a = .int i from ra)
          exact mt_insert pins s σ H _ _ v us Q I rx rv ⟨p, ws, i, y, rfl, rfl, hp, by rw [rw'.length]; exact hb.1.1, hb.1.2, (small63_ok hb.2).2, k _ _ ⟨_, upd_same, ((rw'.take _).append (Reps.one ry)).append (rw'.drop _)⟩ rfl⟩
        · cases hz
    | clear =>
      match ds, hz with
      | [], hz =>
        cases hz
        cases (show xs = [] from ha)
        exact mt_clear pins s σ H _ _ v us Q I rx rv ⟨p, ws, rfl, rfl, hp, k _ _ ⟨_, upd_same, rfl⟩ rfl⟩
    | reverse =>
      match ds, hz with
      | [], hz =>
        cases hz
        cases (show xs = [] from ha)
        exact mt_reverse pins s σ H _ _ v us Q I rx rv ⟨p, ws, rfl, rfl, hp, k _ _ ⟨_, upd_same, rw'.reverse⟩ rfl⟩
    | pop =>
      match ds, hz with
      | [], hz =>
        cases (show xs = [] from ha)
        simp only [muC] at hz
        split at hz
        · rename_i d ed
          cases hz
          obtain ⟨y, ey, ry⟩ := rw'.get ed
          exact mt_pop pins s σ H _ _ v us Q I rx rv ⟨p, ws, y, rfl, rfl, hp, by rw [rw'.length]; exact ey, k _ _ ⟨_, upd_same, reps_dropLast rw'⟩ ry⟩
        · cases hz
    | popAt =>
      match ds, hz with
      | [.int i], hz =>
        simp only [muC] at hz
        split at hz
        · rename_i hb
          have hb := small63_ok hb
          split at hz
          · rename_i n en
            split at hz
            · rename_i d ed
              cases hz
              obtain ⟨y, rfl, ry⟩ := reps1 ha
              cases (show y = .int i from ry)
              obtain ⟨z, ez, rz⟩ := rw'.get ed
              obtain ⟨e1, _⟩ := ixN_seq en
              exact mt_popAt pins s σ H _ _ v us Q I rx rv ⟨p, ws, i, n, z, rfl, rfl, hp, hb.1, hb.2, by rw [rw'.length]; exact e1, ez, k _ _ ⟨_, upd_same, reps_erase rw' n⟩ rz⟩
            · cases hz
          · cases hz
        · cases hz
theorem ownAt_eq {i : Nat} {r : List Sl} {p : Bool × C} (h : ownAt i r = some p) : r[i]? = some (.own p.1 false p.2) := by
  unfold ownAt at h
  cases e : r[i]? with
  | none => simp [e] at h
  | some x =>
    cases x with
    | no => simp [e] at h
    | val _ _ => simp [e] at h
    | own io lk c =>
      cases lk with
      | true => simp [e] at h
      | false =>
        simp [e] at h
        subst h
        rfl
theorem Same.updN {w : Wd} {H : Hp} {p : Addr} {o : HO} (h : Same w.F H) (hp : w.F p = none) : Same w.F (upd H p o) := fun b u e => by
  rw [upd_ne (ne_of_none e hp)]
  exact h _ _ e
/-- the end of such a method -/
theorem mut_end {m : Mu} {i : Nat} {x : V} {g : Fx} {w : Wd} {r : List Sl} {cs : List C} {σ : Sg} {H : Hp} {ds : List D} {vs : List V} {Q : VK} (R : Rel X.K g w r cs σ H) (hi : σ[i]? = some (some x)) (q : Reps X.K w ds vs)
    (h : ((liftO (ownAt i r) r cs).bind fun p r cs => (liftO (muC m p.2 ds) r cs).bind fun q r cs => Res.ok (Rv.val q.1) (r.set i (.own p.1 false q.2)) cs).P (Fin X.K (repV X.K) g w σ Q) (exW X.K xr W g w σ)) : rMu X.K m x vs H Q := by
  obtain ⟨pc, e1, h⟩ := liftO_P h.bind
  obtain ⟨z, e2, h⟩ := liftO_P h.bind
  have er := ownAt_eq e1
  obtain ⟨p, ep⟩ := R.ownAddr er
  rw [hi] at ep
  cases ep
  obtain ⟨h1, h2, h3, h4⟩ := R.mayW er hi
  refine ⟨w, p, pc.2, ds, z, rfl, R.ff, h1, h2, q, e2, fun o v hr hv => ?_⟩
  exact h w (upd H p o) v (R.write er hi (Ext.refl _) rfl (fun _ _ => rfl) (Same.updN R.ff h2) rfl (.inr ⟨false, z.2, rfl, hr, h2⟩)) (Ext.refl _) hv
theorem tyL {i : Nat} {x : V} {g : Fx} {w : Wd} {r : List Sl} {cs : List C} {σ : Sg} {H : Hp} {p : Bool × C} {ds : List D} (R : Rel X.K g w r cs σ H) (hi : σ[i]? = some (some x)) (e1 : ownAt i r = some p) (e2 : p.2 = .lst ds) : tyV X.K "list" x H := by
  have er := ownAt_eq e1
  obtain ⟨q, ep⟩ := R.ownAddr er
  rw [hi] at ep
  cases ep
  obtain ⟨h1, _⟩ := R.mayW er hi
  rw [e2] at h1
  obtain ⟨vs, hp, _⟩ := h1
  exact .inl ⟨rfl, vs, SqL.of hp⟩
theorem isLst_eq {c : C} (h : c.isLst = true) : ∃ ds, c = .lst ds := by
  cases c with
  | lst ds => exact ⟨ds, rfl⟩
  | _ => cases h
theorem pe_mut0 (m : Mu) (hm : m = .pop ∨ m = .clear ∨ m = .reverse) {i : Nat} {x nm : Str} {p0 apos : Pos} (hx : nm = m.name) (hN : X.N[i]? = some x) (hv : Vis X.env.scope x) (hd : (x == ("__debug__" : Str)) = false) (hcd : (x == ("__classdict__" : Str)) = false)
    (hline : (apos.endLine == pos.line) = true) :
    PE X (.Call (.Attribute (.Name x p0) nm apos) [] [] pos) (tM X.K xr W fun r cs => (liftO ((ownAt i r).bind fun p => if p.2.isLst then some () else none) r cs).bind fun _ r cs => (liftO (ownAt i r) r cs).bind fun p r cs => (liftO (muC m p.2 []) r cs).bind fun q r cs =>
      .ok (.val q.1) (r.set i (.own p.1 false q.2)) cs) := by
  have key : PE X (.Call (.Attribute (.Name x p0) nm apos) [] [] pos) (tBM0 X.K "list" (rMu X.K m) (tVar i)) := by
    subst hx
    rcases hm with rfl | rfl | rfl
    · exact pe_bm0 PySem.F.plainAttrs_list PySem.F.slot_list_pop PySem.F.type_list_pop (mt_muD .pop) (pe_var hN hv hd hcd) rfl hline
    · exact pe_bm0 PySem.F.plainAttrs_list PySem.F.slot_list_clear PySem.F.type_list_clear (mt_muD .clear) (pe_var hN hv hd hcd) rfl hline
    · exact pe_bm0 PySem.F.plainAttrs_list PySem.F.slot_list_reverse PySem.F.type_list_reverse (mt_muD .reverse) (pe_var hN hv hd hcd) rfl hline
  refine pe_weak key fun σ H Q ⟨g, w, r, cs, R, hp⟩ => ?_
  obtain ⟨u, e1, hp⟩ := liftO_P hp.bind
  obtain ⟨pc, e2, e3⟩ := Option.bind_eq_some_iff.mp e1
  split at e3
  · rename_i hl
    obtain ⟨ds, e4⟩ := isLst_eq hl
    obtain ⟨p, ep⟩ := R.ownAddr (ownAt_eq e2)
    exact ⟨.ref p, ep, tyL R ep e2 e4, mut_end R ep (show Reps X.K w [] [] from rfl) hp⟩
  · cases e3
theorem pe_mut1 (m : Mu) (hm : m = .append ∨ m = .popAt ∨ m = .extend) {i : Nat} {x nm : Str} {p0 apos : Pos} (hx : nm = m.name) (hN : X.N[i]? = some x) (hv : Vis X.env.scope x) (hd : (x == ("__debug__" : Str)) = false) (hcd : (x == ("__classdict__" : Str)) = false)
    (ha : PE X e (tM X.K xr W ma)) (hs : starEach [e] X.env = [(false, eval e X.env)]) (hline : (apos.endLine == pos.line) = true) :
    PE X (.Call (.Attribute (.Name x p0) nm apos) [e] [] pos) (tM X.K xr W fun r cs => (liftO ((ownAt i r).bind fun p => if p.2.isLst then some () else none) r cs).bind fun _ r cs => (ma r cs).d.bind fun d r cs => (liftO (ownAt i r) r cs).bind fun p r cs => (liftO (muC m p.2 [d]) r cs).bind fun q r cs =>
      .ok (.val q.1) (r.set i (.own p.1 false q.2)) cs) := by
  have hs' : starEach [e] X.env = (false, eval e X.env) :: starEach [] X.env := hs
  have hfew : ((backTo pos (starEach [e] X.env)).all (fun x => !x.1) && (backToKw pos (keywordEach [] X.env)).all (fun x => x.1.isSome)
      && decide (([e] : List Expr).length + ([] : List Keyword).length + (if ([] : List Keyword).isEmpty then 0 else 1) < 30)) = true := by
    rw [hs]
    rfl
  have key : PE X (.Call (.Attribute (.Name x p0) nm apos) [e] [] pos) (tBM X.K "list" (rMu X.K m) (tVar i) (tCons (tDm X.K xr W fun r cs => (ma r cs).d) tNil)) := by
    subst hx
    rcases hm with rfl | rfl | rfl
    · exact pe_bm PySem.F.plainAttrs_list PySem.F.slot_list_append PySem.F.type_list_append (mt_muD .append) (pe_var hN hv hd hcd) (pa_cons (pe_frz ha) pa_nil hs') rfl hfew hline hs' rfl
    · exact pe_bm PySem.F.plainAttrs_list PySem.F.slot_list_pop PySem.F.type_list_pop (mt_muD .popAt) (pe_var hN hv hd hcd) (pa_cons (pe_frz ha) pa_nil hs') rfl hfew hline hs' rfl
    · exact pe_bm PySem.F.plainAttrs_list PySem.F.slot_list_extend PySem.F.type_list_extend (mt_muD .extend) (pe_var hN hv hd hcd) (pa_cons (pe_frz ha) pa_nil hs') rfl hfew hline hs' rfl
  refine pe_weak key fun σ H Q ⟨g, w, r, cs, R, hp⟩ => ?_
  obtain ⟨u, e1, hp⟩ := liftO_P hp.bind
  obtain ⟨pc, e2, e3⟩ := Option.bind_eq_some_iff.mp e1
  split at e3
  · rename_i hl
    obtain ⟨ds, e4⟩ := isLst_eq hl
    obtain ⟨p, ep⟩ := R.ownAddr (ownAt_eq e2)
    refine ⟨.ref p, ep, tyL R ep e2 e4, ?_⟩
    refine tG.mono (R.step (rep := repD X.K) hp) fun y H1 ⟨w1, r1, cs1, d, R1, e1', q1, k1⟩ => ?_
    exact mut_end R1 ep (Reps.one q1) k1
  · cases e3
theorem pe_mut2 {f : Expr} {mb : List Sl → List C → Res Rv} {i : Nat} {x : Str} {p0 apos : Pos} (hN : X.N[i]? = some x) (hv : Vis X.env.scope x) (hd : (x == ("__debug__" : Str)) = false) (hcd : (x == ("__classdict__" : Str)) = false)
    (ha : PE X e (tM X.K xr W ma)) (hb : PE X f (tM X.K xr W mb)) (hs : starEach [e, f] X.env = (false, eval e X.env) :: starEach [f] X.env) (hs2 : starEach [f] X.env = [(false, eval f X.env)]) (hline : (apos.endLine == pos.line) = true) :
    PE X (.Call (.Attribute (.Name x p0) "insert" apos) [e, f] [] pos) (tM X.K xr W fun r cs => (liftO ((ownAt i r).bind fun p => if p.2.isLst then some () else none) r cs).bind fun _ r cs => ((ma r cs).d.bind fun d r cs => ((mb r cs).d.bind fun d2 r cs => .ok [d2] r cs).bind fun ds r cs => .ok (d :: ds) r cs).bind fun ds r cs => (liftO (ownAt i r) r cs).bind fun p r cs => (liftO (muC .insert p.2 ds) r cs).bind fun q r cs =>
      .ok (.val q.1) (r.set i (.own p.1 false q.2)) cs) := by
  have hfew : ((backTo pos (starEach [e, f] X.env)).all (fun x => !x.1) && (backToKw pos (keywordEach [] X.env)).all (fun x => x.1.isSome)
      && decide (([e, f] : List Expr).length + ([] : List Keyword).length + (if ([] : List Keyword).isEmpty then 0 else 1) < 30)) = true := by
    rw [hs, hs2]
    rfl
  have key : PE X (.Call (.Attribute (.Name x p0) "insert" apos) [e, f] [] pos) (tBM X.K "list" (rMu X.K .insert) (tVar i) (tCons (tDm X.K xr W fun r cs => (ma r cs).d) (tCons (tDm X.K xr W fun r cs => (mb r cs).d) tNil))) :=
    pe_bm PySem.F.plainAttrs_list PySem.F.slot_list_insert PySem.F.type_list_insert (mt_muD .insert) (pe_var hN hv hd hcd) (pa_cons (pe_frz ha) (pa_cons (pe_frz hb) pa_nil hs2) hs) rfl hfew hline hs (by rw [hs2]; rfl)
  refine pe_weak key fun σ H Q ⟨g, w, r, cs, R, hp⟩ => ?_
  obtain ⟨u, e1, hp⟩ := liftO_P hp.bind
  obtain ⟨pc, e2, e3⟩ := Option.bind_eq_some_iff.mp e1
  split at e3
  · rename_i hl
    obtain ⟨ds, e4⟩ := isLst_eq hl
    obtain ⟨p, ep⟩ := R.ownAddr (ownAt_eq e2)
    refine ⟨.ref p, ep, tyL R ep e2 e4, ?_⟩
    have hp2 : ((ma r cs).d.bind fun d r cs => (mb r cs).d.bind fun d2 r cs => (liftO (ownAt i r) r cs).bind fun p r cs => (liftO (muC .insert p.2 [d, d2]) r cs).bind fun q r cs => Res.ok (Rv.val q.1) (r.set i (.own p.1 false q.2)) cs).P (Fin X.K (repV X.K) g w σ Q) (exW X.K xr W g w σ) := by
      cases q : (ma r cs).d with
      | no => rw [q] at hp; exact hp
      | ex _ _ _ => rw [q] at hp; exact hp
      | ok d r2 cs2 =>
        rw [q] at hp
        show ((mb r2 cs2).d.bind _).P _ _
        have hp : ((((mb r2 cs2).d.bind fun d2 r cs => Res.ok [d2] r cs).bind fun ds r cs => Res.ok (d :: ds) r cs).bind fun ds r cs => (liftO (ownAt i r) r cs).bind fun p r cs => (liftO (muC .insert p.2 ds) r cs).bind fun q r cs => Res.ok (Rv.val q.1) (r.set i (.own p.1 false q.2)) cs).P (Fin X.K (repV X.K) g w σ Q) (exW X.K xr W g w σ) := hp
        cases q2 : (mb r2 cs2).d <;> rw [q2] at hp <;> exact hp
    refine tG.mono (R.step (rep := repD X.K) hp2) fun y H1 ⟨w1, r1, cs1, d, R1, e1', q1, k1⟩ => ?_
    refine tG.mono (R1.step (rep := repD X.K) k1) fun y2 H2 ⟨w2, r2, cs2, d2, R2, e2', q2, k2⟩ => ?_
    exact mut_end R2 ep (ds := [d, d2]) ⟨_, _, rfl, Rep.mono e2' _ _ q1, Reps.one q2⟩ k2
  · cases e3
end
end Vi

namespace Vi
open PySem PySem.Spec L2
/-! ### calls: what is handed in -/
structure ArgRel (K : PySem.W.Frag) (w : Wd) (H : Hp) (as : List Rv) (vs : List V) : Prop where
  len : as.length = vs.length
  val : ∀ (i : Nat) (d : D), as[i]? = some (.val d) → ∃ v, vs[i]? = some v ∧ Rep K w d v
  own : ∀ (i : Nat) (c : C), as[i]? = some (.own c) → ∃ p, vs[i]? = some (.ref p) ∧ HRep K w H c p ∧ w.F p = none ∧ p ∉ w.ph
  dist : ∀ (i j : Nat) (c c' : C) (p : Addr), as[i]? = some (.own c) → as[j]? = some (.own c') → vs[i]? = some (.ref p) → vs[j]? = some (.ref p) → i = j
/-- the addresses that are handed in by reference -/
def ownAds : List Rv → List V → List Addr
  | .own _ :: as, .ref p :: vs => p :: ownAds as vs
  | _ :: as, _ :: vs => ownAds as vs
  | _, _ => []
theorem mem_ownAds {p : Addr} : ∀ {as : List Rv} {vs : List V}, p ∈ ownAds as vs → ∃ (i : Nat) (c : C), as[i]? = some (.own c) ∧ vs[i]? = some (.ref p)
  | [], _, h => by simp [ownAds] at h
  | .own c :: as, [], h => by simp [ownAds] at h
  | .val d :: as, [], h => by simp [ownAds] at h
  | .val d :: as, v :: vs, h => by
    obtain ⟨i, c, e1, e2⟩ := mem_ownAds (as := as) (vs := vs) (by cases v <;> simpa [ownAds] using h)
    exact ⟨i + 1, c, by simpa using e1, by simpa using e2⟩
  | .own c :: as, v :: vs, h => by
    have go : p ∈ ownAds as vs → ∃ (i : Nat) (c' : C), (Rv.own c :: as)[i]? = some (.own c') ∧ (v :: vs)[i]? = some (.ref p) := fun h => by
      obtain ⟨i, c', e1, e2⟩ := mem_ownAds h
      exact ⟨i + 1, c', by simpa using e1, by simpa using e2⟩
    cases v with
    | ref q =>
      rcases List.mem_cons.mp (show p ∈ q :: ownAds as vs from h) with rfl | h
      · exact ⟨0, c, rfl, rfl⟩
      · exact go h
    | _ => exact go (by simpa [ownAds] using h)
theorem of_ownAds {p : Addr} {c : C} : ∀ {as : List Rv} {vs : List V} {i : Nat}, as[i]? = some (.own c) → vs[i]? = some (.ref p) → p ∈ ownAds as vs
  | [], _, i, h, _ => by simp at h
  | a :: as, [], i, _, h => by simp at h
  | a :: as, v :: vs, 0, h1, h2 => by
    simp at h1 h2
    subst h1
    subst h2
    exact List.mem_cons_self
  | a :: as, v :: vs, i + 1, h1, h2 => by
    have h := of_ownAds (as := as) (vs := vs) (i := i) (by simpa using h1) (by simpa using h2)
    cases a with
    | val d => cases v <;> simpa [ownAds] using h
    | own c => cases v <;> first | (exact List.mem_cons_of_mem _ h) | (simpa [ownAds] using h)
structure CellsC (K : PySem.W.Frag) (w : Wd) (cs : List C) (H : Hp) : Prop where
  len : cs.length = w.ph.length
  nd : w.ph.Nodup
  at_ : ∀ (n : Nat) (c : C) (p : Addr), cs[n]? = some c → w.ph[n]? = some p → HRep K w H c p ∧ w.F p = none
/-- behind a call -/
structure Post (K : PySem.W.Frag) (w : Wd) (H : Hp) (as : List Rv) (vs : List V) (w' : Wd) (H' : Hp) (outs : List Rv) (cs' : List C) : Prop where
  ff : Same w'.F H'
  ext : Ext w w'
  al : ∀ a o, H a = some o → ∃ o', H' a = some o'
  keep : ∀ a o, H a = some o → a ∉ ownAds as vs → a ∉ w.ph → H' a = some o
  fk : ∀ a o, H a = some o → a ∉ ownAds as vs → a ∉ w.ph → w.F a = none → w'.F a = none
  outs : ∀ (i : Nat) (c : C) (p : Addr), as[i]? = some (.own c) → vs[i]? = some (.ref p) → (∃ c', outs[i]? = some (.own c') ∧ HRep K w' H' c' p ∧ w'.F p = none ∧ p ∉ w'.ph) ∨ ∃ d, outs[i]? = some (.val d) ∧ Rep K w' d (.ref p)
  ce : CellsC K w' cs' H'
  cn : ∀ p ∈ w'.ph, p ∈ w.ph ∨ H p = none ∨ p ∈ ownAds as vs
def RetRep (K : PySem.W.Frag) (H : Hp) (w' : Wd) (H' : Hp) (x : Rv) (v : V) : Prop := match x with
  | .val d => Rep K w' d v
  | .own c => ∃ p, v = .ref p ∧ HRep K w' H' c p ∧ w'.F p = none ∧ p ∉ w'.ph ∧ H p = none
/-- what a def promises: what the interpreter makes of it -/
def spOf (K : PySem.W.Frag) (xr : XR) (np : Nat) (f : List Rv → List C → Rc) : Sp := fun vs H Q E => ∃ w as cs, vs.length = np ∧ ArgRel K w H as vs ∧ Same w.F H ∧ CellsC K w cs H ∧ match f as cs with
  | .ok v outs cs' => ∀ w' H' x, Post K w H as vs w' H' outs cs' → RetRep K H w' H' v x → Q x H'
  | .ex x outs cs' => ∀ w' H' cls d, Post K w H as vs w' H' outs cs' → xr w' H' x cls d → E cls d H'
  | .no => False
section
variable {K : PySem.W.Frag} {g : Fx} {w w' : Wd} {r r' : List Sl} {cs cs' : List C} {σ σ' : Sg} {H H' : Hp}
/-- an argument, evaluated -/
def AmRep (K : PySem.W.Frag) (g : Fx) (w : Wd) (H : Hp) (r : List Sl) (σ : Sg) (a : Am) (v : V) : Prop := match a with
  | .slot i => σ[i]? = some (some v)
  | .val x => RvRep K g w H r σ x v
def Am.tmp : Am → Bool
  | .val (.own _) => true
  | _ => false
theorem AmRep.mono {H1 : Hp} {r1 : List Sl} {a : Am} {v : V} (h : AmRep K g w H r σ a v) (ht : a.tmp = false) (e : Ext w w') : AmRep K g w' H1 r1 σ a v := by
  cases a with
  | slot i => exact h
  | val x =>
    cases x with
    | val d => exact Rep.mono e d v h
    | own c => cases ht
/-- all of them: at most one is a new object -/
structure AmsRep (K : PySem.W.Frag) (g : Fx) (w : Wd) (H : Hp) (r : List Sl) (σ : Sg) (as : List Am) (vs : List V) : Prop where
  len : as.length = vs.length
  at_ : ∀ (i : Nat) (a : Am) (v : V), as[i]? = some a → vs[i]? = some v → AmRep K g w H r σ a v
  one : ∀ (i j : Nat) (a b : Am), as[i]? = some a → as[j]? = some b → a.tmp = true → b.tmp = true → i = j
theorem mem_amSlots {i n : Nat} : ∀ {as : List Am}, as[n]? = some (.slot i) → i ∈ amSlots as
  | [], h => by simp at h
  | .slot j :: as, h => by
    cases n with
    | zero => simp at h; subst h; exact List.mem_cons_self
    | succ n => exact List.mem_cons_of_mem _ (mem_amSlots (as := as) (by simpa using h))
  | .val v :: as, h => by
    cases n with
    | zero => simp at h
    | succ n => exact mem_amSlots (as := as) (by simpa using h)
theorem nodup_amSlots {i n m : Nat} : ∀ {as : List Am} , nodupN (amSlots as) = true → as[n]? = some (.slot i) → as[m]? = some (.slot i) → n = m
  | [], _, h, _ => by simp at h
  | .val v :: as, hn, h1, h2 => by
    cases n with
    | zero => simp at h1
    | succ n =>
      cases m with
      | zero => simp at h2
      | succ m => exact congrArg Nat.succ (nodup_amSlots (as := as) hn (by simpa using h1) (by simpa using h2))
  | .slot j :: as, hn, h1, h2 => by
    obtain ⟨q1, q2⟩ : (!(amSlots as).contains j) = true ∧ nodupN (amSlots as) = true := Bool.and_eq_true_iff.mp hn
    have nj : j ∉ amSlots as := fun z => by
      have : (amSlots as).contains j = true := List.contains_iff_mem.mpr z
      rw [this] at q1
      cases q1
    cases n with
    | zero =>
      cases m with
      | zero => rfl
      | succ m =>
        simp at h1 h2
        subst h1
        exact absurd (mem_amSlots h2) nj
    | succ n =>
      cases m with
      | zero =>
        simp at h1 h2
        subst h2
        exact absurd (mem_amSlots h1) nj
      | succ m => exact congrArg Nat.succ (nodup_amSlots (as := as) q2 (by simpa using h1) (by simpa using h2))
theorem amArgs_at {r : List Sl} : ∀ {as : List Am} {vs : List Rv} {i : Nat}, amArgs r as = some vs → (∀ a, as[i]? = some a → ∃ v, vs[i]? = some v ∧ amArg r a = some v) ∧ as.length = vs.length
  | [], vs, i, h => by
    simp [amArgs] at h
    subst h
    exact ⟨fun a e => by simp at e, rfl⟩
  | a :: as, vs, i, h => by
    unfold amArgs at h
    cases q : amArg r a with
    | none => simp [q] at h
    | some v =>
      cases q2 : amArgs r as with
      | none => simp [q, q2] at h
      | some vs' =>
        simp [q, q2] at h
        subst h
        refine ⟨fun b e => ?_, by simp [(amArgs_at (i := 0) q2).2]⟩
        cases i with
        | zero => simp at e; subst e; exact ⟨v, rfl, q⟩
        | succ i => simpa using (amArgs_at (i := i) q2).1 b (by simpa using e)
theorem Rel.argOwn (R : Rel K g w r cs σ H) {as : List Am} {xs : List Rv} {vs : List V} (A : AmsRep K g w H r σ as vs) (hx : amArgs r as = some xs) {i : Nat} {c : C} (e : xs[i]? = some (.own c)) :
    ∃ p, vs[i]? = some (.ref p) ∧ HRep K w H c p ∧ w.F p = none ∧ p ∉ w.ph ∧ ((∃ j io, as[i]? = some (.slot j) ∧ r[j]? = some (.own io false c) ∧ σ[j]? = some (some (.ref p))) ∨ (as[i]? = some (.val (.own c)) ∧ g.H0 p = none ∧ p ∉ g.W ∧ ∀ j, ¬ OwnAt r σ j p)) := by
  have hl := (amArgs_at (i := 0) hx).2
  have hi : i < as.length := by rw [hl]; exact (List.getElem?_eq_some_iff.mp e).1
  have ea : as[i]? = some as[i] := List.getElem?_eq_getElem hi
  have hv : i < vs.length := by rw [← A.len]; exact hi
  have ev : vs[i]? = some vs[i] := List.getElem?_eq_getElem hv
  obtain ⟨v, e1, e2⟩ := (amArgs_at (i := i) hx).1 _ ea
  rw [e] at e1
  cases e1
  have hr := A.at_ i _ _ ea ev
  generalize as[i] = a at ea e2 hr
  generalize vs[i] = v at ev hr
  cases a with
  | slot j =>
    unfold amArg at e2
    cases q : r[j]? with
    | none => simp [q] at e2
    | some x =>
      cases x with
      | no => simp [q] at e2
      | val _ _ => simp [q] at e2
      | own io lk c' =>
        cases lk with
        | true => simp [q] at e2
        | false =>
          simp [q] at e2
          subst e2
          obtain ⟨p, ep⟩ := R.ownAddr q
          have hr : σ[j]? = some (some v) := hr
          rw [hr] at ep
          cases ep
          obtain ⟨h1, h2, h3, h4⟩ := R.mayW q hr
          exact ⟨p, ev, h1, h2, h3, .inl ⟨j, io, ea, q, hr⟩⟩
  | val x =>
    cases e2
    obtain ⟨p, rfl, h1, h2, h3, h4, h5, _, h6⟩ := hr
    exact ⟨p, ev, h1, h2, h3, .inr ⟨ea, h4, h5, h6⟩⟩
theorem Rel.args (R : Rel K g w r cs σ H) {as : List Am} {xs : List Rv} {vs : List V} (A : AmsRep K g w H r σ as vs) (hn : nodupN (amSlots as) = true) (hx : amArgs r as = some xs) : ArgRel K w H xs vs := by
  have hl := (amArgs_at (i := 0) hx).2
  refine ⟨by rw [← hl]; exact A.len, fun i d e => ?_, fun i c e => ?_, fun i j c c' p e1 e2 v1 v2 => ?_⟩
  · have hi : i < as.length := by rw [hl]; exact (List.getElem?_eq_some_iff.mp e).1
    have ea : as[i]? = some as[i] := List.getElem?_eq_getElem hi
    have hv : i < vs.length := by rw [← A.len]; exact hi
    have ev : vs[i]? = some vs[i] := List.getElem?_eq_getElem hv
    obtain ⟨v, e1, e2⟩ := (amArgs_at (i := i) hx).1 _ ea
    rw [e] at e1
    cases e1
    have hr := A.at_ i _ _ ea ev
    generalize as[i] = a at ea e2 hr
    generalize vs[i] = v at ev hr
    refine ⟨v, ev, ?_⟩
    cases a with
    | slot j =>
      unfold amArg at e2
      cases q : r[j]? with
      | none => simp [q] at e2
      | some x =>
        cases x with
        | no => simp [q] at e2
        | own io lk c => cases lk <;> simp [q] at e2
        | val io d' =>
          simp [q] at e2
          subst e2
          obtain ⟨v', e3, e4⟩ := R.sl j _ q
          have hr : σ[j]? = some (some v) := hr
          rw [hr] at e3
          cases e3
          exact e4
    | val x =>
      cases e2
      exact hr
  · obtain ⟨p, h1, h2, h3, h4, _⟩ := R.argOwn A hx e
    exact ⟨p, h1, h2, h3, h4⟩
  · obtain ⟨p1, a1, _, _, _, b1⟩ := R.argOwn A hx e1
    obtain ⟨p2, a2, _, _, _, b2⟩ := R.argOwn A hx e2
    rw [v1] at a1
    rw [v2] at a2
    cases a1
    cases a2
    rcases b1 with ⟨j1, io1, c1, c2, c3⟩ | ⟨c1, _, _, c4⟩
    · rcases b2 with ⟨j2, io2, d1, d2, d3⟩ | ⟨d1, _, _, d4⟩
      · have : j1 = j2 := R.dist j1 j2 p ⟨_, _, _, c2, c3⟩ ⟨_, _, _, d2, d3⟩
        subst this
        exact nodup_amSlots hn c1 d1
      · exact absurd ⟨_, _, _, c2, c3⟩ (d4 j1)
    · rcases b2 with ⟨j2, io2, d1, d2, d3⟩ | ⟨d1, _, _, d4⟩
      · exact absurd ⟨_, _, _, d2, d3⟩ (c4 j2)
      · exact A.one i j _ _ c1 d1 rfl rfl
theorem Rel.cells (R : Rel K g w r cs σ H) : CellsC K w cs H := ⟨R.ce.len, R.ce.nd, fun n c p e1 e2 => let ⟨a, b, _⟩ := R.ce.at_ n c p e1 e2; ⟨a, b⟩⟩
theorem Rel.phSome (R : Rel K g w r cs σ H) {p : Addr} (h : p ∈ w.ph) : (∃ o, H p = some o) ∧ (p ∈ g.W ∨ g.H0 p = none) := by
  obtain ⟨n, hn, e⟩ := List.getElem_of_mem h
  have hn2 : n < cs.length := by rw [R.ce.len]; exact hn
  obtain ⟨h1, _, h3⟩ := R.ce.at_ n cs[n] p (List.getElem?_eq_getElem hn2) (by rw [List.getElem?_eq_getElem hn, e])
  exact ⟨HRep.at_some h1, h3⟩
end
/-! what putBack does to a slot -/
theorem put1_len {i : Nat} {v : Rv} {r : List Sl} : (put1 i v r).length = r.length := by
  unfold put1
  cases r[i]? with
  | none => rfl
  | some x =>
    cases x with
    | own io lk c => cases v <;> simp
    | _ => rfl
theorem putBack_len : ∀ {as : List Am} {vs : List Rv} {r : List Sl}, (putBack as vs r).length = r.length
  | [], _, _ => rfl
  | .slot i :: as, [], r => rfl
  | .val x :: as, [], r => rfl
  | .slot i :: as, v :: vs, r => by
    show (putBack as vs (put1 i v r)).length = _
    rw [putBack_len, put1_len]
  | .val x :: as, v :: vs, r => putBack_len (as := as)
theorem put1_ne {i j : Nat} {v : Rv} {r : List Sl} (h : j ≠ i) : (put1 i v r)[j]? = r[j]? := by
  unfold put1
  cases r[i]? with
  | none => rfl
  | some x =>
    cases x with
    | own io lk c => cases v <;> simp [List.getElem?_set_ne (Ne.symm h)]
    | _ => rfl
theorem putBack_ne {j : Nat} : ∀ {as : List Am} {vs : List Rv} {r : List Sl}, j ∉ amSlots as → (putBack as vs r)[j]? = r[j]?
  | [], _, _, _ => rfl
  | .slot i :: as, [], r, _ => rfl
  | .val x :: as, [], r, _ => rfl
  | .slot i :: as, v :: vs, r, h => by
    show (putBack as vs (put1 i v r))[j]? = _
    rw [putBack_ne fun z => h (List.mem_cons_of_mem _ z), put1_ne fun z => h (by rw [z]; exact List.mem_cons_self)]
  | .val x :: as, v :: vs, r, h => putBack_ne (as := as) h
/-- a slot that was handed in, with its outcome -/
def putS (x : Sl) (v : Rv) : Sl := match x, v with
  | .own io lk _, .own c => .own io lk c
  | .own io _ _, .val d => .val io d
  | x, _ => x
theorem put1_eq {i : Nat} {v : Rv} {r : List Sl} {x : Sl} (h : r[i]? = some x) : (put1 i v r)[i]? = some (putS x v) := by
  have hi := (List.getElem?_eq_some_iff.mp h).1
  unfold put1
  rw [h]
  cases x with
  | own io lk c => cases v <;> simp [List.getElem?_set_self hi, putS]
  | val io d => exact h
  | no => exact h
theorem putBack_at {j n : Nat} {x : Sl} : ∀ {as : List Am} {vs : List Rv} {r : List Sl} , nodupN (amSlots as) = true → as.length = vs.length → as[n]? = some (.slot j) → r[j]? = some x → ∃ v, vs[n]? = some v ∧ (putBack as vs r)[j]? = some (putS x v)
  | [], _, _, _, _, h, _ => by simp at h
  | a :: as, [], _, _, h, _, _ => by simp at h
  | .val y :: as, v :: vs, r, hn, hl, h, hr => by
    cases n with
    | zero => simp at h
    | succ n =>
      obtain ⟨u, e1, e2⟩ := putBack_at (n := n) (as := as) (vs := vs) (r := r) hn (by simpa using hl) (by simpa using h) hr
      exact ⟨u, by simpa using e1, e2⟩
  | .slot i :: as, v :: vs, r, hn, hl, h, hr => by
    obtain ⟨q1, q2⟩ : (!(amSlots as).contains i) = true ∧ nodupN (amSlots as) = true := Bool.and_eq_true_iff.mp hn
    have ni : i ∉ amSlots as := fun z => by
      have : (amSlots as).contains i = true := List.contains_iff_mem.mpr z
      rw [this] at q1
      cases q1
    cases n with
    | zero =>
      simp at h
      subst h
      refine ⟨v, rfl, ?_⟩
      show (putBack as vs (put1 i v r))[i]? = _
      rw [putBack_ne ni]
      exact put1_eq hr
    | succ n =>
      have h' : as[n]? = some (.slot j) := by simpa using h
      have nj : j ≠ i := fun z => by
        subst z
        exact ni (mem_amSlots h')
      obtain ⟨u, e1, e2⟩ := putBack_at (n := n) (as := as) (vs := vs) (r := put1 i v r) q2 (by simpa using hl) h' (by rw [put1_ne nj]; exact hr)
      exact ⟨u, by simpa using e1, e2⟩
end Vi

namespace Vi
open PySem PySem.Spec L2
/-! ### behind a call -/
theorem putBack_any {j n : Nat} {x : Sl} : ∀ {as : List Am} {vs : List Rv} {r : List Sl} , nodupN (amSlots as) = true → as[n]? = some (.slot j) → r[j]? = some x → (∃ v, vs[n]? = some v ∧ (putBack as vs r)[j]? = some (putS x v)) ∨ (vs[n]? = none ∧ (putBack as vs r)[j]? = some x)
  | [], _, _, _, h, _ => by simp at h
  | .slot i :: as, [], r, _, h, hr => .inr ⟨by simp, hr⟩
  | .val y :: as, [], r, _, h, hr => .inr ⟨by simp, hr⟩
  | .val y :: as, v :: vs, r, hn, h, hr => by
    cases n with
    | zero => simp at h
    | succ n =>
      rcases putBack_any (n := n) (as := as) (vs := vs) (r := r) hn (by simpa using h) hr with ⟨u, e1, e2⟩ | ⟨e1, e2⟩
      · exact .inl ⟨u, by simpa using e1, e2⟩
      · exact .inr ⟨by simpa using e1, e2⟩
  | .slot i :: as, v :: vs, r, hn, h, hr => by
    obtain ⟨q1, q2⟩ : (!(amSlots as).contains i) = true ∧ nodupN (amSlots as) = true := Bool.and_eq_true_iff.mp hn
    have ni : i ∉ amSlots as := fun z => by
      have : (amSlots as).contains i = true := List.contains_iff_mem.mpr z
      rw [this] at q1
      cases q1
    cases n with
    | zero =>
      simp at h
      subst h
      refine .inl ⟨v, rfl, ?_⟩
      show (putBack as vs (put1 i v r))[i]? = _
      rw [putBack_ne ni]
      exact put1_eq hr
    | succ n =>
      have h' : as[n]? = some (.slot j) := by simpa using h
      have nj : j ≠ i := fun z => by
        subst z
        exact ni (mem_amSlots h')
      rcases putBack_any (n := n) (as := as) (vs := vs) (r := put1 i v r) q2 h' (by rw [put1_ne nj]; exact hr) with ⟨u, e1, e2⟩ | ⟨e1, e2⟩
      · exact .inl ⟨u, by simpa using e1, e2⟩
      · exact .inr ⟨by simpa using e1, e2⟩
theorem amSlots_at {i : Nat} : ∀ {as : List Am}, i ∈ amSlots as → ∃ n : Nat, as[n]? = some (Am.slot i)
  | [], h => by cases h
  | .slot j :: as, h => by
    rcases List.mem_cons.mp (show i ∈ j :: amSlots as from h) with rfl | h
    · exact ⟨0, rfl⟩
    · obtain ⟨n, e⟩ := amSlots_at h
      exact ⟨n + 1, by simpa using e⟩
  | .val v :: as, h => by
    obtain ⟨n, e⟩ := amSlots_at (as := as) h
    exact ⟨n + 1, by simpa using e⟩
/-- a slot behind a call: what it was -/
theorem putBack_back {as : List Am} {vs : List Rv} {r : List Sl} {j : Nat} {y : Sl} (hn : nodupN (amSlots as) = true) (h : (putBack as vs r)[j]? = some y) :
    ∃ x, r[j]? = some x ∧ ((j ∉ amSlots as ∧ y = x) ∨ ∃ n : Nat, as[n]? = some (Am.slot j) ∧ ((∃ v, vs[n]? = some v ∧ y = putS x v) ∨ (vs[n]? = none ∧ y = x))) := by
  have hl : j < r.length := by
    have := (List.getElem?_eq_some_iff.mp h).1
    rwa [putBack_len] at this
  refine ⟨r[j], List.getElem?_eq_getElem hl, ?_⟩
  by_cases q : j ∈ amSlots as
  · obtain ⟨n, e⟩ := amSlots_at q
    refine .inr ⟨n, e, ?_⟩
    rcases putBack_any (vs := vs) hn e (List.getElem?_eq_getElem hl) with ⟨v, e1, e2⟩ | ⟨e1, e2⟩
    · rw [h] at e2; cases e2; exact .inl ⟨v, e1, rfl⟩
    · rw [h] at e2; cases e2; exact .inr ⟨e1, rfl⟩
  · rw [putBack_ne q, List.getElem?_eq_getElem hl] at h
    cases h
    exact .inl ⟨q, rfl⟩
theorem putS_own {x : Sl} {v : Rv} {io lk : Bool} {c : C} (h : putS x v = .own io lk c) : ∃ io' lk' c', x = .own io' lk' c' := by
  cases x with
  | no => cases h
  | val _ _ => cases h
  | own a b e => exact ⟨a, b, e, rfl⟩
theorem putS_io {x : Sl} {v : Rv} : (putS x v).isIo = x.isIo := by
  cases x with
  | no => rfl
  | val _ _ => rfl
  | own a b e => cases v <;> rfl
section
variable {K : PySem.W.Frag} {g : Fx} {w w' : Wd} {r r' : List Sl} {cs cs' : List C} {σ σ' : Sg} {H H' : Hp}
theorem Rel.call (R : Rel K g w r cs σ H) {as : List Am} {xs : List Rv} {vs : List V} {outs : List Rv} (A : AmsRep K g w H r σ as vs) (hn : nodupN (amSlots as) = true) (hx : amArgs r as = some xs)
    (P : Post K w H xs vs w' H' outs cs') : Rel K g w' (putBack as outs r) cs' σ H' ∧ ∀ v x, RetRep K H w' H' v x → RvRep K g w' H' (putBack as outs r) σ v x := by
  have hnot : ∀ a, (∀ (n : Nat) (c : C), xs[n]? = some (.own c) → vs[n]? = some (.ref a) → False) → a ∉ ownAds xs vs := fun a h z => by
    obtain ⟨n, c, e1, e2⟩ := mem_ownAds z
    exact h n c e1 e2
  have out : ∀ a o, g.H0 a = some o → a ∉ g.W → a ∉ ownAds xs vs ∧ a ∉ w.ph := fun a o e h => by
    refine ⟨hnot a fun n c e1 e2 => ?_, fun z => ?_⟩
    · obtain ⟨p, q1, q2, q3, q4, q5⟩ := R.argOwn A hx e1
      rw [e2] at q1
      cases q1
      rcases q5 with ⟨j, io, z1, z2, z3⟩ | ⟨z1, z2, z3, z4⟩
      · rcases (R.mayW z2 z3).2.2.2 with y | y
        · exact h y
        · rw [e] at y; cases y
      · rw [e] at z2; cases z2
    · rcases (R.phSome z).2 with y | y
      · exact h y
      · rw [e] at y; cases y
  have slotArg : ∀ (n j : Nat) (io lk : Bool) (c : C) (p : Addr), as[n]? = some (.slot j) → r[j]? = some (.own io lk c) → σ[j]? = some (some (.ref p)) → xs[n]? = some (.own c) ∧ vs[n]? = some (.ref p) := fun n j io lk c p e1 e2 e3 => by
    obtain ⟨v, q1, q2⟩ := (amArgs_at (i := n) hx).1 _ e1
    unfold amArg at q2
    simp only [e2] at q2
    cases lk with
    | true => simp at q2
    | false =>
      simp at q2
      subst q2
      have hv : n < vs.length := by rw [← A.len]; exact (List.getElem?_eq_some_iff.mp e1).1
      have ev : vs[n]? = some vs[n] := List.getElem?_eq_getElem hv
      have hr : σ[j]? = some (some vs[n]) := A.at_ n _ _ e1 ev
      rw [e3] at hr
      injection hr with hr
      injection hr with hr
      exact ⟨q1, by rw [ev, ← hr]⟩
  have back : ∀ i p, OwnAt (putBack as outs r) σ i p → OwnAt r σ i p := fun i p ⟨io, lk, c, e1, e2⟩ => by
    obtain ⟨x, q1, q2⟩ := putBack_back hn e1
    rcases q2 with ⟨_, rfl⟩ | ⟨n, _, ⟨v, _, e⟩ | ⟨_, rfl⟩⟩
    · exact ⟨_, _, _, q1, e2⟩
    · obtain ⟨io', lk', c', rfl⟩ := putS_own e.symm
      exact ⟨_, _, _, q1, e2⟩
    · exact ⟨_, _, _, q1, e2⟩
  refine ⟨⟨P.ff, R.f0.trans P.ext, R.gw, fun a o e => ?_, fun a o e => ?_, fun a o e h => ?_, fun a o e h n => ?_, by rw [putBack_len]; exact R.len, fun i s e => ?_, fun i j p h1 h2 => R.dist i j p (back i p h1) (back j p h2), fun i p e => ?_, ⟨P.ce.len, P.ce.nd, fun n c p e1 e2 => ?_⟩, fun i p c e => ?_⟩, fun v x h => ?_⟩
  · obtain ⟨o', e'⟩ := R.al a o e
    exact P.al a o' e'
  · obtain ⟨o', e'⟩ := R.ae a o e
    exact P.al a o' e'
  · exact P.keep a o (R.keep a o e h) (out a o e h).1 (out a o e h).2
  · exact P.fk a o (R.keep a o e h) (out a o e h).1 (out a o e h).2 (R.fk a o e h n)
  · obtain ⟨x, q1, q2⟩ := putBack_back hn e
    have hx2 := R.sl i x q1
    -- an unchanged slot
    have same : (∀ io lk c p, x = .own io lk c → σ[i]? = some (some (.ref p)) → HRep K w H c p → w.F p = none → p ∉ w.ph → p ∉ ownAds xs vs) → SlRep K g w' H' x σ[i]? := fun hne => by
      cases x with
      | no => trivial
      | val io d =>
        obtain ⟨v, e1, e2⟩ := hx2
        exact ⟨v, e1, e2.mono P.ext⟩
      | own io lk c =>
        obtain ⟨p, e1, e2, e3, e4, e5⟩ := hx2
        obtain ⟨o, eo⟩ := HRep.at_some e2
        have na := hne io lk c p rfl e1 e2 e3 e4
        refine ⟨p, e1, HRep.mono e2 P.ext fun u hu => P.keep p u hu na e4, P.fk p o eo na e4 e3, fun z => ?_, e5⟩
        rcases P.cn p z with y | y | y
        · exact e4 y
        · rw [eo] at y; cases y
        · exact na y
    rcases q2 with ⟨hi, rfl⟩ | ⟨n, en, ⟨v, ev, rfl⟩ | ⟨ev, rfl⟩⟩
    · refine same fun io lk c p ex es _ _ _ => hnot p fun n c' e1 e2 => ?_
      subst ex
      obtain ⟨p', z1, _, _, _, z5⟩ := R.argOwn A hx e1
      rw [e2] at z1
      cases z1
      rcases z5 with ⟨j, io', y1, y2, y3⟩ | ⟨_, _, _, y4⟩
      · have : i = j := R.dist i j p ⟨_, _, _, q1, es⟩ ⟨_, _, _, y2, y3⟩
        subst this
        exact hi (mem_amSlots y1)
      · exact y4 i ⟨_, _, _, q1, es⟩
    · cases x with
      | no => trivial
      | val io d =>
        obtain ⟨u, e1, e2⟩ := hx2
        exact ⟨u, e1, e2.mono P.ext⟩
      | own io lk c =>
        obtain ⟨p, e1, e2, e3, e4, e5⟩ := hx2
        obtain ⟨z1, z2⟩ := slotArg n i io lk c p en q1 e1
        rcases P.outs n c p z1 z2 with ⟨c', y1, y2, y3, y4⟩ | ⟨d, y1, y2⟩
        · rw [ev] at y1
          cases y1
          exact ⟨p, e1, y2, y3, y4, e5⟩
        · rw [ev] at y1
          cases y1
          exact ⟨_, e1, y2⟩
    · refine same fun io lk c p ex es _ _ _ => ?_
      subst ex
      obtain ⟨z1, z2⟩ := slotArg n i io lk c p en q1 es
      rcases P.outs n c p z1 z2 with ⟨c', y1, _⟩ | ⟨d, y1, _⟩
      · rw [ev] at y1; cases y1
      · rw [ev] at y1; cases y1
  · obtain ⟨s1, y, y1, y2⟩ := R.io i p e
    refine ⟨s1, ?_⟩
    have hl : i < (putBack as outs r).length := by rw [putBack_len]; exact (List.getElem?_eq_some_iff.mp y1).1
    refine ⟨_, List.getElem?_eq_getElem hl, ?_⟩
    obtain ⟨x, q1, q2⟩ := putBack_back hn (List.getElem?_eq_getElem hl)
    rw [y1] at q1
    cases q1
    rcases q2 with ⟨_, q⟩ | ⟨n, _, ⟨v, _, q⟩ | ⟨_, q⟩⟩
    · rw [q]; exact y2
    · rw [q, putS_io]; exact y2
    · rw [q]; exact y2
  · obtain ⟨a, b⟩ := P.ce.at_ n c p e1 e2
    refine ⟨a, b, ?_⟩
    rcases P.cn p (List.mem_of_getElem? e2) with y | y | y
    · exact (R.phSome y).2
    · exact .inr (R.fresh y).1
    · obtain ⟨m, c', q1, q2⟩ := mem_ownAds y
      obtain ⟨p', z1, _, _, _, z5⟩ := R.argOwn A hx q1
      rw [q2] at z1
      cases z1
      rcases z5 with ⟨j, io', y1, y2, y3⟩ | ⟨_, y2, _, _⟩
      · exact (R.mayW y2 y3).2.2.2
      · exact .inr y2
  · obtain ⟨y1, io, y2⟩ := R.lk i p c e
    refine ⟨y1, io, ?_⟩
    rw [putBack_ne fun z => ?_]
    · exact y2
    · obtain ⟨n, en⟩ := amSlots_at z
      obtain ⟨v, _, q2⟩ := (amArgs_at (i := n) hx).1 _ en
      unfold amArg at q2
      simp [y2] at q2
  · cases v with
    | val d => exact h
    | own c =>
      obtain ⟨p, rfl, h1, h2, h3, h4⟩ := h
      obtain ⟨a1, a2, a3, a4⟩ := R.fresh h4
      exact ⟨p, rfl, h1, h2, h3, a1, a2, R.freshE h4, fun i z => a4 i (back i p z)⟩
end
/-! ### the arguments of a call -/
def repAm (K : PySem.W.Frag) : Fx → Wd → Hp → List Sl → Sg → Am → V → Prop := fun g w H r σ a v => AmRep K g w H r σ a v
def repAs (K : PySem.W.Frag) : Fx → Wd → Hp → List Sl → Sg → List Am → List V → Prop := fun g w H r σ as vs => AmsRep K g w H r σ as vs
section
variable {K : PySem.W.Frag} {g : Fx} {w w' : Wd} {r r' : List Sl} {σ σ' : Sg} {H H' : Hp}
theorem AmsRep.nil : AmsRep K g w H r σ [] [] := ⟨rfl, fun i a v e _ => by simp at e, fun i j a b e _ => by simp at e⟩
theorem AmsRep.cons {a : Am} {v : V} {as : List Am} {vs : List V} (h : AmRep K g w H r σ a v) (ht : a.tmp = false) (hs : AmsRep K g w H r σ as vs) : AmsRep K g w H r σ (a :: as) (v :: vs) := by
  refine ⟨by simp [hs.len], fun i b u e1 e2 => ?_, fun i j b c e1 e2 t1 t2 => ?_⟩
  · cases i with
    | zero => simp at e1 e2; subst e1; subst e2; exact h
    | succ i => exact hs.at_ i b u (by simpa using e1) (by simpa using e2)
  · cases i with
    | zero => simp at e1; subst e1; rw [ht] at t1; cases t1
    | succ i =>
      cases j with
      | zero => simp at e2; subst e2; rw [ht] at t2; cases t2
      | succ j => exact congrArg Nat.succ (hs.one i j b c (by simpa using e1) (by simpa using e2) t1 t2)
theorem AmsRep.one1 {a : Am} {v : V} (h : AmRep K g w H r σ a v) : AmsRep K g w H r σ [a] [v] := by
  refine ⟨rfl, fun i b u e1 e2 => ?_, fun i j b c e1 e2 t1 t2 => ?_⟩
  · cases i with
    | zero => simp at e1 e2; subst e1; subst e2; exact h
    | succ i => simp at e1
  · cases i with
    | zero =>
      cases j with
      | zero => rfl
      | succ j => simp at e2
    | succ i => simp at e1
/-- all but new objects hold on -/
theorem AmsRep.mono {as : List Am} {vs : List V} (h : AmsRep K g w H r σ as vs) (ht : ∀ a ∈ as, a.tmp = false) (e : Ext w w') : AmsRep K g w' H' r' σ as vs :=
  ⟨h.len, fun i a v e1 e2 => (h.at_ i a v e1 e2).mono (ht a (List.mem_of_getElem? e1)) e, h.one⟩
end
end Vi

namespace Vi
open PySem PySem.Spec PyProof.Rows L2
/-! ### what a def promises where nothing is being shown as a text -/
def Shy (A : Around) : Prop := A.guards = some []
structure FnG (P : Program) (w : World) (K : PySem.W.Frag) (mg : Str → Option Value) (base : Heap) (CX : CXT) (k : Nat) (fa : Addr) (fd : FuncData) (ps : List Str) (sp : Sp) : Prop where
  len : ∀ us H Q E, sp us H Q E → us.length = ps.length
  go : ∀ (A : Around) (outer : List Env) (s : Shared) (H : Hp) (args : Args) (us : List Value) (xs : List V) (Q : VK) (E : XK), Shy A → Room k A → Env0 P w K mg base A outer s H → BindsTo s fd args (ps.zip us) → Vals xs us → sp xs H Q E →
    codeAny (model P w) A (.call (.ref fa) args) (CR CX outer P w H s Q E) s
theorem FnG.weak {P : Program} {w : World} {K : PySem.W.Frag} {mg : Str → Option Value} {base : Heap} {CX CX' : CXT} {k : Nat} {fa : Addr} {fd : FuncData} {ps : List Str} {sp : Sp} (F : FnG P w K mg base CX k fa fd ps sp) (h : ∀ outer H s E e s', CX outer H s E e s' → CX' outer H s E e s') : FnG P w K mg base CX' k fa fd ps sp :=
  ⟨F.len, fun A outer s H args us xs Q E y hr he hb hv hs => codeAny_mono (F.go A outer s H args us xs Q E y hr he hb hv hs) fun r s' q => by
    cases r with
    | error e => exact h _ _ _ _ _ _ q
    | ok fl => cases fl <;> exact q⟩
section
variable {P : Program} {w : World} {K : PySem.W.Frag} {mg : Str → Option Value} {base : Heap} {CX : CXT} {k : Nat} {N ps : List Str} {sp : Sp}
theorem defG {fa : Addr} {x qual : Str} {params : Arguments} {body : List Stmt} {scope : Scope} {dvs : List V} {kws : List (Str × V)} {fd : FuncData} (F : FunD K x qual params body scope dvs kws fa fd) (S : FnScope N ps scope) (len : ∀ us H Q E, sp us H Q E → us.length = ps.length)
    (hb : ∀ (cdv : Value) (A : Around) (outer : List Env) (s : Shared) (H : Hp) (xs : List V) (Q : VK) (E : XK), Shy A → Room k (A.deeper (envOfC qual scope s.heap.objs.size fa cdv)) → sp xs H Q E →
      ∃ t, PSs (cxOf CX P w K mg base N qual scope fa cdv A outer s H E) body t ∧ t { nx := fun _ H' => Q .non H', rt := Q } (start N xs) H) : FnG P w K mg base CX (k + 1) fa fd ps sp := by
  obtain ⟨_, _, _, _, _, _, _, cdv, _, _, rfl, lk, hcd, _, _⟩ := F.ex
  constructor
  · exact len
  intro A outer s H args us xs Q E y hr e0 hbind hv hsp
  have n1 := len _ _ _ _ hsp
  have kin := e0.mod.kin.keeps fun b o q => (e0.bs b o q).1
  have lim := e0.mod.nolimit.keeps fun b o q => (e0.bs b o q).1
  have knd : ∀ z ∈ ps.zip us, scope.names.lookup z.1 = some .local ∨ (scope.names.lookup z.1 = some .cell ∧ ((cellsFrom (s.heap.objs.size + 1) scope.names []).lookup z.1).isSome = true) := by
    rintro ⟨n, v⟩ hz
    have hm := (List.of_mem_zip hz).1
    exact (S.par n hm).imp id fun q => ⟨q, PySem.W.cellsFrom_some _ _ _ (.inl q)⟩
  refine codeAny_call_function hr.depth (kin _ _ lk) rfl S.co S.gen rfl (PySem.W.codeRec_of kin hcd) (hbind _ _ _ _ ?_)
  refine wpAny_newFunctionEnv_cells S.kind knd fun env he s1 z => ?_
  cases he
  refine ⟨lim.keeps z.toInCall.keep, codeAny_func ?_⟩
  obtain ⟨t, ht, hq⟩ := hb cdv A outer s H xs Q E y (hr.deeper _) hsp
  have I := inv_start (CX := CX) (E := E) S hr.hd e0 n1 hv z
  refine wpAny_mono (ht.run [] s1 (start N xs) H _ I hq) ?_ fun _ _ q => q
  intro fl s' q
  have out : ∀ {σ' : Sg} {H' : Hp} {v : V} {u : Value}, Inv (cxOf CX P w K mg base N qual scope fa cdv A outer s H E) [] σ' H' s' → RelV v u → Q v H' → CE outer P w H s Q u s' :=
    fun {_ H' v _} J rv qq => ⟨v, H', J.os, J.bare, J.base, J.hok, rv, qq⟩
  match fl, q with
  | .ret u, ⟨_, _, _, J, rv, qq⟩ => exact out J rv qq
  | .next, ⟨_, _, J, qq⟩ => exact out (v := V.non) (u := Value.none) J rfl qq
  | .brk, ⟨_, _, _, qq⟩ => exact qq.elim
  | .cont, ⟨_, _, _, qq⟩ => exact qq.elim
end
/-- what a law is begun with: a script that is tracked, or one of the module's own -/
theorem startG {P : Program} {w : World} {K : PySem.W.Frag} {mg mb : Str → Option Value} {CX : CXT} {k : Nat} {fa a : Addr} {fd : FuncData} {x : Str} {sp : Sp} {s : Shared} {H : Hp}
    (kin : K.In s.heap) (hns : s.heap.Ns mainGlobals mg) (hb : s.heap.Ns builtinsNs mb) (hbb : ∀ z : Str, z ≠ "__name__" → mb z = bootBuiltins z) (hlim : s.heap.NoLimit) (hg : s.gens = #[]) (hr : Room k callerA)
    (F : ∀ base : Heap, K.In base → base.Ns mainGlobals mg → FnG P w K mg base CX k fa fd [x] sp) (hbind : ∀ (t : Shared) (u : Value), BindsTo t fd ⟨[u], []⟩ [(x, u)])
    (hsp : sp [.ref a] H (fun v _ => v = .bl true) fun _ _ _ => False) (hCX : ∀ e s', CX [] H s (fun _ _ _ => False) e s' → False)
    (ok : HOk P w H s.heap) (only : Only H) (one : ∀ b, H b ≠ none → ∃ (its : Array Value) (n : Nat) (o : Obj), s.heap.get? b = some o ∧ o.data = .seq its n) (apart : ∀ b, H b ≠ none → K.lookup b = none) :
    codeAny (model P w) callerA (.call (.ref fa) ⟨[.ref a], []⟩) (fun r s' => r = .ok (.ret (.bool true)) ∧ OldK s.heap s'.heap ∧ s'.os = s.os ∧ AllBare s'.gens) s := by
  have not : ∀ {b : Addr} {o : Obj} {es : Array DictEntry} {ep : Nat}, s.heap.get? b = some o → o.data = .dict es ep → H b = none := fun {b o es ep} e d => by
    refine Classical.byContradiction fun z => ?_
    obtain ⟨its, n, o', e', d'⟩ := one b z
    rw [e] at e'
    cases e'
    rw [d] at d'
    cases d'
  have nsK : ∀ {b : Addr} {m : Str → Option Value}, s.heap.Ns b m → (hidT s.heap H).Ns b m := fun {_ _} ⟨o, es, ep, e, d, r⟩ => ⟨o, es, ep, hidT_get e (not e d), d, r⟩
  have kb : K.In (hidT s.heap H) := fun b o e => hidT_get (kin b o e) (Classical.byContradiction fun z => by
    rw [apart b z] at e
    cases e)
  obtain ⟨mc, l1, l2⟩ := hlim
  have hM : Mod K mg (hidT s.heap H) := ⟨kb, nsK hns, ⟨mb, nsK hb, hbb⟩, mc, nsK l1, l2⟩
  have none0 : ∀ b ∈ frs ([] : List Env), H b = none := fun b z => nomatch z
  have e0 : Env0 P w K mg (hidT s.heap H) callerA [] s H := ⟨rfl, hM, fun b o e => of_hidT e, Nat.le_of_eq (hidT_size _ _), trivial, none0, ok, .of_eq hg⟩
  have go := (F _ kb (nsK hns)).go callerA [] s H ⟨[.ref a], []⟩ [.ref a] [.ref a] _ _ rfl hr e0 (hbind s (.ref a)) (.cons rfl .nil) hsp
  refine codeAny_mono go fun r s' h => ?_
  match r, h with
  | .error e, h => exact (hCX e s' h).elim
  | .ok .next, h => exact h.elim
  | .ok .brk, h => exact h.elim
  | .ok .cont, h => exact h.elim
  | .ok (.ret u), ⟨v, H', os, bare, un, ok', rv, qv⟩ =>
    cases (show v = .bl true from qv)
    cases (show u = Value.bool true from rv)
    refine ⟨rfl, OldK.of_keep fun b o e => ?_, os, bare⟩
    by_cases z : H b = none
    · exact un.keep b o e z (fun m => nomatch (show b ∈ ([] : List Addr) from m)) (fun m => nomatch (show b ∈ ([] : List Addr) from m))
    · rcases only b with z' | ⟨ob, xs, z'⟩
      · exact absurd z' z
      · obtain ⟨g1, _⟩ := ok b _ z'
        obtain ⟨g2, _⟩ := ok' b _ (un.frzs b ob _ z')
        rw [e] at g1
        cases g1
        exact g2
theorem lawG {P : Program} {w : World} {K : PySem.W.Frag} {mg mb : Str → Option Value} {CX : CXT} {k : Nat} {fa a : Addr} {fd : FuncData} {x : Str} {sp : Sp} {s : Shared} {vs : List Value} {ns : List Int}
    (kin : K.In s.heap) (hns : s.heap.Ns mainGlobals mg) (hb : s.heap.Ns builtinsNs mb) (hbb : ∀ z : Str, z ≠ "__name__" → mb z = bootBuiltins z) (hlim : s.heap.NoLimit) (hg : s.gens = #[])
    (ha : s.heap.get? a = some { cls := .type "list", data := .seq vs.toArray }) (hi : IntsAre vs ns) (hl : ns.length ≤ sizeLine) (hr : Room k callerA)
    (F : ∀ base : Heap, K.In base → base.Ns mainGlobals mg → FnG P w K mg base CX k fa fd [x] sp) (hbind : ∀ (t : Shared) (u : Value), BindsTo t fd ⟨[u], []⟩ [(x, u)])
    (hsp : ∀ H : Hp, Only H → SqL K H a (ns.map V.int) → sp [.ref a] H (fun v _ => v = .bl true) fun _ _ _ => False) (hCX : ∀ H e s', CX [] H s (fun _ _ _ => False) e s' → False) :
    codeAny (model P w) callerA (.call (.ref fa) ⟨[.ref a], []⟩) (fun r s' => r = .ok (.ret (.bool true)) ∧ OldK s.heap s'.heap ∧ s'.os = s.os ∧ AllBare s'.gens) s := by
  have rv := vals_ints hi
  have len := hi.length
  cases hk : K.lookup a with
  | some o =>
    have e := kin a o hk
    rw [ha] at e
    cases e
    have no : Only fun _ => none := fun _ => .inl rfl
    have sq : SqL K (fun _ => none) a (ns.map V.int) := .inr ⟨_, vs.toArray, _, hk, rfl, rfl, rfl, by rw [List.size_toArray, len]; exact hl, by simpa using rv⟩
    exact startG kin hns hb hbb hlim hg hr F hbind (hsp _ no sq) (hCX _) (fun b u z => nomatch (show (none : Option HO) = some u from z)) no (fun b z => absurd rfl z) fun b z => absurd rfl z
  | none =>
    let H1 : Hp := fun b => if b = a then some (.frz { cls := .type "list", data := .seq vs.toArray } (.lst (ns.map V.int))) else none
    have at_ : H1 a = some (.frz { cls := .type "list", data := .seq vs.toArray } (.lst (ns.map V.int))) := if_pos rfl
    have off : ∀ {b : Addr}, b ≠ a → H1 b = none := fun {b} z => if_neg z
    have eqa : ∀ {b : Addr}, H1 b ≠ none → b = a := fun {b} z => Classical.byContradiction fun n => z (off n)
    have only : Only H1 := fun b => by
      by_cases z : b = a
      · subst z
        exact .inr ⟨_, _, at_⟩
      · exact .inl (off z)
    refine startG kin hns hb hbb hlim hg hr F hbind (hsp H1 only (.inl (.inr ⟨_, at_⟩))) (hCX _) (fun b u z => ?_) only (fun b z => ?_) fun b z => ?_
    · have q : b = a := eqa fun n => by
        rw [n] at z
        cases z
      subst q
      rw [at_] at z
      cases z
      exact ⟨ha, by rw [List.length_map]; exact hl, vs, _, rv, ha⟩
    · have q := eqa z
      subst q
      exact ⟨_, _, _, ha, rfl⟩
    · rw [eqa z]
      exact hk
/-- a law's end -/
theorem walkG {l : PySem.W.OpenLaw} {n k : Nat} {q : Program} {loose : List Str} {XP : (Str → Option Value) → Heap → Prop} {YP : World → Heap → Prop} {d : DefRec} {CX : CXT} {x : Str}
    (hn : l.most = some n) (hn2 : n ≤ sizeLine) (hdf : d.params.defaults = []) (hr : Room k callerA)
    (F : ∀ (w : World) (mg : Str → Option Value) (fa : Addr) (h : Heap), YP w h → h.Ns mainGlobals mg → mg d.name = some (.ref fa) →
      ∃ (K : PySem.W.Frag) (fd : FuncData) (sp : Sp), K.In h ∧ (∀ (t : Shared) (u : Value), BindsTo t fd ⟨[u], []⟩ [(x, u)]) ∧
        (∀ (H : Hp) (a : Addr) (ns : List Int), ns.length ≤ n → Only H → SqL K H a (ns.map V.int) → sp [.ref a] H (fun v _ => v = .bl true) fun _ _ _ => False) ∧
        ∀ base : Heap, K.In base → base.Ns mainGlobals mg → FnG l.prog w K mg base CX k fa fd [x] sp)
    (hCX : ∀ (H : Hp) (s : Shared) (e : Value) (s' : Shared), CX [] H s (fun _ _ _ => False) e s' → False) :
    PySem.W.WalkO q loose XP YP l.row.toRowW d [] (fun f vs => PySem.call f vs) := by
  refine Att.attach_call hn hdf ?_
  intro w _ s mg mb fa o pm cd doc a vs ns G Y ho hd hcd hmg hobj hints hlen hg
  obtain ⟨K, fd, sp, kin, hb, hsp, hF⟩ := F w mg fa _ Y G.T.g hmg
  exact lawG kin G.T.g G.T.b G.T.builtins G.T.nolimit hg hobj hints (Nat.le_trans hlen hn2) hr hF hb (fun H hO hS => hsp H a ns hlen hO hS) fun H e s' => hCX H s e s'
end Vi

namespace Vi
open PySem PySem.Spec L2
/-! ### how a call binds -/
def Cst.v : Cst → V
  | .non => .non
  | .bl b => .bl b
  | .int i => .int i
  | .str s => .str s
def ordV (vs : List V) : List A0 → List V
  | [] => []
  | .at i :: os => vs.getD i .non :: ordV vs os
  | .df c :: os => c.v :: ordV vs os
def ordNd : List A0 → Bool
  | [] => true
  | .at i :: os => !os.contains (.at i) && ordNd os
  | .df _ :: os => ordNd os
structure BindSh (K : PySem.W.Frag) (fd : FuncData) (ps : List Str) (n : Nat) (ks : List Str) (ord : List A0) : Prop where
  nd : ordNd ord = true
  to : ∀ (s : Shared) (us ws : List Value), K.In s.heap → us.length = n → ws.length = ks.length → ∃ zs, BindsTo s fd ⟨us, ks.zip ws⟩ (ps.zip zs) ∧ zs.length = ps.length ∧ ∀ vs ds, Vals vs us → Vals ds ws → Vals (ordV (vs ++ ds) ord) zs
theorem ordV_len {vs : List V} : ∀ {ord : List A0}, (ordV vs ord).length = ord.length
  | [] => rfl
  | .at i :: os => congrArg Nat.succ ordV_len
  | .df c :: os => congrArg Nat.succ ordV_len
theorem ordA_len {as bs : List Am} : ∀ {ord : List A0}, ordA as ord = some bs → bs.length = ord.length := by
  intro ord
  induction ord generalizing bs with
  | nil => intro h; simp [ordA] at h; subst h; rfl
  | cons o os ih =>
    intro h
    cases o with
    | «at» i =>
      unfold ordA at h
      cases e : as[i]? with
      | none => simp [e] at h
      | some a =>
        cases e2 : ordA as os with
        | none => simp [e, e2] at h
        | some r => simp [e, e2] at h; subst h; simp [ih e2]
    | df c =>
      unfold ordA at h
      cases e2 : ordA as os with
      | none => simp [e2] at h
      | some r => simp [e2] at h; subst h; simp [ih e2]
theorem ordA_at {as bs : List Am} {vs : List V} (hl : as.length = vs.length) : ∀ {ord : List A0}, ordA as ord = some bs → ∀ (i : Nat) (b : Am) (v : V), bs[i]? = some b → (ordV vs ord)[i]? = some v →
    (∃ k, ord[i]? = some (.at k) ∧ as[k]? = some b ∧ vs[k]? = some v) ∨ ∃ c, ord[i]? = some (.df c) ∧ b = .val (.val c.d) ∧ v = c.v := by
  intro ord
  induction ord generalizing bs with
  | nil => intro h i b v e; simp [ordA] at h; subst h; simp at e
  | cons o os ih =>
    intro h i b v e1 e2
    cases o with
    | «at» k =>
      unfold ordA at h
      cases e : as[k]? with
      | none => simp [e] at h
      | some a =>
        cases q : ordA as os with
        | none => simp [e, q] at h
        | some r =>
          simp [e, q] at h
          subst h
          cases i with
          | zero =>
            simp at e1
            subst e1
            have hk : k < vs.length := by rw [← hl]; exact (List.getElem?_eq_some_iff.mp e).1
            simp [ordV, hk] at e2
            exact .inl ⟨k, rfl, e, by rw [List.getElem?_eq_getElem hk, e2]⟩
          | succ i => simpa using ih q i b v (by simpa using e1) (by simpa [ordV] using e2)
    | df c =>
      unfold ordA at h
      cases q : ordA as os with
      | none => simp [q] at h
      | some r =>
        simp [q] at h
        subst h
        cases i with
        | zero =>
          simp at e1
          subst e1
          simp [ordV] at e2
          exact .inr ⟨c, rfl, rfl, e2.symm⟩
        | succ i => simpa using ih q i b v (by simpa using e1) (by simpa [ordV] using e2)
theorem ordHas {m : Nat} : ∀ {os : List A0} {i : Nat}, os[i]? = some (.at m) → os.contains (.at m) = true
  | [], i, h => by simp at h
  | a :: t, 0, h => by
    simp at h
    subst h
    rw [List.contains_cons]
    have : (A0.at m == A0.at m) = true := by simp
    rw [this]; rfl
  | a :: t, i + 1, h => by
    rw [List.contains_cons, ordHas (os := t) (i := i) (by simpa using h), Bool.or_true]
theorem ordNd_at {k : Nat} : ∀ {ord : List A0} {i j : Nat}, ordNd ord = true → ord[i]? = some (.at k) → ord[j]? = some (.at k) → i = j
  | [], i, j, _, h, _ => by simp at h
  | .df c :: os, i, j, hn, h1, h2 => by
    cases i with
    | zero => simp at h1
    | succ i =>
      cases j with
      | zero => simp at h2
      | succ j => exact congrArg Nat.succ (ordNd_at (ord := os) hn (by simpa using h1) (by simpa using h2))
  | .at m :: os, i, j, hn, h1, h2 => by
    obtain ⟨q1, q2⟩ : (!os.contains (.at m)) = true ∧ ordNd os = true := Bool.and_eq_true_iff.mp hn
    have ni : ∀ i : Nat, os[i]? ≠ some (.at m) := fun i z => by
      rw [ordHas z] at q1
      cases q1
    cases i with
    | zero =>
      cases j with
      | zero => rfl
      | succ j =>
        simp at h1 h2
        subst h1
        exact absurd h2 (ni j)
    | succ i =>
      cases j with
      | zero =>
        simp at h1 h2
        subst h2
        exact absurd h1 (ni i)
      | succ j => exact congrArg Nat.succ (ordNd_at (ord := os) q2 (by simpa using h1) (by simpa using h2))
theorem Cst.rep {K : PySem.W.Frag} {w : Wd} (c : Cst) : Rep K w c.d c.v := by cases c <;> rfl
section
variable {K : PySem.W.Frag} {g : Fx} {w w' : Wd} {r r' : List Sl} {σ σ' : Sg} {H H' : Hp}
theorem AmsRep.ord {as bs : List Am} {vs : List V} {ord : List A0} (A : AmsRep K g w H r σ as vs) (hn : ordNd ord = true) (h : ordA as ord = some bs) : AmsRep K g w H r σ bs (ordV vs ord) := by
  refine ⟨by rw [ordA_len h, ordV_len], fun i b v e1 e2 => ?_, fun i j a b e1 e2 t1 t2 => ?_⟩
  · rcases ordA_at A.len h i b v e1 e2 with ⟨k, _, q1, q2⟩ | ⟨c, _, rfl, rfl⟩
    · exact A.at_ k b v q1 q2
    · exact Cst.rep c
  · have hi : i < (ordV vs ord).length := by rw [ordV_len, ← ordA_len h]; exact (List.getElem?_eq_some_iff.mp e1).1
    have hj : j < (ordV vs ord).length := by rw [ordV_len, ← ordA_len h]; exact (List.getElem?_eq_some_iff.mp e2).1
    rcases ordA_at A.len h i a _ e1 (List.getElem?_eq_getElem hi) with ⟨k, o1, q1, _⟩ | ⟨c, _, rfl, _⟩
    · rcases ordA_at A.len h j b _ e2 (List.getElem?_eq_getElem hj) with ⟨k2, o2, q2, _⟩ | ⟨c, _, rfl, _⟩
      · have := A.one k k2 a b q1 q2 t1 t2
        subst this
        exact ordNd_at hn o1 o2
      · cases t2
    · cases t1
theorem AmsRep.append {as bs : List Am} {vs us : List V} (h : AmsRep K g w H r σ as vs) (ht : ∀ a ∈ as, a.tmp = false) (h2 : AmsRep K g w H r σ bs us) : AmsRep K g w H r σ (as ++ bs) (vs ++ us) := by
  induction as generalizing vs with
  | nil =>
    have := h.len
    cases vs with
    | nil => exact h2
    | cons _ _ => cases this
  | cons a as ih =>
    cases vs with
    | nil => cases h.len
    | cons v vs =>
      refine AmsRep.cons (h.at_ 0 a v rfl rfl) (ht a List.mem_cons_self) (ih ⟨by simpa using h.len, fun i b u e1 e2 => h.at_ (i + 1) b u (by simpa using e1) (by simpa using e2), fun i j b c e1 e2 t1 t2 => ?_⟩ fun b hb => ht b (List.mem_cons_of_mem _ hb))
      have := h.one (i + 1) (j + 1) b c (by simpa using e1) (by simpa using e2) t1 t2
      omega
end
def repAn (K : PySem.W.Frag) (n : Nat) (b : Bool) : Fx → Wd → Hp → List Sl → Sg → List Am → List V → Prop := fun g w H r σ as vs => AmsRep K g w H r σ as vs ∧ as.length = n ∧ (b = false → ∀ a ∈ as, a.tmp = false)
def repA1 (K : PySem.W.Frag) : Fx → Wd → Hp → List Sl → Sg → Am → V → Prop := fun g w H r σ a v => AmRep K g w H r σ a v ∧ a.tmp = false
section
variable {X : Cx} {xr : XR} {W : WX} {e : Expr} {es : List Expr} {pos kpos : Pos} {n : Nat} {b : Bool} {kws : List Keyword} {nm : Option Str}
variable {m : List Sl → List C → Res Rv} {ma : List Sl → List C → Res Am} {ms ms2 : List Sl → List C → Res (List Am)}
abbrev tAn (K : PySem.W.Frag) (xr : XR) (W : WX) (n : Nat) (b : Bool) (m : List Sl → List C → Res (List Am)) : TA := tG K xr W (repAn K n b) m
abbrev tA1 (K : PySem.W.Frag) (xr : XR) (W : WX) (m : List Sl → List C → Res Am) : TE := tG K xr W (repA1 K) m
theorem pe_avar {i : Nat} {x : Str} (hN : X.N[i]? = some x) (hv : Vis X.env.scope x) (hd : (x == ("__debug__" : Str)) = false) (hcd : (x == ("__classdict__" : Str)) = false) :
    PE X (.Name x pos) (tA1 X.K xr W (argVar i)) := by
  refine pe_weak (pe_var hN hv hd hcd) fun σ H Q ⟨g, w, r, cs, R, h⟩ => ?_
  unfold argVar at h
  cases q : r[i]? with
  | none => simp only [q] at h; exact h.elim
  | some y =>
    simp only [q] at h
    cases y with
    | no => exact h.elim
    | val io d =>
      obtain ⟨v, e1, e2⟩ := R.sl i _ q
      exact ⟨v, e1, h w H v R (Ext.refl _) ⟨e2, rfl⟩⟩
    | own io lk c =>
      cases lk with
      | true => exact h.elim
      | false =>
        obtain ⟨p, e1, _⟩ := R.sl i _ q
        exact ⟨_, e1, h w H _ R (Ext.refl _) ⟨e1, rfl⟩⟩
theorem pe_aval (h : PE X e (tM X.K xr W m)) : PE X e (tA1 X.K xr W fun r cs => (m r cs).d.bind fun d r cs => .ok (.val (.val d)) r cs) := by
  refine pe_weak (pe_frz h) fun σ H Q ⟨g, w, r, cs, R, hp⟩ => ?_
  exact ⟨g, w, r, cs, R, hp.bind.mono (fun d r' cs' q w' H' v R' e' rb => q w' H' v R' e' ⟨rb, rfl⟩) fun _ _ _ q => q⟩
theorem as_cons {ta : TE} {tr : TA} {Q : List V → Hp → Prop} {σ : Sg} {H : Hp} (h : tG X.K xr W (repAn X.K (n + 1) b) (fun r cs => (ma r cs).bind fun a r cs => (ms r cs).bind fun as r cs => .ok (a :: as) r cs) σ H Q) : tCons (tA1 X.K xr W ma) (tAn X.K xr W n b ms) σ H Q := by
  obtain ⟨g, w, r, cs, R, hp⟩ := h
  refine tG.mono (R.step hp) fun x H1 ⟨w1, r1, cs1, a, R1, e1, q1, k1⟩ => ?_
  refine tG.mono (R1.step k1) fun y H2 ⟨w2, r2, cs2, as, R2, e2, q2, k2⟩ => ?_
  refine k2 w2 H2 _ R2 (Ext.refl _) ⟨AmsRep.cons (q1.1.mono q1.2 e2) q1.2 q2.1, by simp [q2.2.1], fun hb c hc => ?_⟩
  rcases List.mem_cons.mp hc with rfl | hc
  · exact q1.2
  · exact q2.2.2 hb c hc
theorem pa_an0 : PA X [] (tAn X.K xr W 0 b fun r cs => .ok [] r cs) := pa_weak pa_nil fun σ H Q ⟨g, w, r, cs, R, h⟩ => h w H [] R (Ext.refl _) ⟨AmsRep.nil, rfl, fun _ a ha => nomatch ha⟩
theorem pa_an1 (ha : PE X e (tA1 X.K xr W ma)) (hr : PA X es (tAn X.K xr W n b ms)) (hs : starEach (e :: es) X.env = (false, eval e X.env) :: starEach es X.env) :
    PA X (e :: es) (tAn X.K xr W (n + 1) b fun r cs => (ma r cs).bind fun a r cs => (ms r cs).bind fun as r cs => .ok (a :: as) r cs) :=
  pa_weak (pa_cons ha hr hs) fun σ H Q h => as_cons (ta := tA1 X.K xr W ma) (tr := tAn X.K xr W n b ms) h
theorem pa_anL (ha : PE X e (tM X.K xr W m)) (hs : starEach [e] X.env = (false, eval e X.env) :: starEach [] X.env) :
    PA X [e] (tAn X.K xr W 1 true fun r cs => (m r cs).bind fun v r cs => .ok [.val v] r cs) :=
  pa_weak (pa_cons ha pa_nil hs) fun σ H Q ⟨g, w, r, cs, R, hp⟩ => by
    refine tG.mono (R.step (rep := repV X.K) hp) fun x H1 ⟨w1, r1, cs1, v, R1, e1, q1, k1⟩ => ?_
    exact k1 w1 H1 _ R1 (Ext.refl _) ⟨AmsRep.one1 q1, rfl, fun h => nomatch h⟩
theorem pk_weak {t t' : TA} (h : PK X kws t) (k : ∀ σ H Q, t' σ H Q → t σ H Q) : PK X kws t' := ⟨fun pos pins s σ H Q I q => h.run pos pins s σ H Q I (k σ H Q q)⟩
theorem pk_an0 : PK X [] (tAn X.K xr W 0 b fun r cs => .ok [] r cs) := pk_weak pk_nil fun σ H Q ⟨g, w, r, cs, R, h⟩ => h w H [] R (Ext.refl _) ⟨AmsRep.nil, rfl, fun _ a ha => nomatch ha⟩
theorem pk_an1 (ha : PE X e (tA1 X.K xr W ma)) (hr : PK X kws (tAn X.K xr W n b ms)) :
    PK X (⟨nm, e, kpos⟩ :: kws) (tAn X.K xr W (n + 1) b fun r cs => (ma r cs).bind fun a r cs => (ms r cs).bind fun as r cs => .ok (a :: as) r cs) :=
  pk_weak (pk_cons ha hr) fun σ H Q h => as_cons (ta := tA1 X.K xr W ma) (tr := tAn X.K xr W n b ms) h
/-! ### the call -/
section
variable {gc : Gc} {f k np : Nat} {fa : Addr} {fd : FuncData} {ps ks : List Str} {ord : List A0} {x : Str} {p : Pos}
theorem run_callM (tk : Takes X W) (F : FnG X.prog X.w X.K X.mg X.base (L2.CX X.prog X.w) k fa fd ps (spOf X.K xr np (gc f))) (hy : Shy X.A) (hr : Room k X.A) (B : BindSh X.K fd ps n ks ord) (hnp : ps.length = np)
    {pins : List (Addr × Obj)} {s : Shared} {σ : Sg} {H : Hp} {g : Fx} {w : Wd} {r : List Sl} {cs : List C} {as : List Am} {vs ds : List V} {us ws : List Value} {Q : VK}
    (I : Inv X pins σ H s) (ru : Vals vs us) (rw : Vals ds ws) (hn : us.length = n) (hk : ws.length = ks.length) (R : Rel X.K g w r cs σ H) (A : AmsRep X.K g w H r σ as (vs ++ ds))
    (h : ((liftO (ordA as ord) r cs).bind fun as r cs => doCall gc f as r cs).P (Fin X.K (repV X.K) g w σ Q) (exW X.K xr W g w σ)) :
    wpAny (model X.prog X.w) X.A (call (.ref fa) us (ks.zip ws)) (EP X pins σ Q) X.xe s := by
  obtain ⟨bs, eb, h⟩ := liftO_P h.bind
  have A2 := A.ord B.nd eb
  unfold doCall at h
  split at h
  · rename_i hnd
    cases ex : amArgs r bs with
    | none => rw [ex] at h; exact h.elim
    | some xs =>
      rw [ex] at h
      obtain ⟨zs, hb, hl, hv⟩ := B.to s us ws I.kIn hn hk
      have rz := hv vs ds ru rw
      have hs : spOf X.K xr np (gc f) (ordV (vs ++ ds) ord) H Q (WE W σ) := by
        refine ⟨w, xs, cs, by rw [rz.length, hl, hnp], R.args A2 hnd ex, R.ff, R.cells, ?_⟩
        cases q : gc f xs cs with
        | no => simp only [q] at h; exact h.elim
        | ok v outs cs' =>
          simp only [q] at h
          intro w' H' y P hy
          obtain ⟨R', hret⟩ := R.call A2 hnd ex P
          exact h w' H' y R' P.ext (hret v y hy)
        | ex e outs cs' =>
          simp only [q] at h
          intro w' H' cls d P hx
          obtain ⟨R', _⟩ := R.call A2 hnd ex P
          exact h w' H' cls d R' P.ext hx
      refine wpAny_call (codeAny_mono (F.go X.A X.stack s H ⟨us, ks.zip ws⟩ zs (ordV (vs ++ ds) ord) Q (WE W σ) hy hr I.env0 hb rz hs) fun rr s' hq => ?_)
      cases rr with
      | error e => exact passAt tk σ pins H s e s' I hq
      | ok fl =>
        cases fl with
        | ret u => exact I.after hq
        | next => exact False.elim hq
        | brk => exact False.elim hq
        | cont => exact False.elim hq
  · exact h.elim
theorem evalArgs_none {M : Model} {A : Around} {E : Value → Shared → Prop} {s : Shared} {f : Value} {Q : Args → Shared → Prop}
    (h : wpAny M A (spliced []) (fun vs s' => Q ⟨vs, []⟩ s') E s) : wpAny M A (evalArgs f true [] []) Q E s := by
  unfold evalArgs
  show wpAny M A (spliced [] >>= _) Q E s
  refine wpAny_bind (wpAny_mono h (fun vs s' h' => ?_) fun _ _ x => x)
  exact wpAny_bind (wpAny_pure (wpAny_holding (wpAny_bind (wpAny_pure (wpAny_bind (wpAny_pure (wpAny_pure h')))))))
theorem evalArgs_kwNone {M : Model} {A : Around} {E : Value → Shared → Prop} {s : Shared} {env : Env} {f : Value} {pos : Pos} {kws : List Keyword} {Q : Args → Shared → Prop}
    (hall : (backToKw pos (keywordEach kws env)).all (·.1.isSome) = true)
    (h : wpAny M A (spliced []) (fun vs s₁ => wpAny M A (evalAll ((backToKw pos (keywordEach kws env)).map (·.2)))
      (fun ks s₂ => Q ⟨vs, ((backToKw pos (keywordEach kws env)).filterMap Prod.fst).zip ks⟩ s₂) E s₁) E s) :
    wpAny M A (evalArgs f true (backTo pos (starEach [] env)) (backToKw pos (keywordEach kws env))) Q E s := by
  have h2 : wpAny M A (spliced []) (fun vs s₁ => wpAny M A (evalAll ((backToKw pos (keywordEach kws env)).map Prod.snd))
      (fun ks s₂ => Q ⟨vs, ((backToKw pos (keywordEach kws env)).filterMap Prod.fst).zip ks⟩ s₂) E s₁) E s := h
  show wpAny M A (evalArgs f true [] (backToKw pos (keywordEach kws env))) Q E s
  unfold evalArgs
  show wpAny M A (spliced [] >>= _) Q E s
  refine wpAny_bind (wpAny_mono h2 (fun vs s₁ h₁ => ?_) fun _ _ x => x)
  refine wpAny_bind (wpAny_pure ?_)
  refine wpAny_holding ?_
  simp only [hall, if_true]
  refine wpAny_bind (wpAny_mono h₁ (fun ks s₂ h₂ => ?_) fun _ _ x => x)
  exact wpAny_bind (wpAny_pure (wpAny_pure h₂))
/-- f(..) with positional arguments -/
theorem pe_callP (tk : Takes X W) (F : FnG X.prog X.w X.K X.mg X.base (L2.CX X.prog X.w) k fa fd ps (spOf X.K xr np (gc f))) (hy : Shy X.A) (hr : Room k X.A) (B : BindSh X.K fd ps n [] ord) (hnp : ps.length = np)
    (hg : Gl X x) (hm : X.mg x = some (.ref fa)) (hk : PySem.W.keepIn X.K (.ref fa) = true) (hdb : (x == ("__debug__" : Str)) = false) (ha : PA X es (tAn X.K xr W n b ms))
    (he : es = [] ∨ ∃ e0 er, es = e0 :: er ∧ starEach (e0 :: er) X.env = (false, eval e0 X.env) :: starEach er X.env ∧ (backTo pos (starEach er X.env)).any (·.1) = false) :
    PE X (.Call (.Name x p) es [] pos) (tM X.K xr W fun r cs => (ms r cs).bind fun as r cs => (Res.ok [] r cs).bind fun bs r cs => (liftO (ordA (as ++ bs) ord) r cs).bind fun as r cs => doCall gc f as r cs) := by
  refine ⟨fun pins s σ H Q I ⟨g, w, r, cs, R, hp⟩ => ?_⟩
  refine wpAny_Call_Name_kw (ld_glob I hg hm ?_ hdb)
  have hA := thn (ha.run pos pins s σ H _ I (R.step hp)) fun us s1 ⟨vs, H1, I1, rv, w1, r1, cs1, as, R1, e1, ⟨A, hl, _⟩, k1⟩ =>
    (⟨I1.kIn, run_callM (ks := []) (ws := []) (ds := []) tk F hy hr B hnp I1 rv .nil (by rw [← rv.length, ← A.len]; exact hl) rfl R1 (by rw [List.append_nil]; exact A) (by
      have k1 : ((liftO (ordA (as ++ []) ord) r1 cs1).bind fun as r cs => doCall gc f as r cs).P (Fin X.K (repV X.K) g w1 σ Q) (exW X.K xr W g w1 σ) := k1
      rw [List.append_nil] at k1
      exact k1)⟩ : X.K.In s1.heap ∧ wpAny (model X.prog X.w) X.A (call (.ref fa) us) (EP X pins σ Q) X.xe s1)
  rcases he with rfl | ⟨e0, er, rfl, h1, h2⟩
  · refine PySem.W.callWith_of rfl (PySem.W.keeps_K hk) ?_
    exact evalArgs_none hA
  · exact PySem.W.callWith_K (h₀ := X.base) I.ok.mod.kin hk hA h1 h2
/-- f(.., k = v, ..) -/
theorem pe_callKM {n2 : Nat} {b2 : Bool} (tk : Takes X W) (F : FnG X.prog X.w X.K X.mg X.base (L2.CX X.prog X.w) k fa fd ps (spOf X.K xr np (gc f))) (hy : Shy X.A) (hr : Room k X.A) (B : BindSh X.K fd ps n ks ord) (hnp : ps.length = np) (hn2 : n2 = ks.length)
    (hg : Gl X x) (hm : X.mg x = some (.ref fa)) (hk : PySem.W.keepIn X.K (.ref fa) = true) (hdb : (x == ("__debug__" : Str)) = false) (ha : PA X es (tAn X.K xr W n false ms)) (hkw : PK X kws (tAn X.K xr W n2 b2 ms2))
    (he : es = [] ∨ ∃ e0 er, es = e0 :: er ∧ starEach (e0 :: er) X.env = (false, eval e0 X.env) :: starEach er X.env)
    (hall : (backToKw pos (keywordEach kws X.env)).all (·.1.isSome) = true) (hks : (backToKw pos (keywordEach kws X.env)).filterMap (·.1) = ks)
    (hpl : ((backTo pos (starEach es X.env)).any (·.1) || (backToKw pos (keywordEach kws X.env)).any (·.1.isNone)) = false) :
    PE X (.Call (.Name x p) es kws pos) (tM X.K xr W fun r cs => (ms r cs).bind fun as r cs => (ms2 r cs).bind fun bs r cs => (liftO (ordA (as ++ bs) ord) r cs).bind fun as r cs => doCall gc f as r cs) := by
  refine ⟨fun pins s σ H Q I ⟨g, w, r, cs, R, hp⟩ => ?_⟩
  refine wpAny_Call_Name_kw (ld_glob I hg hm ?_ hdb)
  have hA := thn (ha.run pos pins s σ H _ I (R.step hp)) fun us s1 ⟨vs, H1, I1, rv, w1, r1, cs1, as, R1, e1, ⟨A, hl, nt⟩, k1⟩ =>
    thn (hkw.run pos pins s1 σ H1 _ I1 (R1.step k1)) fun ws s2 ⟨ds, H2, I2, rd, w2, r2, cs2, bs, R2, e2, ⟨A2, hl2, _⟩, k2⟩ =>
    (⟨I2.kIn, by
      rw [hks]
      exact run_callM tk F hy hr B hnp I2 rv rd (by rw [← rv.length, ← A.len]; exact hl) (by rw [← rd.length, ← A2.len, ← hn2]; exact hl2) R2 ((A.mono (nt rfl) e2).append (nt rfl) A2) k2⟩ : X.K.In s2.heap ∧ wpAny (model X.prog X.w) X.A (call (.ref fa) us (((backToKw pos (keywordEach kws X.env)).filterMap Prod.fst).zip ws)) (EP X pins σ Q) X.xe s2)
  rcases he with rfl | ⟨e0, er, rfl, h1⟩
  · refine PySem.W.callWith_of hpl (PySem.W.keeps_K hk) ?_
    refine evalArgs_kwNone hall ?_
    exact hA
  · exact PySem.W.callWith_KW (h₀ := X.base) I.ok.mod.kin hk hall hA hpl h1
end
end
end Vi

namespace Vi
open PySem PySem.Spec L2
/-! ### locks -/
theorem lock1_len {b : Bool} {i : Nat} {r : List Sl} : (lock1 b i r).length = r.length := by
  unfold lock1
  cases r[i]? with
  | none => rfl
  | some x => cases x <;> simp
theorem lock1_own {b : Bool} {i j : Nat} {r : List Sl} {io lk : Bool} {c : C} (h : r[j]? = some (.own io lk c)) : (lock1 b i r)[j]? = some (.own io (if j = i then b else lk) c) := by
  by_cases q : j = i
  · subst q
    unfold lock1
    rw [h]
    have := (List.getElem?_eq_some_iff.mp h).1
    simp [List.getElem?_set_self this]
  · unfold lock1
    simp only [q, if_false]
    cases e : r[i]? with
    | none => exact h
    | some x => cases x <;> simp [List.getElem?_set_ne (Ne.symm q), h]
def isOwn : Sl → Bool
  | .own _ _ _ => true
  | _ => false
theorem lock1_oth {b : Bool} {i j : Nat} {r : List Sl} {x : Sl} (h : r[j]? = some x) (hx : isOwn x = false) : (lock1 b i r)[j]? = some x := by
  by_cases q : j = i
  · subst q
    unfold lock1
    rw [h]
    cases x with
    | own _ _ _ => cases hx
    | _ => exact h
  · unfold lock1
    cases e : r[i]? with
    | none => exact h
    | some y => cases y <;> simp [List.getElem?_set_ne (Ne.symm q), h]
theorem lockAll_len {b : Bool} : ∀ {is : List Nat} {r : List Sl}, (lockAll b is r).length = r.length
  | [], _ => rfl
  | i :: is, r => by
    show (lockAll b is (lock1 b i r)).length = _
    rw [lockAll_len, lock1_len]
theorem lockAll_own {b : Bool} {j : Nat} {io : Bool} {c : C} : ∀ {is : List Nat} {r : List Sl} {lk : Bool}, r[j]? = some (.own io lk c) → (lockAll b is r)[j]? = some (.own io (if j ∈ is then b else lk) c)
  | [], r, lk, h => by simpa [lockAll] using h
  | i :: is, r, lk, h => by
    show (lockAll b is (lock1 b i r))[j]? = _
    rw [lockAll_own (lock1_own h)]
    by_cases q : j ∈ is <;> by_cases q2 : j = i <;> simp [q, q2]
theorem lockAll_oth {b : Bool} {j : Nat} {x : Sl} (hx : isOwn x = false) : ∀ {is : List Nat} {r : List Sl}, r[j]? = some x → (lockAll b is r)[j]? = some x
  | [], r, h => h
  | i :: is, r, h => lockAll_oth hx (is := is) (lock1_oth h hx)
/-- a slot of a locked state, as it was -/
theorem lockAll_back {b : Bool} {is : List Nat} {r : List Sl} {j : Nat} {y : Sl} (h : (lockAll b is r)[j]? = some y) : ∃ x, r[j]? = some x ∧ ((isOwn x = false ∧ y = x) ∨ ∃ io lk c, x = .own io lk c ∧ y = .own io (if j ∈ is then b else lk) c) := by
  have hl : j < r.length := by
    have := (List.getElem?_eq_some_iff.mp h).1
    rwa [lockAll_len] at this
  have e : r[j]? = some r[j] := List.getElem?_eq_getElem hl
  refine ⟨r[j], e, ?_⟩
  generalize r[j] = x at e
  cases x with
  | own io lk c =>
    rw [lockAll_own e] at h
    cases h
    exact .inr ⟨io, lk, c, rfl, rfl⟩
  | no => rw [lockAll_oth rfl e] at h; cases h; exact .inl ⟨rfl, rfl⟩
  | val io d => rw [lockAll_oth rfl e] at h; cases h; exact .inl ⟨rfl, rfl⟩
/-- what is locked now -/
def lk1 (x : Option Sl) (y : Option (Option V)) : Option (Addr × C) := match x, y with
  | some (.own _ true c), some (some (.ref p)) => some (p, c)
  | _, _ => none
def lkOf (r : List Sl) (σ : Sg) : List (Option (Addr × C)) := (List.range r.length).map fun i => lk1 r[i]? σ[i]?
theorem lkOf_at {r : List Sl} {σ : Sg} {i : Nat} {io : Bool} {c : C} {p : Addr} (h : r[i]? = some (.own io true c)) (h2 : σ[i]? = some (some (.ref p))) : (lkOf r σ)[i]? = some (some (p, c)) := by
  unfold lkOf
  have := (List.getElem?_eq_some_iff.mp h).1
  rw [List.getElem?_map, List.getElem?_range this, Option.map_some, h, h2]
  rfl
theorem of_lkOf {r : List Sl} {σ : Sg} {i : Nat} {c : C} {p : Addr} (h : (lkOf r σ)[i]? = some (some (p, c))) : σ[i]? = some (some (.ref p)) ∧ ∃ io, r[i]? = some (.own io true c) := by
  unfold lkOf at h
  rw [List.getElem?_map] at h
  cases q : (List.range r.length)[i]? with
  | none => simp [q] at h
  | some n =>
    obtain ⟨hn, rfl⟩ : i < r.length ∧ i = n := by
      have := List.getElem?_eq_some_iff.mp q
      obtain ⟨a, b⟩ := this
      simp at a b
      exact ⟨a, b⟩
    simp only [q, Option.map_some] at h
    injection h with h
    unfold lk1 at h
    split at h
    · rename_i io c' p' e1 e2
      cases h
      exact ⟨e2, io, e1⟩
    · cases h
def lkFx (g : Fx) (r : List Sl) (σ : Sg) : Fx := { g with lk := lkOf r σ }
section
variable {K : PySem.W.Frag} {g : Fx} {w w' : Wd} {r r' : List Sl} {cs cs' : List C} {σ σ' : Sg} {H H' : Hp}
/-- a state in which the slots is are locked -/
theorem Rel.lock (R : Rel K g w r cs σ H) (is : List Nat) : Rel K (lkFx g (lockAll true is r) σ) w (lockAll true is r) cs σ H where
  ff := R.ff
  f0 := R.f0
  gw := R.gw
  al := R.al
  ae := R.ae
  keep := R.keep
  fk := R.fk
  len := by rw [lockAll_len]; exact R.len
  sl := fun i x e => by
    obtain ⟨y, e1, e2⟩ := lockAll_back e
    have q := R.sl i y e1
    rcases e2 with ⟨_, rfl⟩ | ⟨io, lk, c, rfl, rfl⟩
    · cases x with
      | no => trivial
      | val io d => exact q
      | own _ _ _ => cases ‹isOwn _ = false›
    · exact q
  dist := fun i j p ⟨io, lk, c, e1, e2⟩ ⟨io', lk', c', e1', e2'⟩ => by
    obtain ⟨y, a1, a2⟩ := lockAll_back e1
    obtain ⟨y', b1, b2⟩ := lockAll_back e1'
    rcases a2 with ⟨z, rfl⟩ | ⟨io, lk, c, rfl, z⟩
    · cases z
    · rcases b2 with ⟨z', rfl⟩ | ⟨io', lk', c', rfl, z'⟩
      · cases z'
      · exact R.dist i j p ⟨_, _, _, a1, e2⟩ ⟨_, _, _, b1, e2'⟩
  io := fun i p e => by
    obtain ⟨s1, x, e1, e2⟩ := R.io i p e
    refine ⟨s1, ?_⟩
    cases x with
    | own io lk c => exact ⟨_, lockAll_own e1, e2⟩
    | no => exact ⟨_, lockAll_oth rfl e1, e2⟩
    | val _ _ => exact ⟨_, lockAll_oth rfl e1, e2⟩
  ce := ⟨R.ce.len, R.ce.nd, R.ce.at_⟩
  lk := fun i p c e => of_lkOf e
/-- .. and back -/
theorem Rel.unlock (R0 : Rel K g w r cs σ H) {is : List Nat} (hu : ∀ j ∈ is, ∃ io c, r[j]? = some (.own io false c)) (R : Rel K (lkFx g (lockAll true is r) σ) w' r' cs' σ' H') : Rel K g w' (lockAll false is r') cs' σ' H' where
  ff := R.ff
  f0 := R.f0
  gw := R.gw
  al := R.al
  ae := R.ae
  keep := R.keep
  fk := R.fk
  len := by rw [lockAll_len]; exact R.len
  sl := fun i x e => by
    obtain ⟨y, e1, e2⟩ := lockAll_back e
    have q := R.sl i y e1
    rcases e2 with ⟨_, rfl⟩ | ⟨io, lk, c, rfl, rfl⟩
    · cases x with
      | no => trivial
      | val io d => exact q
      | own _ _ _ => cases ‹isOwn _ = false›
    · exact q
  dist := fun i j p ⟨io, lk, c, e1, e2⟩ ⟨io', lk', c', e1', e2'⟩ => by
    obtain ⟨y, a1, a2⟩ := lockAll_back e1
    obtain ⟨y', b1, b2⟩ := lockAll_back e1'
    rcases a2 with ⟨z, rfl⟩ | ⟨io, lk, c, rfl, z⟩
    · cases z
    · rcases b2 with ⟨z', rfl⟩ | ⟨io', lk', c', rfl, z'⟩
      · cases z'
      · exact R.dist i j p ⟨_, _, _, a1, e2⟩ ⟨_, _, _, b1, e2'⟩
  io := fun i p e => by
    obtain ⟨s1, x, e1, e2⟩ := R.io i p e
    refine ⟨s1, ?_⟩
    cases x with
    | own io lk c => exact ⟨_, lockAll_own e1, e2⟩
    | no => exact ⟨_, lockAll_oth rfl e1, e2⟩
    | val _ _ => exact ⟨_, lockAll_oth rfl e1, e2⟩
  ce := ⟨R.ce.len, R.ce.nd, R.ce.at_⟩
  lk := fun i p c e => by
    obtain ⟨s1, io, e1⟩ := R0.lk i p c e
    have ni : i ∉ is := fun z => by
      obtain ⟨io', c', e2⟩ := hu i z
      rw [e1] at e2
      cases e2
    have e3 := lockAll_own (b := true) (is := is) e1
    rw [if_neg ni] at e3
    obtain ⟨s2, io2, e4⟩ := R.lk i p c (lkOf_at e3 s1)
    have e5 := lockAll_own (b := false) (is := is) e4
    rw [if_neg ni] at e5
    exact ⟨s2, io2, e5⟩
theorem OwnAt.unlock {is : List Nat} {i : Nat} {p : Addr} {b : Bool} (h : OwnAt (lockAll b is r) σ i p) : OwnAt r σ i p := by
  obtain ⟨io, lk, c, e1, e2⟩ := h
  obtain ⟨y, a1, a2⟩ := lockAll_back e1
  rcases a2 with ⟨z, rfl⟩ | ⟨io, lk, c, rfl, z⟩
  · cases z
  · exact ⟨_, _, _, a1, e2⟩
end
/-! ### what a loop walks -/
/-- the list at a: ds, for as long as the frame's locks hold -/
def LBase (K : PySem.W.Frag) (g : Fx) (w : Wd) (a : Addr) (ds : List D) : Prop := (∃ xs, SqL K w.F a xs ∧ Reps K w ds xs) ∨ ∃ j : Nat, g.lk[j]? = some (some (a, C.lst ds))
inductive SrcJ (K : PySem.W.Frag) (g : Fx) (w : Wd) : It → List D → Prop where
  | lst {a : Addr} {ds : List D} : LBase K g w a ds → SrcJ K g w (Itl K a) ds
  | tup {a : Addr} {ds : List D} {xs : List V} : SqT K w.F a xs → Reps K w ds xs → SrcJ K g w (Itt K a) ds
  | rng {lo : Int} {n : Nat} : SrcJ K g w (Itr lo n) (rangeD lo n)
  | enm {a : Addr} {ds : List D} : LBase K g w a ds → SrcJ K g w (Ite K a) (enumD ds)
  | zip {a b : Addr} {ds es : List D} : LBase K g w a ds → LBase K g w b es → SrcJ K g w (Itz K a b) (zipD ds es)
  | keys {a : Addr} {o : Obj} {kvs : List (Key × V)} : w.F a = some (.frz o (.dK kvs)) → SrcJ K g w (Itk a o kvs) ((kvs.map (·.1)).map Key.d)
  | vals {a : Addr} {o : Obj} {kvs : List (Key × V)} {ds : List D} : w.F a = some (.frz o (.dK kvs)) → Reps K w ds (kvs.map (·.2)) → SrcJ K g w (Itd a o kvs) ds
  | items {a : Addr} {o : Obj} {kvs : List (Key × V)} {ds : List D} : w.F a = some (.frz o (.dK kvs)) → Reps K w ds (kvs.map (·.2)) → SrcJ K g w (Iti a o kvs) (itemsD (kvs.map (·.1)) ds)
section
variable {K : PySem.W.Frag} {g : Fx} {w w' : Wd} {r r' : List Sl} {cs cs' : List C} {σ σ' : Sg} {H H' : Hp}
theorem LBase.mono {a : Addr} {ds : List D} (h : LBase K g w a ds) (e : Ext w w') : LBase K g w' a ds := by
  rcases h with ⟨xs, h1, h2⟩ | h
  · exact .inl ⟨xs, e.1.seq h1, h2.mono e⟩
  · exact .inr h
theorem SrcJ.mono {J : It} {ds : List D} (h : SrcJ K g w J ds) (e : Ext w w') : SrcJ K g w' J ds := by
  cases h with
  | lst h => exact .lst (h.mono e)
  | tup h1 h2 => exact .tup (same_tup e.1 h1) (h2.mono e)
  | rng => exact .rng
  | enm h => exact .enm (h.mono e)
  | zip h1 h2 => exact .zip (h1.mono e) (h2.mono e)
  | keys h => exact .keys (e.1 _ _ h)
  | vals h h2 => exact .vals (e.1 _ _ h) (h2.mono e)
  | items h h2 => exact .items (e.1 _ _ h) (h2.mono e)
theorem LBase.here {a : Addr} {ds : List D} (h : LBase K g w a ds) (R : Rel K g w r cs σ H) : ∃ xs, SqL K H a xs ∧ Reps K w ds xs := by
  rcases h with ⟨xs, h1, h2⟩ | ⟨j, h⟩
  · exact ⟨xs, R.ff.seq h1, h2⟩
  · obtain ⟨s1, io, e1⟩ := R.lk j a _ h
    obtain ⟨⟨vs, h1, h2⟩, _⟩ := R.mayW e1 s1
    exact ⟨vs, SqL.of h1, h2⟩
theorem enumD_at {ds : List D} {i : Nat} {d : D} (h : (enumD ds)[i]? = some d) : ∃ x, ds[i]? = some x ∧ d = .tup [.int (i : Nat), x] := by
  unfold enumD at h
  rw [List.getElem?_map, List.getElem?_zipIdx] at h
  cases q : ds[i]? with
  | none => simp [q] at h
  | some x =>
    simp [q] at h
    exact ⟨x, rfl, h.symm⟩
theorem enumD_len {ds : List D} : (enumD ds).length = ds.length := by simp [enumD]
theorem zipD_at {ds es : List D} {i : Nat} {d : D} (h : (zipD ds es)[i]? = some d) : ∃ x y, ds[i]? = some x ∧ es[i]? = some y ∧ d = .tup [x, y] := by
  unfold zipD at h
  rw [List.getElem?_map] at h
  cases q : (ds.zip es)[i]? with
  | none => simp [q] at h
  | some p =>
    rw [List.getElem?_zip_eq_some] at q
    rw [show (ds.zip es)[i]? = some p from List.getElem?_zip_eq_some.mpr q] at h
    simp at h
    exact ⟨p.1, p.2, q.1, q.2, h.symm⟩
theorem zipD_len {ds es : List D} : (zipD ds es).length = min ds.length es.length := by simp [zipD]
theorem itemsD_at : ∀ {ks : List Key} {ds : List D} {i : Nat} {d : D}, (itemsD ks ds)[i]? = some d → ∃ k x, ks[i]? = some k ∧ ds[i]? = some x ∧ d = .tup [Key.d k, x]
  | [], _, _, _, h => by simp [itemsD] at h
  | _ :: _, [], _, _, h => by simp [itemsD] at h
  | k :: ks, x :: ds, 0, d, h => by
    simp [itemsD] at h
    exact ⟨k, x, rfl, rfl, h.symm⟩
  | k :: ks, x :: ds, i + 1, d, h => by
    obtain ⟨k', x', h1, h2, h3⟩ := itemsD_at (ks := ks) (ds := ds) (i := i) (d := d) (by simpa [itemsD] using h)
    exact ⟨k', x', by simpa using h1, by simpa using h2, h3⟩
theorem itemsD_len {ks : List Key} {ds : List D} : (itemsD ks ds).length = min ks.length ds.length := by simp [itemsD]
theorem kd_rep {K : PySem.W.Frag} {w : Wd} (k : Key) : Rep K w (Key.d k) (kV k) := by cases k <;> exact rfl
theorem kvs_at {kvs : List (Key × V)} {i : Nat} {k : Key} (h : (kvs.map (·.1))[i]? = some k) : ∃ v, kvs[i]? = some (k, v) := by
  rw [List.getElem?_map] at h
  obtain ⟨p, e, rfl⟩ := Option.map_eq_some_iff.mp h
  exact ⟨p.2, e⟩
theorem SrcJ.go {J : It} {ds : List D} (S : SrcJ K g w J ds) (R : Rel K g w r cs σ H) {i : Nat} {d : D} (h : ds[i]? = some d) : J.go i H := by
  cases S with
  | lst b =>
    obtain ⟨xs, h1, h2⟩ := b.here R
    obtain ⟨v, e, _⟩ := h2.get h
    exact ⟨xs, v, h1, e⟩
  | tup h1 h2 =>
    obtain ⟨v, e, _⟩ := h2.get h
    exact ⟨_, v, same_tup R.ff h1, e⟩
  | rng =>
    have := (List.getElem?_eq_some_iff.mp h).1
    simp [rangeD] at this
    exact this
  | enm b =>
    obtain ⟨xs, h1, h2⟩ := b.here R
    obtain ⟨x, e1, _⟩ := enumD_at h
    obtain ⟨v, e, _⟩ := h2.get e1
    exact ⟨xs, v, h1, e⟩
  | zip b b2 =>
    obtain ⟨xs, h1, h2⟩ := b.here R
    obtain ⟨ys, k1, k2⟩ := b2.here R
    obtain ⟨x, y, e1, e2, _⟩ := zipD_at h
    obtain ⟨v, e, _⟩ := h2.get e1
    obtain ⟨u, e', _⟩ := k2.get e2
    exact ⟨xs, ys, v, u, h1, k1, e, e'⟩
  | keys h1 =>
    have := (List.getElem?_eq_some_iff.mp h).1
    exact ⟨R.ff _ _ h1, by simpa using this⟩
  | vals h1 h2 =>
    have := (List.getElem?_eq_some_iff.mp h).1
    exact ⟨R.ff _ _ h1, by rw [← h2.length] at this; simpa using this⟩
  | items h1 h2 =>
    have := (List.getElem?_eq_some_iff.mp h).1
    rw [itemsD_len] at this
    exact ⟨R.ff _ _ h1, by simp at this; omega⟩
theorem SrcJ.stop {J : It} {ds : List D} (S : SrcJ K g w J ds) (R : Rel K g w r cs σ H) : J.stop ds.length H := by
  cases S with
  | lst b =>
    obtain ⟨xs, h1, h2⟩ := b.here R
    exact ⟨xs, h1, by rw [h2.length]; exact Nat.le_refl _⟩
  | tup h1 h2 => exact ⟨_, same_tup R.ff h1, by rw [h2.length]; exact Nat.le_refl _⟩
  | rng => simp [rangeD, Itr]
  | enm b =>
    obtain ⟨xs, h1, h2⟩ := b.here R
    exact ⟨xs, h1, by rw [h2.length, enumD_len]; exact Nat.le_refl _⟩
  | zip b b2 =>
    obtain ⟨xs, h1, h2⟩ := b.here R
    obtain ⟨ys, k1, k2⟩ := b2.here R
    exact ⟨xs, ys, h1, k1, by rw [h2.length, k2.length, zipD_len]; omega⟩
  | keys h1 => exact ⟨R.ff _ _ h1, by simp⟩
  | vals h1 h2 =>
    have := h2.length
    exact ⟨R.ff _ _ h1, by simp at this; omega⟩
  | items h1 h2 =>
    have := h2.length
    refine ⟨R.ff _ _ h1, ?_⟩
    rw [itemsD_len]
    simp at this ⊢
    omega
theorem SrcJ.yld {J : It} {ds : List D} (S : SrcJ K g w J ds) (R : Rel K g w r cs σ H) {i : Nat} {d : D} {v : V} (h : ds[i]? = some d) (y : J.yld i H v H') : ∃ w', PureX w H w' H' ∧ Rep K w' d v := by
  cases S with
  | lst b =>
    obtain ⟨xs, h1, h2⟩ := b.here R
    obtain ⟨u, e, r'⟩ := h2.get h
    obtain ⟨rfl, y2⟩ := y
    have := y2 xs h1
    rw [e] at this
    cases this
    exact ⟨w, PureX.refl R.ff, r'⟩
  | tup h1 h2 =>
    obtain ⟨u, e, r'⟩ := h2.get h
    obtain ⟨rfl, y2⟩ := y
    have := y2 _ (same_tup R.ff h1)
    rw [e] at this
    cases this
    exact ⟨w, PureX.refl R.ff, r'⟩
  | rng =>
    obtain ⟨rfl, rfl⟩ := y
    have hl := (List.getElem?_eq_some_iff.mp h).1
    simp [rangeD] at hl
    simp [rangeD, hl] at h
    subst h
    exact ⟨w, PureX.refl R.ff, rfl⟩
  | enm b =>
    obtain ⟨xs, h1, h2⟩ := b.here R
    obtain ⟨x, e1, rfl⟩ := enumD_at h
    obtain ⟨u, e, r'⟩ := h2.get e1
    obtain ⟨T, x', rfl, hT, rfl, y2⟩ := y
    have := y2 xs h1
    rw [e] at this
    cases this
    exact ⟨_, PureX.new R.ff hT, newT hT R.ff (ds := [.int (i : Nat), x]) ⟨_, _, rfl, rfl, ⟨_, _, rfl, r', rfl⟩⟩⟩
  | zip b b2 =>
    obtain ⟨xs, h1, h2⟩ := b.here R
    obtain ⟨ys, k1, k2⟩ := b2.here R
    obtain ⟨x, y', e1, e2, rfl⟩ := zipD_at h
    obtain ⟨u, e, r'⟩ := h2.get e1
    obtain ⟨u2, e', r2⟩ := k2.get e2
    obtain ⟨T, a1, a2, rfl, hT, rfl, y2, y3⟩ := y
    have q := y2 xs h1
    rw [e] at q
    cases q
    have q := y3 ys k1
    rw [e'] at q
    cases q
    exact ⟨_, PureX.new R.ff hT, newT hT R.ff (ds := [x, y']) ⟨_, _, rfl, r', ⟨_, _, rfl, r2, rfl⟩⟩⟩
  | keys h1 =>
    obtain ⟨rfl, k, v', e1, rfl⟩ := y
    rw [List.getElem?_map, List.getElem?_map, e1] at h
    cases h
    exact ⟨w, PureX.refl R.ff, kd_rep k⟩
  | vals h1 h2 =>
    obtain ⟨rfl, k, e1⟩ := y
    obtain ⟨u, e, r'⟩ := h2.get h
    rw [List.getElem?_map, e1] at e
    cases e
    exact ⟨w, PureX.refl R.ff, r'⟩
  | items h1 h2 =>
    obtain ⟨k', x', a1, a2, rfl⟩ := itemsD_at h
    obtain ⟨T, k, u, e1, rfl, hT, rfl⟩ := y
    obtain ⟨u', e, r'⟩ := h2.get a2
    rw [List.getElem?_map, e1] at e a1
    cases e
    cases a1
    exact ⟨_, PureX.new R.ff hT, newT hT R.ff (ds := [Key.d k, x']) ⟨_, _, rfl, kd_rep k, ⟨_, _, rfl, r', rfl⟩⟩⟩
end
end Vi

namespace Vi
open PySem PySem.Spec L2
/-! ### statements: readings -/
def FinS (K : PySem.W.Frag) (g : Fx) (w : Wd) (D : Ends) : Fl → List Sl → List C → Prop := fun fl r cs => ∀ w' σ' H', Rel K g w' r cs σ' H' → Ext w w' → match fl with
  | .nx => D.nx σ' H'
  | .bk => D.bk σ' H'
  | .ct => D.ct σ' H'
  | .rt v => ∀ x, RvRep K g w' H' r σ' v x → D.rt x H'
def exWS (K : PySem.W.Frag) (xr : XR) (W : WX) (g : Fx) (w : Wd) : Ex → List Sl → List C → Prop := fun x r cs => ∀ w' σ' H' cls d, Rel K g w' r cs σ' H' → Ext w w' → xr w' H' x cls d → W cls d σ' H'
def tS (K : PySem.W.Frag) (xr : XR) (W : WX) (m : List Sl → List C → Res Fl) : TS := fun D σ H => ∃ g w r cs, g.E0 = g.H0 ∧ Rel K g w r cs σ H ∧ (m r cs).P (FinS K g w D) (exWS K xr W g w)
section
variable {K : PySem.W.Frag} {xr : XR} {W : WX} {α β : Type} {rep : Fx → Wd → Hp → List Sl → Sg → α → β → Prop} {g : Fx} {w w1 w' : Wd} {r r' : List Sl} {cs : List C} {σ : Sg} {H : Hp} {Dn : Ends}
theorem FinS.mono {Dn' : Ends} {fl : Fl} (h : FinS K g w Dn fl r cs) (e : Ext w w1) (h1 : ∀ σ H, Dn.nx σ H → Dn'.nx σ H) (h2 : ∀ x H, Dn.rt x H → Dn'.rt x H) (h3 : ∀ σ H, Dn.bk σ H → Dn'.bk σ H) (h4 : ∀ σ H, Dn.ct σ H → Dn'.ct σ H) : FinS K g w1 Dn' fl r cs := fun w' σ' H' R e' => by
  have q := h w' σ' H' R (e.trans e')
  cases fl with
  | nx => exact h1 _ _ q
  | bk => exact h3 _ _ q
  | ct => exact h4 _ _ q
  | rt v => exact fun x hx => h2 _ _ (q x hx)
theorem FinS.ext {fl : Fl} (h : FinS K g w Dn fl r cs) (e : Ext w w1) : FinS K g w1 Dn fl r cs := fun w' σ' H' R e' => h w' σ' H' R (e.trans e')
theorem exWS.ext {x : Ex} (h : exWS K xr W g w x r cs) (e : Ext w w1) : exWS K xr W g w1 x r cs := fun w' σ' H' cls d R e' q => h w' σ' H' cls d R (e.trans e') q
/-- an expression's step in a statement -/
theorem Rel.stepS {m : List Sl → List C → Res α} {f : α → List Sl → List C → Res Fl} (R : Rel K g w r cs σ H) (h : ((m r cs).bind f).P (FinS K g w Dn) (exWS K xr W g w)) :
    tG K xr W rep m σ H fun b H1 => ∃ w1 r1 cs1 a, Rel K g w1 r1 cs1 σ H1 ∧ Ext w w1 ∧ rep g w1 H1 r1 σ a b ∧ (f a r1 cs1).P (FinS K g w1 Dn) (exWS K xr W g w1) := by
  refine ⟨g, w, r, cs, R, h.bind.mono (fun a r1 cs1 z => ?_) fun x r cs z w' H' cls d R' e' q => z w' σ H' cls d R' e' q⟩
  intro w1 H1 b R1 e1 q
  exact ⟨w1, r1, cs1, a, R1, e1, q, z.mono (fun c r cs y => y.ext e1) fun x r cs y => y.ext e1⟩
/-! ### stores -/
theorem setS_some {i : Nat} {x : Sl} (h : setS i x r = some r') : r' = r.set i x ∧ ∃ y, r[i]? = some y ∧ y.isIo = false ∧ ∀ io c, y ≠ .own io true c := by
  unfold setS at h
  cases e : r[i]? with
  | none => simp [e] at h
  | some y =>
    cases y with
    | no =>
      simp [e] at h
      exact ⟨h.symm, _, rfl, rfl, fun _ _ z => nomatch z⟩
    | val io d =>
      cases io with
      | true => simp [e] at h
      | false =>
        simp [e] at h
        exact ⟨h.symm, _, rfl, rfl, fun _ _ z => nomatch z⟩
    | own io lk c =>
      cases io with
      | true => simp [e] at h
      | false =>
        cases lk with
        | true => simp [e] at h
        | false =>
          simp [e] at h
          exact ⟨h.symm, _, rfl, rfl, fun _ _ z => nomatch z⟩
/-- a slot gets a new content, or is emptied -/
theorem Rel.put (R : Rel K g w r cs σ H) {i : Nat} {x y : Sl} {s : Option V} (hy : r[i]? = some y) (hio : y.isIo = false) (hlk : ∀ io c, y ≠ .own io true c)
    (hx : SlRep K g w H x (some s)) (hn : ∀ io lk c p, x = .own io lk c → s = some (.ref p) → ∀ j, j ≠ i → ¬ OwnAt r σ j p) : Rel K g w (r.set i x) cs (σ.set i s) H := by
  have hi : i < r.length := (List.getElem?_eq_some_iff.mp hy).1
  have hi2 : i < σ.length := by rw [← R.len]; exact hi
  refine ⟨R.ff, R.f0, R.gw, R.al, R.ae, R.keep, R.fk, by simp [R.len], fun j z e => ?_, fun a b p h1 h2 => ?_, fun j p e => ?_, R.ce, fun j p c e => ?_⟩
  · rcases getElem?_set' e with ⟨rfl, rfl⟩ | ⟨hj, e⟩
    · rw [List.getElem?_set_self hi2]; exact hx
    · rw [List.getElem?_set_ne (Ne.symm hj)]; exact R.sl j z e
  · obtain ⟨io, lk, c, e1, e2⟩ := h1
    obtain ⟨io', lk', c', e1', e2'⟩ := h2
    rcases getElem?_set' e1 with ⟨rfl, q⟩ | ⟨ha, q⟩
    · rcases getElem?_set' e1' with ⟨rfl, q'⟩ | ⟨hb, q'⟩
      · rfl
      · rw [List.getElem?_set_self hi2] at e2
        rw [List.getElem?_set_ne (Ne.symm hb)] at e2'
        injection e2 with e2
        exact absurd ⟨_, _, _, q', e2'⟩ (hn io lk c p q.symm e2 b hb)
    · rcases getElem?_set' e1' with ⟨rfl, q'⟩ | ⟨hb, q'⟩
      · rw [List.getElem?_set_self hi2] at e2'
        rw [List.getElem?_set_ne (Ne.symm ha)] at e2
        injection e2' with e2'
        exact absurd ⟨_, _, _, q, e2⟩ (hn io' lk' c' p q'.symm e2' a ha)
      · rw [List.getElem?_set_ne (Ne.symm ha)] at e2
        rw [List.getElem?_set_ne (Ne.symm hb)] at e2'
        exact R.dist a b p ⟨_, _, _, q, e2⟩ ⟨_, _, _, q', e2'⟩
  · obtain ⟨s1, z, e1, e2⟩ := R.io j p e
    have hj : j ≠ i := fun q => by
      subst q
      rw [hy] at e1
      cases e1
      rw [hio] at e2
      cases e2
    rw [List.getElem?_set_ne (Ne.symm hj), List.getElem?_set_ne (Ne.symm hj)]
    exact ⟨s1, z, e1, e2⟩
  · obtain ⟨s1, io, e1⟩ := R.lk j p c e
    have hj : j ≠ i := fun q => by
      subst q
      rw [hy] at e1
      cases e1
      exact hlk _ _ rfl
    rw [List.getElem?_set_ne (Ne.symm hj), List.getElem?_set_ne (Ne.symm hj)]
    exact ⟨s1, io, e1⟩
theorem Rel.setD (R : Rel K g w r cs σ H) {i : Nat} {d : D} {v : V} (h : setS i (.val false d) r = some r') (hv : Rep K w d v) : Rel K g w r' cs (σ.set i (some v)) H := by
  obtain ⟨rfl, y, e1, e2, e3⟩ := setS_some h
  exact R.put e1 e2 e3 ⟨v, rfl, hv⟩ fun io lk c p z => nomatch z
theorem Rel.setV (R : Rel K g w r cs σ H) {i : Nat} {x : Rv} {v : V} (h : Vi.setV i x r = some r') (hv : RvRep K g w H r σ x v) : Rel K g w r' cs (σ.set i (some v)) H := by
  cases x with
  | val d => exact R.setD h hv
  | own c =>
    obtain ⟨rfl, y, e1, e2, e3⟩ := setS_some h
    obtain ⟨p, rfl, h1, h2, h3, h4, h5, h6, h7⟩ := hv
    refine R.put e1 e2 e3 ⟨p, rfl, h1, h2, h3, .inr h4, fun _ => h6⟩ fun io lk c' p' z1 z2 j _ => ?_
    cases z2
    exact h7 j
/-- targets -/
def gNames : List Nat → TGs
  | [] => gNil
  | i :: is => gCons (gName i) (gNames is)
def gPts (K : PySem.W.Frag) : List Pt → TGs
  | [] => gNil
  | .n i :: ps => gCons (gName i) (gPts K ps)
  | .t is :: ps => gCons (gTup K is.length (gNames is)) (gPts K ps)
def gOf (K : PySem.W.Frag) : Tg → TG
  | .name i => gName i
  | .tup is => gTup K is.length (gNames is)
  | .pat ps => gTup K ps.length (gPts K ps)
/-- what a target leaves as it is -/
structure Tgd (is : List Nat) (r r' : List Sl) (σ σ' : Sg) : Prop where
  st : ∀ j, j ∉ is → σ'[j]? = σ[j]?
  len : σ'.length = σ.length
  own : ∀ j p, OwnAt r' σ' j p → OwnAt r σ j p
theorem Rel.setDT (R : Rel K g w r cs σ H) {i : Nat} {d : D} {v : V} (h : setS i (.val false d) r = some r') : Tgd [i] r r' σ (σ.set i (some v)) := by
  obtain ⟨rfl, y, e1, e2, e3⟩ := setS_some h
  refine ⟨fun j hj => ?_, by simp, fun j p ⟨io, lk, c, q1, q2⟩ => ?_⟩
  · rw [List.getElem?_set_ne (fun z => hj (by rw [z]; exact List.mem_cons_self))]
  · rcases getElem?_set' q1 with ⟨_, z⟩ | ⟨hj, z⟩
    · cases z
    · rw [List.getElem?_set_ne (Ne.symm hj)] at q2
      exact ⟨_, _, _, z, q2⟩
theorem setVs_len : ∀ {is : List Nat} {ds : List D} {r r' : List Sl}, setVs is ds r = some r' → ds.length = is.length
  | [], [], _, _, _ => rfl
  | [], _ :: _, _, _, h => nomatch h
  | _ :: _, [], _, _, h => nomatch h
  | i :: is, d :: ds, r, r', h => by
    obtain ⟨r1, e1, e2⟩ := Option.bind_eq_some_iff.mp (show (setS i (.val false d) r).bind _ = some r' from h)
    simp [setVs_len e2]
theorem gNames_ok : ∀ {is : List Nat} {ds : List D} {vs : List V} {r r' : List Sl} {σ : Sg} {Q : Sg → Hp → Prop}, Rel K g w r cs σ H → setVs is ds r = some r' → Reps K w ds vs → (∀ σ', Rel K g w r' cs σ' H → Tgd is r r' σ σ' → Q σ' H) → gNames is vs σ H Q
  | [], ds, vs, r, r', σ, Q, R, h, hr, k => by
    cases ds with
    | nil =>
      cases h
      exact ⟨hr, k σ R ⟨fun _ _ => rfl, rfl, fun _ _ z => z⟩⟩
    | cons _ _ => cases h
  | i :: is, ds, vs, r, r', σ, Q, R, h, hr, k => by
    cases ds with
    | nil => cases h
    | cons d ds =>
      obtain ⟨x, xs, rfl, h1, h2⟩ := hr
      obtain ⟨r1, e1, e2⟩ := Option.bind_eq_some_iff.mp (show (setS i (.val false d) r).bind _ = some r' from h)
      refine ⟨x, xs, rfl, gNames_ok (R.setD e1 h1) e2 h2 fun σ' R' t => k σ' R' ?_⟩
      have t0 := R.setDT (v := x) e1
      refine ⟨fun j hj => ?_, by rw [t.len, t0.len], fun j p z => t0.own j p (t.own j p z)⟩
      rw [t.st j fun z => hj (List.mem_cons_of_mem _ z), t0.st j fun z => hj (by rw [List.mem_singleton.mp z]; exact List.mem_cons_self)]
def ptVars : List Pt → List Nat
  | [] => []
  | .n i :: ps => i :: ptVars ps
  | .t is :: ps => is ++ ptVars ps
def Tg.vars : Tg → List Nat
  | .name i => [i]
  | .tup is => is
  | .pat ps => ptVars ps
theorem Tgd.comp {is js ks : List Nat} {r r1 r' : List Sl} {σ σ1 σ' : Sg} (t0 : Tgd is r r1 σ σ1) (t : Tgd js r1 r' σ1 σ') (h1 : ∀ j ∈ is, j ∈ ks) (h2 : ∀ j ∈ js, j ∈ ks) : Tgd ks r r' σ σ' := by
  refine ⟨fun j hj => ?_, by rw [t.len, t0.len], fun j p z => t0.own j p (t.own j p z)⟩
  rw [t.st j fun z => hj (h2 j z), t0.st j fun z => hj (h1 j z)]
theorem setPs_len : ∀ {ps : List Pt} {ds : List D} {r r' : List Sl}, setPs ps ds r = some r' → ds.length = ps.length
  | [], [], _, _, _ => rfl
  | [], _ :: _, _, _, h => nomatch h
  | .n _ :: _, [], _, _, h => nomatch h
  | .t _ :: _, [], _, _, h => nomatch h
  | .n i :: is, d :: ds, r, r', h => by
    obtain ⟨r1, e1, e2⟩ := Option.bind_eq_some_iff.mp (show (setS i (.val false d) r).bind _ = some r' from h)
    simp [setPs_len e2]
  | .t is :: ps, d :: ds, r, r', h => by
    cases d <;> first
      | (cases h; done)
      | skip
    rename_i es
    obtain ⟨r1, e1, e2⟩ := Option.bind_eq_some_iff.mp (show (setVs is es r).bind _ = some r' from h)
    simp [setPs_len e2]
theorem gPts_ok : ∀ {ps : List Pt} {ds : List D} {vs : List V} {r r' : List Sl} {σ : Sg} {Q : Sg → Hp → Prop}, Rel K g w r cs σ H → setPs ps ds r = some r' → Reps K w ds vs → (∀ σ', Rel K g w r' cs σ' H → Tgd (ptVars ps) r r' σ σ' → Q σ' H) → gPts K ps vs σ H Q
  | [], ds, vs, r, r', σ, Q, R, h, hr, k => by
    cases ds with
    | nil =>
      cases h
      exact ⟨hr, k σ R ⟨fun _ _ => rfl, rfl, fun _ _ z => z⟩⟩
    | cons _ _ => cases h
  | .n i :: ps, ds, vs, r, r', σ, Q, R, h, hr, k => by
    cases ds with
    | nil => cases h
    | cons d ds =>
      obtain ⟨x, xs, rfl, h1, h2⟩ := hr
      obtain ⟨r1, e1, e2⟩ := Option.bind_eq_some_iff.mp (show (setS i (.val false d) r).bind _ = some r' from h)
      refine ⟨x, xs, rfl, gPts_ok (R.setD e1 h1) e2 h2 fun σ' R' t => k σ' R' ?_⟩
      exact (R.setDT (v := x) e1).comp t (fun j hj => by rw [List.mem_singleton.mp hj]; exact List.mem_cons_self) fun j hj => List.mem_cons_of_mem _ hj
  | .t is :: ps, ds, vs, r, r', σ, Q, R, h, hr, k => by
    cases ds with
    | nil => cases h
    | cons d ds =>
      cases d <;> first
        | (cases h; done)
        | skip
      rename_i es
      obtain ⟨x, xs, rfl, h1, h2⟩ := hr
      obtain ⟨r1, e1, e2⟩ := Option.bind_eq_some_iff.mp (show (setVs is es r).bind _ = some r' from h)
      obtain ⟨p, vs, rfl, h3, h4⟩ := h1
      refine ⟨.ref p, xs, rfl, p, vs, rfl, same_tup R.ff h3, by rw [h4.length, setVs_len e1], gNames_ok R e1 h4 fun σ1 R1 t1 => gPts_ok R1 e2 h2 fun σ' R' t => k σ' R' ?_⟩
      exact t1.comp t (fun j hj => List.mem_append_left _ hj) fun j hj => List.mem_append_right _ hj
theorem gOf_okT (R : Rel K g w r cs σ H) {tg : Tg} {d : D} {v : V} {Q : Sg → Hp → Prop} (h : bindT tg d r = some r') (hv : Rep K w d v) (k : ∀ σ', Rel K g w r' cs σ' H → Tgd tg.vars r r' σ σ' → Q σ' H) : gOf K tg v σ H Q := by
  cases tg with
  | name i => exact k _ (R.setD h hv) (R.setDT h)
  | tup is =>
    cases d <;> first
      | cases h
      | skip
    rename_i ds
    obtain ⟨p, vs, rfl, h1, h2⟩ := hv
    exact ⟨p, vs, rfl, same_tup R.ff h1, by rw [h2.length, setVs_len h], gNames_ok R h h2 k⟩
  | pat ps =>
    cases d <;> first
      | cases h
      | skip
    rename_i ds
    obtain ⟨p, vs, rfl, h1, h2⟩ := hv
    exact ⟨p, vs, rfl, same_tup R.ff h1, by rw [h2.length, setPs_len h], gPts_ok R h h2 k⟩
theorem gOf_ok (R : Rel K g w r cs σ H) {tg : Tg} {d : D} {v : V} {Q : Sg → Hp → Prop} (h : bindT tg d r = some r') (hv : Rep K w d v) (k : ∀ σ', Rel K g w r' cs σ' H → Q σ' H) : gOf K tg v σ H Q := gOf_okT R h hv fun σ' R' _ => k σ' R'
end
/-! ### statements: rules -/
section
variable {X : Cx} {xr : XR} {W : WX} {e c : Expr} {pos : Pos} {m : List Sl → List C → Res Rv} {ms ms2 : List Sl → List C → Res Fl} {body b2 : List Stmt} {st : Stmt}
theorem pss_nilM : PSs X [] (tS X.K xr W fun r cs => .ok .nx r cs) := pss_weak pss_nil fun D σ H ⟨g, w, r, cs, g0, R, h⟩ => h w σ H R (Ext.refl _)
theorem pss_consM (h1 : PS X st (tS X.K xr W ms)) (h2 : PSs X body (tS X.K xr W ms2)) : PSs X (st :: body) (tS X.K xr W fun r cs => (ms r cs).bind fun fl r cs => match fl with
      | .nx => ms2 r cs
      | fl => .ok fl r cs) := by
  refine pss_weak (pss_cons h1 h2) fun D σ H ⟨g, w, r, cs, g0, R, h⟩ => ?_
  refine ⟨g, w, r, cs, g0, R, h.bind.mono (fun fl r' cs' z w' σ' H' R' e' => ?_) fun _ _ _ z => z⟩
  cases fl with
  | nx => exact ⟨g, w', r', cs', g0, R', z.mono (fun _ _ _ y => y.ext e') fun _ _ _ y => y.ext e'⟩
  | bk => exact z w' σ' H' R' e'
  | ct => exact z w' σ' H' R' e'
  | rt v => exact z w' σ' H' R' e'
theorem ps_exM (he : PE X e (tM X.K xr W m)) (hs : swapsWith e none pos.line X.env = pure false) : PS X (.Expr e pos) (tS X.K xr W fun r cs => (m r cs).bind fun _ r cs => .ok .nx r cs) := by
  refine ps_weak (ps_expr he hs) fun D σ H ⟨g, w, r, cs, g0, R, h⟩ => ?_
  refine tG.mono (R.stepS (rep := repV X.K) h) fun x H1 ⟨w1, r1, cs1, v, R1, e1, q1, k1⟩ => ?_
  exact k1 w1 σ H1 R1 (Ext.refl _)
theorem ps_asgM {i : Nat} {x : Str} {pos' : Pos} (hN : X.N.Nodup) (hi : X.N[i]? = some x) (hx : Loc X.env.scope x) (he : PE X e (tM X.K xr W m)) (hs : swapsWith e (some (.Name x pos')) pos.line X.env = pure false) (hf : X.fn x = true ∨ X.env.scope.names.lookup x = some .local) :
    PS X (.Assign [.Name x pos'] e pos) (tS X.K xr W fun r cs => (m r cs).bind fun v r cs => (liftO (setV i v r) r cs).bind fun r _ _ => .ok .nx r cs) := by
  refine ps_weak (ps_set hN hi hx he hs hf) fun D σ H ⟨g, w, r, cs, g0, R, h⟩ => ?_
  refine tG.mono (R.stepS (rep := repV X.K) h) fun v H1 ⟨w1, r1, cs1, x, R1, e1, q1, k1⟩ => ?_
  obtain ⟨r2, e2, k2⟩ := liftO_P k1.bind
  exact k2 w1 _ H1 (R1.setV e2 q1) (Ext.refl _)
/-- a, b = e -/
theorem ps_asgTM {is : List Nat} {es : List Expr} {kt : Nat} {pt : Pos} (hc : X.calm = true) (he : PE X e (tM X.K xr W m)) (hg : PGs X es (gNames is)) (hn : (assignEach es X.env).length = is.length) (hst : (assignEach es X.env).findIdx? (·.1) = none)
    (hs : swapsWithSole [.Tuple es kt pt] e pos.line X.env = pure false) (hw : swappedStores [.Tuple es kt pt] e X.env = pure none) :
    PS X (.Assign [.Tuple es kt pt] e pos) (tS X.K xr W fun r cs => (m r cs).d.bind fun d r cs => (liftO ((unTup d).bind fun ds => setVs is ds r) r cs).bind fun r _ _ => .ok .nx r cs) := by
  refine ps_weak (ps_asg (pe_frz he) (pg_tup (n := is.length) hc hg hn hst) hs hw rfl) fun D σ H ⟨g, w, r, cs, g0, R, h⟩ => ?_
  refine tG.mono (R.stepS (rep := repD X.K) h) fun v H1 ⟨w1, r1, cs1, d, R1, e1, q1, k1⟩ => ?_
  obtain ⟨r2, e2, k2⟩ := liftO_P k1.bind
  obtain ⟨ds, e3, e4⟩ := Option.bind_eq_some_iff.mp e2
  have hd : d = .tup ds := by
    cases d <;> first
      | (cases e3; done)
      | (cases e3; rfl)
  subst hd
  exact gOf_ok (tg := .tup is) (d := .tup ds) R1 (show bindT (.tup is) (.tup ds) r1 = some r2 from e4) q1 fun σ' R' => k2 w1 σ' H1 R' (Ext.refl _)
/-- (a, b), c = e -/
theorem ps_asgPM {ps : List Pt} {es : List Expr} {kt : Nat} {pt : Pos} (hc : X.calm = true) (he : PE X e (tM X.K xr W m)) (hg : PGs X es (gPts X.K ps)) (hn : (assignEach es X.env).length = ps.length) (hst : (assignEach es X.env).findIdx? (·.1) = none)
    (hs : swapsWithSole [.Tuple es kt pt] e pos.line X.env = pure false) (hw : swappedStores [.Tuple es kt pt] e X.env = pure none) :
    PS X (.Assign [.Tuple es kt pt] e pos) (tS X.K xr W fun r cs => (m r cs).d.bind fun d r cs => (liftO ((unTup d).bind fun ds => setPs ps ds r) r cs).bind fun r _ _ => .ok .nx r cs) := by
  refine ps_weak (ps_asg (pe_frz he) (pg_tup (n := ps.length) hc hg hn hst) hs hw rfl) fun D σ H ⟨g, w, r, cs, g0, R, h⟩ => ?_
  refine tG.mono (R.stepS (rep := repD X.K) h) fun v H1 ⟨w1, r1, cs1, d, R1, e1, q1, k1⟩ => ?_
  obtain ⟨r2, e2, k2⟩ := liftO_P k1.bind
  obtain ⟨ds, e3, e4⟩ := Option.bind_eq_some_iff.mp e2
  have hd : d = .tup ds := by
    cases d <;> first
      | (cases e3; done)
      | (cases e3; rfl)
  subst hd
  exact gOf_ok (tg := .pat ps) (d := .tup ds) R1 (show bindT (.pat ps) (.tup ds) r1 = some r2 from e4) q1 fun σ' R' => k2 w1 σ' H1 R' (Ext.refl _)
/-- a, b = x, y: stored from the right -/
theorem ps_parM {i j : Nat} {x y : Str} {a b : Expr} {px py pt : Pos} {kt k2 pt2} {msd : List Sl → List C → Res (List D)} (hc : X.calm = true) (hN : X.N.Nodup) (hi : X.N[i]? = some x) (hj : X.N[j]? = some y) (hij : i ≠ j)
    (hx : X.env.scope.names.lookup x = some .local) (hy : X.env.scope.names.lookup y = some .local) (ha : PA X [a, b] (tAD X.K xr W msd))
    (hw : swappedStores [.Tuple [.Name x px, .Name y py] kt pt] (.Tuple [a, b] k2 pt2) X.env = pure (some [x, y]))
    (hs : swapsWithSole [.Tuple [.Name x px, .Name y py] kt pt] (.Tuple [a, b] k2 pt2) pos.line X.env = pure false) :
    PS X (.Assign [.Tuple [.Name x px, .Name y py] kt pt] (.Tuple [a, b] k2 pt2) pos) (tS X.K xr W fun r cs => (Res.d ((msd r cs).bind fun ds r cs => if ds.length ≤ sizeLine then .ok (.val (.tup ds)) r cs else .no)).bind fun d r cs => (liftO ((unTup d).bind fun ds => setVs [i, j] ds r) r cs).bind fun r _ _ => .ok .nx r cs) := by
  refine ps_weak (ps_par hc hN hi hj hij hx hy ha hw hs) fun D σ H ⟨g, w, r, cs, g0, R, h⟩ => ?_
  have h2 : ((msd r cs).bind fun ds r cs => ((if ds.length ≤ sizeLine then Res.ok (Rv.val (.tup ds)) r cs else .no).d).bind fun d r cs => (liftO ((unTup d).bind fun ds => setVs [i, j] ds r) r cs).bind fun r _ _ => .ok .nx r cs).P (FinS X.K g w D) (exWS X.K xr W g w) := by
    dsimp only at h
    cases q : msd r cs <;> rw [q] at h <;> exact h
  refine tG.mono (R.stepS (rep := repDs X.K) h2) fun vs H1 ⟨w1, r1, cs1, ds, R1, e1, q1, k1⟩ => ?_
  split at k1
  · have k1 : ((liftO (setVs [i, j] ds r1) r1 cs1).bind fun r _ _ => Res.ok Fl.nx r cs1).P (FinS X.K g w1 D) (exWS X.K xr W g w1) := k1
    obtain ⟨r2, e4, k2⟩ := liftO_P k1.bind
    have hl := setVs_len e4
    have q1 : Reps X.K w1 ds vs := q1
    match ds, hl with
    | [d1, d2], _ =>
      obtain ⟨v1, _, rfl, h1, v2, _, rfl, h2, e9⟩ := q1
      cases e9
      refine ⟨v1, v2, rfl, ?_⟩
      obtain ⟨ra, ea, eb⟩ := Option.bind_eq_some_iff.mp (show (setS i (.val false d1) r1).bind _ = some r2 from e4)
      obtain ⟨rb, ec, ed⟩ := Option.bind_eq_some_iff.mp (show (setS j (.val false d2) ra).bind _ = some r2 from eb)
      cases ed
      exact k2 w1 _ H1 ((R1.setD ea h1).setD ec h2) (Ext.refl _)
  · exact k1.elim
theorem ps_par3M {i j l : Nat} {x y z : Str} {a b c : Expr} {px py pz pt : Pos} {kt k2 pt2} {msd : List Sl → List C → Res (List D)} (hc : X.calm = true) (hN : X.N.Nodup) (hi : X.N[i]? = some x) (hj : X.N[j]? = some y) (hl : X.N[l]? = some z) (hij : i ≠ j) (hil : i ≠ l) (hjl : j ≠ l)
    (hx : X.env.scope.names.lookup x = some .local) (hy : X.env.scope.names.lookup y = some .local) (hz : X.env.scope.names.lookup z = some .local) (ha : PA X [a, b, c] (tAD X.K xr W msd))
    (hw : swappedStores [.Tuple [.Name x px, .Name y py, .Name z pz] kt pt] (.Tuple [a, b, c] k2 pt2) X.env = pure (some [x, y, z]))
    (hs : swapsWithSole [.Tuple [.Name x px, .Name y py, .Name z pz] kt pt] (.Tuple [a, b, c] k2 pt2) pos.line X.env = pure false) :
    PS X (.Assign [.Tuple [.Name x px, .Name y py, .Name z pz] kt pt] (.Tuple [a, b, c] k2 pt2) pos) (tS X.K xr W fun r cs => (Res.d ((msd r cs).bind fun ds r cs => if ds.length ≤ sizeLine then .ok (.val (.tup ds)) r cs else .no)).bind fun d r cs => (liftO ((unTup d).bind fun ds => setVs [i, j, l] ds r) r cs).bind fun r _ _ => .ok .nx r cs) := by
  refine ps_weak (ps_par3 hc hN hi hj hl hij hil hjl hx hy hz ha hw hs) fun D σ H ⟨g, w, r, cs, g0, R, h⟩ => ?_
  have h2 : ((msd r cs).bind fun ds r cs => ((if ds.length ≤ sizeLine then Res.ok (Rv.val (.tup ds)) r cs else .no).d).bind fun d r cs => (liftO ((unTup d).bind fun ds => setVs [i, j, l] ds r) r cs).bind fun r _ _ => .ok .nx r cs).P (FinS X.K g w D) (exWS X.K xr W g w) := by
    dsimp only at h
    cases q : msd r cs <;> rw [q] at h <;> exact h
  refine tG.mono (R.stepS (rep := repDs X.K) h2) fun vs H1 ⟨w1, r1, cs1, ds, R1, e1, q1, k1⟩ => ?_
  split at k1
  · have k1 : ((liftO (setVs [i, j, l] ds r1) r1 cs1).bind fun r _ _ => Res.ok Fl.nx r cs1).P (FinS X.K g w1 D) (exWS X.K xr W g w1) := k1
    obtain ⟨r2, e4, k2⟩ := liftO_P k1.bind
    have hl := setVs_len e4
    have q1 : Reps X.K w1 ds vs := q1
    match ds, hl with
    | [d1, d2, d3], _ =>
      obtain ⟨v1, _, rfl, h1, v2, _, rfl, h2, v3, _, rfl, h3, e9⟩ := q1
      cases e9
      refine ⟨v1, v2, v3, rfl, ?_⟩
      obtain ⟨ra, ea, eb⟩ := Option.bind_eq_some_iff.mp (show (setS i (.val false d1) r1).bind _ = some r2 from e4)
      obtain ⟨rb, ec, ed⟩ := Option.bind_eq_some_iff.mp (show (setS j (.val false d2) ra).bind _ = some r2 from eb)
      obtain ⟨rc, ee, ef⟩ := Option.bind_eq_some_iff.mp (show (setS l (.val false d3) rb).bind _ = some r2 from ed)
      cases ef
      exact k2 w1 _ H1 (((R1.setD ea h1).setD ec h2).setD ee h3) (Ext.refl _)
  · exact k1.elim
theorem ps_ifM {mt : List Sl → List C → Res Bool} (hc : PT X c (tTM X.K xr W mt)) (ha : PSs X body (tS X.K xr W ms)) (hb : PSs X b2 (tS X.K xr W ms2)) : PS X (.If c body b2 pos) (tS X.K xr W fun r cs => (mt r cs).bind fun k r cs => match k with
      | true => ms r cs
      | false => ms2 r cs) := by
  refine ps_weak (ps_if hc ha hb) fun D σ H ⟨g, w, r, cs, g0, R, h⟩ => ?_
  refine tG.mono (R.stepS (rep := repB) h) fun b H1 ⟨w1, r1, cs1, k, R1, e1, q1, k1⟩ => ?_
  have q1 : k = b := q1
  subst q1
  cases k with
  | true => exact iteT ⟨g, w1, r1, cs1, g0, R1, k1⟩
  | false => exact iteF ⟨g, w1, r1, cs1, g0, R1, k1⟩
theorem ps_retM (he : PE X e (tM X.K xr W m)) : PS X (.Return (some e) pos) (tS X.K xr W fun r cs => (m r cs).bind fun v r cs => .ok (.rt v) r cs) := by
  refine ps_weak (ps_ret he) fun D σ H ⟨g, w, r, cs, g0, R, h⟩ => ?_
  refine tG.mono (R.stepS (rep := repV X.K) h) fun v H1 ⟨w1, r1, cs1, x, R1, e1, q1, k1⟩ => ?_
  exact k1 w1 σ H1 R1 (Ext.refl _) v q1
/-- return of a name: an object of the def's own goes out -/
theorem ps_retV {i : Nat} {x : Str} {p0 : Pos} (hN : X.N[i]? = some x) (hv : Vis X.env.scope x) (hd : (x == ("__debug__" : Str)) = false) (hcd : (x == ("__classdict__" : Str)) = false) :
    PS X (.Return (some (.Name x p0)) pos) (tS X.K xr W fun r cs => match r[i]? with
      | some (.own false false c) => .ok (.rt (.own c)) (r.set i .no) cs
      | _ => (readVar i r cs).bind fun v r cs => .ok (.rt v) r cs) := by
  refine ⟨fun pins s σ H D I ⟨g, w, r, cs, g0, R, h⟩ => ?_⟩
  dsimp only at h
  split at h
  · rename_i c e
    obtain ⟨p, es⟩ := R.ownAddr e
    obtain ⟨h1, h2, h3, h4⟩ := R.mayW e es
    have h5 := R.mayE e es rfl
    have hz : σ[i]? = some (some (.ref p)) := es
    have hi : i < σ.length := (List.getElem?_eq_some_iff.mp es).1
    have R2 : Rel X.K g w (r.set i .no) cs (σ.set i (some (.ref p))) H := R.put e rfl (fun _ _ z => nomatch z) trivial (fun _ _ _ _ z => nomatch z)
    have eσ : σ.set i (some (.ref p)) = σ := by
      apply List.ext_getElem? 
      intro j
      by_cases q : j = i
      · subst q; rw [List.getElem?_set_self hi, es]
      · rw [List.getElem?_set_ne (Ne.symm q)]
    rw [eσ] at R2
    have h0 : g.H0 p = none := by rw [← g0]; exact h5
    refine (ps_ret (pe_var hN hv hd hcd)).run pins s σ H D I ⟨_, es, h w σ H R2 (Ext.refl _) _ ⟨p, rfl, h1, h2, h3, h0, fun z => ?_, h5, fun j z => ?_⟩⟩
    · obtain ⟨o, q⟩ := R.gw p z
      rw [h0] at q; cases q
    · obtain ⟨io, lk, c', e1, e2⟩ := z
      rcases getElem?_set' e1 with ⟨_, q⟩ | ⟨hj, q⟩
      · cases q
      · exact hj (R.dist j i p ⟨_, _, _, q, e2⟩ ⟨_, _, _, e, es⟩)
  · exact (ps_retM (m := readVar i) (pe_read hN hv hd hcd)).run pins s σ H D I ⟨g, w, r, cs, g0, R, h⟩
theorem ps_retNM : PS X (.Return none pos) (tS X.K xr W fun r cs => .ok (.rt (.val .non)) r cs) := ps_weak ps_retN fun D σ H ⟨g, w, r, cs, g0, R, h⟩ => h w σ H R (Ext.refl _) .non rfl
theorem ps_brkM : PS X (.Break pos) (tS X.K xr W fun r cs => .ok .bk r cs) := ps_weak ps_break fun D σ H ⟨g, w, r, cs, g0, R, h⟩ => h w σ H R (Ext.refl _)
theorem ps_contM : PS X (.Continue pos) (tS X.K xr W fun r cs => .ok .ct r cs) := ps_weak ps_continue fun D σ H ⟨g, w, r, cs, g0, R, h⟩ => h w σ H R (Ext.refl _)
theorem ps_passM : PS X (.Pass pos) (tS X.K xr W fun r cs => .ok .nx r cs) := ps_weak ps_pass fun D σ H ⟨g, w, r, cs, g0, R, h⟩ => h w σ H R (Ext.refl _)
theorem ps_docM {x j pos'} : PS X (.Expr (.Constant (.str x) j pos) pos') (tS X.K xr W fun r cs => .ok .nx r cs) := ps_weak ps_doc fun D σ H ⟨g, w, r, cs, g0, R, h⟩ => h w σ H R (Ext.refl _)
end
end Vi

namespace Vi
open PySem PySem.Spec L2
/-! ### a frame within a frame -/
def own1 (x : Option Sl) (y : Option (Option V)) : Option Addr := match x, y with
  | some (.own _ _ _), some (some (.ref p)) => some p
  | _, _ => none
def ownsOf (r : List Sl) (σ : Sg) : List Addr := (List.range r.length).filterMap fun i => own1 r[i]? σ[i]?
theorem mem_ownsOf {r : List Sl} {σ : Sg} {p : Addr} : p ∈ ownsOf r σ ↔ ∃ i, OwnAt r σ i p := by
  unfold ownsOf
  rw [List.mem_filterMap]
  constructor
  · rintro ⟨i, hi, e⟩
    refine ⟨i, ?_⟩
    unfold own1 at e
    split at e
    · rename_i io lk c p' e1 e2
      cases e
      exact ⟨io, lk, c, e1, e2⟩
    · cases e
  · rintro ⟨i, io, lk, c, e1, e2⟩
    refine ⟨i, List.mem_range.mpr (List.getElem?_eq_some_iff.mp e1).1, ?_⟩
    rw [e1, e2]
    rfl
/-- from here on -/
def Fx.rb (g : Fx) (w : Wd) (r : List Sl) (σ : Sg) (H : Hp) : Fx := { g with H0 := H, w0 := w, W := ownsOf r σ ++ w.ph }
section
variable {K : PySem.W.Frag} {g : Fx} {w w' : Wd} {r r' : List Sl} {cs cs' : List C} {σ σ' : Sg} {H H' : Hp}
theorem Rel.rb (R : Rel K g w r cs σ H) : Rel K (g.rb w r σ H) w r cs σ H where
  ff := R.ff
  f0 := Ext.refl _
  gw := fun a ha => by
    rcases List.mem_append.mp ha with h | h
    · obtain ⟨i, io, lk, c, e1, e2⟩ := mem_ownsOf.mp h
      exact HRep.at_some (R.mayW e1 e2).1
    · exact (R.phSome h).1
  al := fun a o e => ⟨o, e⟩
  ae := R.ae
  keep := fun a o e _ => e
  fk := fun a o _ _ n => n
  len := R.len
  sl := fun i x e => by
    have q := R.sl i x e
    cases x with
    | no => trivial
    | val io d => exact q
    | own io lk c =>
      obtain ⟨p, e1, e2, e3, e4, e5, e6⟩ := q
      exact ⟨p, e1, e2, e3, e4, .inl (List.mem_append_left _ (mem_ownsOf.mpr ⟨i, _, _, _, e, e1⟩)), e6⟩
  dist := R.dist
  io := R.io
  ce := ⟨R.ce.len, R.ce.nd, fun n c p e1 e2 => let ⟨a, b, _⟩ := R.ce.at_ n c p e1 e2; ⟨a, b, .inl (List.mem_append_right _ (List.mem_of_getElem? e2))⟩⟩
  lk := R.lk
/-- an address that the inner frame may write is one of the outer's -/
theorem Rel.rbW (R : Rel K g w r cs σ H) {p : Addr} (h : p ∈ (g.rb w r σ H).W ∨ (g.rb w r σ H).H0 p = none) : p ∈ g.W ∨ g.H0 p = none := by
  rcases h with h | h
  · rcases List.mem_append.mp h with h | h
    · obtain ⟨i, io, lk, c, e1, e2⟩ := mem_ownsOf.mp h
      exact (R.mayW e1 e2).2.2.2
    · exact (R.phSome h).2
  · exact .inr (R.fresh h).1
theorem Rel.back (R : Rel K g w r cs σ H) (R' : Rel K (g.rb w r σ H) w' r' cs' σ' H') : Rel K g w' r' cs' σ' H' where
  ff := R'.ff
  f0 := R.f0.trans R'.f0
  gw := R.gw
  al := fun a o e => let ⟨o', e'⟩ := R.al a o e; R'.al a o' e'
  ae := R'.ae
  keep := fun a o e h => R'.keep a o (R.keep a o e h) fun z => by
    rcases R.rbW (.inl z) with y | y
    · exact h y
    · rw [e] at y; cases y
  fk := fun a o e h n => R'.fk a o (R.keep a o e h) (fun z => by
    rcases R.rbW (.inl z) with y | y
    · exact h y
    · rw [e] at y; cases y) (R.fk a o e h n)
  len := R'.len
  sl := fun i x e => by
    have q := R'.sl i x e
    cases x with
    | no => trivial
    | val io d => exact q
    | own io lk c =>
      obtain ⟨p, e1, e2, e3, e4, e5, e6⟩ := q
      exact ⟨p, e1, e2, e3, e4, R.rbW e5, e6⟩
  dist := R'.dist
  io := R'.io
  ce := ⟨R'.ce.len, R'.ce.nd, fun n c p e1 e2 => let ⟨a, b, h⟩ := R'.ce.at_ n c p e1 e2; ⟨a, b, R.rbW h⟩⟩
  lk := R'.lk
/-- an object that no slot holds, no cell -/
structure Apart (w : Wd) (r : List Sl) (σ : Sg) (H : Hp) (p : Addr) (o : HO) : Prop where
  at_ : H p = some o
  F : w.F p = none
  ph : p ∉ w.ph
  own : ∀ i, ¬ OwnAt r σ i p
/-- .. stands through the inner frame -/
theorem Rel.apart (R : Rel K g w r cs σ H) (R' : Rel K (g.rb w r σ H) w' r' cs' σ' H') {p : Addr} {o : HO} (h : Apart w r σ H p o) : Apart w' r' σ' H' p o := by
  have nw : p ∉ (g.rb w r σ H).W := fun z => by
    rcases List.mem_append.mp z with z | z
    · obtain ⟨i, q⟩ := mem_ownsOf.mp z
      exact h.own i q
    · exact h.ph z
  have nn : ¬ (p ∈ (g.rb w r σ H).W ∨ (g.rb w r σ H).H0 p = none) := fun z => by
    rcases z with z | z
    · exact nw z
    · have z : H p = none := z
      rw [h.at_] at z; cases z
  refine ⟨R'.keep p o h.at_ nw, R'.fk p o h.at_ nw h.F, fun z => ?_, fun i ⟨io, lk, c, e1, e2⟩ => ?_⟩
  · obtain ⟨n, hn, e⟩ := List.getElem_of_mem z
    have hn2 : n < cs'.length := by rw [R'.ce.len]; exact hn
    obtain ⟨_, _, h3⟩ := R'.ce.at_ n cs'[n] p (List.getElem?_eq_getElem hn2) (by rw [List.getElem?_eq_getElem hn, e])
    exact nn h3
  · exact nn (R'.mayW e1 e2).2.2.2
/-- .. is written -/
theorem Rel.updA (R : Rel K g w r cs σ H) {p : Addr} {o o' : HO} (h : Apart w r σ H p o) (h0 : g.H0 p = none) : Rel K g w r cs σ (upd H p o') ∧ Apart w r σ (upd H p o') p o' := by
  have hne : ∀ (i : Nat) (io lk : Bool) (c : C) (q : Addr), r[i]? = some (.own io lk c) → σ[i]? = some (some (.ref q)) → q ≠ p := fun i io lk c q e1 e2 z => by
    subst z
    exact h.own i ⟨_, _, _, e1, e2⟩
  refine ⟨⟨fun b u e => ?_, R.f0, R.gw, fun a u e => ?_, fun a u e => ?_, fun a u e1 e2 => ?_, R.fk, R.len, fun i x e => ?_, R.dist, R.io, ⟨R.ce.len, R.ce.nd, fun n c q e1 e2 => ?_⟩, R.lk⟩, ⟨upd_same, h.F, h.ph, h.own⟩⟩
  · rw [upd_ne (ne_of_none e h.F)]; exact R.ff _ _ e
  · rw [upd_ne (ne_of_none e h0)]; exact R.al a u e
  · by_cases z : a = p
    · exact ⟨o', by rw [z]; exact upd_same⟩
    · rw [upd_ne z]; exact R.ae a u e
  · rw [upd_ne (ne_of_none e1 h0)]; exact R.keep a u e1 e2
  · have q := R.sl i x e
    cases x with
    | no => trivial
    | val io d => exact q
    | own io lk c =>
      obtain ⟨a, e1, e2, e3⟩ := q
      exact ⟨a, e1, HRep.mono e2 (Ext.refl _) (fun u hu => by rw [upd_ne (hne i io lk c a e e1)]; exact hu), e3⟩
  · obtain ⟨a, b, c'⟩ := R.ce.at_ n c q e1 e2
    refine ⟨HRep.mono a (Ext.refl _) (fun u hu => ?_), b, c'⟩
    rw [upd_ne fun z => h.ph (by rw [← z]; exact List.mem_of_getElem? e2)]
    exact hu
theorem Apart.pure {p : Addr} {o : HO} (h : Apart w r σ H p o) (x : PureX w H w' H') : Apart w' r σ H' p o := ⟨x.hh _ _ h.at_, x.fr _ _ h.at_ h.F, by rw [x.ph]; exact h.ph, h.own⟩
/-! ### slots that a block holds for its own -/
theorem Rel.putG (R : Rel K g w r cs σ H) {i : Nat} {x : Sl} {s : Option V} (hio : ∀ p, g.io[i]? ≠ some (some p)) (hlk : ∀ p c, g.lk[i]? ≠ some (some (p, c)))
    (hx : SlRep K g w H x (some s)) (hn : isOwn x = false) : Rel K g w (r.set i x) cs (σ.set i s) H := by
  have oth : ∀ j p, OwnAt (r.set i x) (σ.set i s) j p → OwnAt r σ j p := fun j p ⟨io, lk, c, e1, e2⟩ => by
    rcases getElem?_set' e1 with ⟨rfl, q⟩ | ⟨hj, q⟩
    · rw [← q] at hn; cases hn
    · rw [List.getElem?_set_ne (Ne.symm hj)] at e2
      exact ⟨_, _, _, q, e2⟩
  refine ⟨R.ff, R.f0, R.gw, R.al, R.ae, R.keep, R.fk, by simp [R.len], fun j z e => ?_, fun a b p h1 h2 => R.dist a b p (oth a p h1) (oth b p h2), fun j p e => ?_, R.ce, fun j p c e => ?_⟩
  · have hj' : j < r.length := by
      have := (List.getElem?_eq_some_iff.mp e).1
      simpa using this
    rcases getElem?_set' e with ⟨rfl, rfl⟩ | ⟨hj, e⟩
    · rw [List.getElem?_set_self (by rw [← R.len]; exact hj')]; exact hx
    · rw [List.getElem?_set_ne (Ne.symm hj)]; exact R.sl j z e
  · have hj : j ≠ i := fun q => by subst q; exact hio p e
    rw [List.getElem?_set_ne (Ne.symm hj), List.getElem?_set_ne (Ne.symm hj)]
    exact R.io j p e
  · have hj : j ≠ i := fun q => by subst q; exact hlk p c e
    rw [List.getElem?_set_ne (Ne.symm hj), List.getElem?_set_ne (Ne.symm hj)]
    exact R.lk j p c e
def Free (g : Fx) (vs : List Nat) : Prop := ∀ i ∈ vs, (∀ p, g.io[i]? ≠ some (some p)) ∧ ∀ p c, g.lk[i]? ≠ some (some (p, c))
theorem wipe_set : ∀ {vs : List Nat} {σ : Sg} {i : Nat}, wipe (σ.set i none) vs = (wipe σ vs).set i none
  | [], _, _ => rfl
  | v :: vs, σ, i => by
    show (wipe (σ.set i none) vs).set v none = ((wipe σ vs).set v none).set i none
    rw [wipe_set]
    by_cases q : i = v
    · subst q; simp
    · rw [List.set_comm _ _ q]
theorem Rel.wipeV : ∀ {vs : List Nat} {r : List Sl} {σ : Sg}, Free g vs → Rel K g w r cs σ H → Rel K g w (wipeS vs r) cs (wipe σ vs) H
  | [], _, _, _, R => R
  | v :: vs, r, σ, hf, R => by
    have R1 : Rel K g w (r.set v .no) cs (σ.set v none) H := R.putG (hf v List.mem_cons_self).1 (hf v List.mem_cons_self).2 trivial rfl
    have R2 := Rel.wipeV (vs := vs) (fun i hi => hf i (List.mem_cons_of_mem _ hi)) R1
    rw [wipe_set] at R2
    exact R2
theorem wipe_at : ∀ {vs : List Nat} {σ : Sg} {j : Nat}, (wipe σ vs)[j]? = if j ∈ vs then σ[j]?.map (fun _ => none) else σ[j]?
  | [], σ, j => by simp [wipe]
  | v :: vs, σ, j => by
    show ((wipe σ vs).set v none)[j]? = _
    by_cases q : j = v
    · subst q
      by_cases hj : j < σ.length
      · rw [List.getElem?_set_self (by rw [wipe_length]; exact hj)]
        simp [List.getElem?_eq_getElem hj]
      · rw [List.getElem?_eq_none (by rw [List.length_set, wipe_length]; omega), List.getElem?_eq_none (by omega)]
        simp
    · rw [List.getElem?_set_ne (Ne.symm q), wipe_at]
      simp [q]
theorem wipeS_at : ∀ {vs : List Nat} {r : List Sl} {j : Nat}, j ∉ vs → (wipeS vs r)[j]? = r[j]?
  | [], r, j, _ => rfl
  | v :: vs, r, j, h => by
    show (wipeS vs (r.set v .no))[j]? = _
    rw [wipeS_at fun z => h (List.mem_cons_of_mem _ z), List.getElem?_set_ne fun z => h (by rw [z]; exact List.mem_cons_self)]
theorem wipeS_len : ∀ {vs : List Nat} {r : List Sl}, (wipeS vs r).length = r.length
  | [], _ => rfl
  | v :: vs, r => by
    show (wipeS vs (r.set v .no)).length = _
    rw [wipeS_len]; simp
theorem wipeS_own {vs : List Nat} {r : List Sl} {σ : Sg} {j : Nat} {p : Addr} (h : OwnAt (wipeS vs r) (wipe σ vs) j p) : OwnAt r σ j p := by
  obtain ⟨io, lk, c, e1, e2⟩ := h
  have hj : j ∉ vs := fun z => by
    rw [wipe_at, if_pos z] at e2
    cases q : σ[j]? with
    | none => simp [q] at e2
    | some y => simp [q] at e2
  rw [wipeS_at hj] at e1
  rw [wipe_at, if_neg hj] at e2
  exact ⟨_, _, _, e1, e2⟩
theorem restS_len : ∀ {vs : List Nat} {r0 r : List Sl}, (restS vs r0 r).length = r.length
  | [], _, _ => rfl
  | v :: vs, r0, r => by
    show (restS vs r0 (match r0[v]? with | some x => r.set v x | none => r)).length = _
    rw [restS_len]
    cases r0[v]? <;> simp
theorem restS_in : ∀ {vs : List Nat} {r0 r : List Sl} {j : Nat}, j ∈ vs → r0.length = r.length → (restS vs r0 r)[j]? = r0[j]?
  | [], _, _, _, h, _ => nomatch h
  | v :: vs, r0, r, j, h, hl => by
    show (restS vs r0 (match r0[v]? with | some x => r.set v x | none => r))[j]? = _
    have hl2 : r0.length = (match r0[v]? with | some x => r.set v x | none => r).length := by cases r0[v]? <;> simp [hl]
    by_cases q : j ∈ vs
    · exact restS_in q hl2
    · have e : j = v := by
        rcases List.mem_cons.mp h with e | e
        · exact e
        · exact absurd e q
      subst e
      clear h
      have out : ∀ {vs : List Nat} {r0 r : List Sl}, j ∉ vs → (restS vs r0 r)[j]? = r[j]? := by
        intro vs
        induction vs with
        | nil => intro _ _ _; rfl
        | cons v vs ih =>
          intro r0 r h
          show (restS vs r0 (match r0[v]? with | some x => r.set v x | none => r))[j]? = _
          rw [ih fun z => h (List.mem_cons_of_mem _ z)]
          cases r0[v]? with
          | none => rfl
          | some x => rw [List.getElem?_set_ne fun z => h (by rw [z]; exact List.mem_cons_self)]
      rw [out q]
      cases e : r0[j]? with
      | none =>
        have := List.getElem?_eq_none_iff.mp e
        exact List.getElem?_eq_none (show r.length ≤ j by omega)
      | some x =>
        have := (List.getElem?_eq_some_iff.mp e).1
        rw [List.getElem?_set_self (by omega)]
theorem restS_out {j : Nat} : ∀ {vs : List Nat} {r0 r : List Sl}, j ∉ vs → (restS vs r0 r)[j]? = r[j]?
  | [], _, _, _ => rfl
  | v :: vs, r0, r, h => by
    show (restS vs r0 (match r0[v]? with | some x => r.set v x | none => r))[j]? = _
    rw [restS_out fun z => h (List.mem_cons_of_mem _ z)]
    cases r0[v]? with
    | none => rfl
    | some x => rw [List.getElem?_set_ne fun z => h (by rw [z]; exact List.mem_cons_self)]
theorem noOwn_at {vs : List Nat} {r : List Sl} (h : noOwn vs r = true) {i : Nat} (hi : i ∈ vs) : ∃ x, r[i]? = some x ∧ isOwn x = false ∧ x.isIo = false := by
  have q := List.all_eq_true.mp h i hi
  split at q
  · rename_i e; exact ⟨_, e, rfl, rfl⟩
  · rename_i d e; exact ⟨_, e, rfl, rfl⟩
  · cases q
theorem Rel.freeV (R : Rel K g w r cs σ H) {vs : List Nat} (h : noOwn vs r = true) : Free g vs := fun i hi => by
  obtain ⟨x, e1, e2, e3⟩ := noOwn_at h hi
  refine ⟨fun p z => ?_, fun p c z => ?_⟩
  · obtain ⟨_, y, q1, q2⟩ := R.io i p z
    rw [e1] at q1
    cases q1
    rw [e3] at q2
    cases q2
  · obtain ⟨_, io, q1⟩ := R.lk i p c z
    rw [e1] at q1
    cases q1
    cases e2
/-- the block's slots as they were -/
theorem Rel.restV (R : Rel K g w r cs σ H) {vs : List Nat} (hv : noOwn vs r = true) (R' : Rel K g w' (wipeS vs r') cs' (wipe σ vs) H') (e : Ext w w') : Rel K g w' (restS vs r r') cs' σ H' := by
  have hl : r.length = r'.length := by
    have := R'.len
    rw [wipeS_len, wipe_length] at this
    rw [R.len, this]
  have back : ∀ j x, (restS vs r r')[j]? = some x → (j ∈ vs ∧ r[j]? = some x) ∨ (j ∉ vs ∧ (wipeS vs r')[j]? = some x) := fun j x h => by
    by_cases q : j ∈ vs
    · rw [restS_in q hl] at h; exact .inl ⟨q, h⟩
    · rw [restS_out q] at h; exact .inr ⟨q, by rw [wipeS_at q]; exact h⟩
  have own : ∀ j p, OwnAt (restS vs r r') σ j p → OwnAt (wipeS vs r') (wipe σ vs) j p := fun j p ⟨io, lk, c, e1, e2⟩ => by
    rcases back j _ e1 with ⟨h1, h2⟩ | ⟨h1, h2⟩
    · obtain ⟨x, q1, q2, _⟩ := noOwn_at hv h1
      rw [h2] at q1
      cases q1
      cases q2
    · exact ⟨io, lk, c, h2, by rw [wipe_at, if_neg h1]; exact e2⟩
  refine ⟨R'.ff, R'.f0, R'.gw, R'.al, R'.ae, R'.keep, R'.fk, by rw [restS_len, ← hl]; exact R.len, fun i x h => ?_, fun i j p h1 h2 => R'.dist i j p (own i p h1) (own j p h2), fun i p h => ?_, R'.ce, fun i p c h => ?_⟩
  · rcases back i x h with ⟨h1, h2⟩ | ⟨h1, h2⟩
    · obtain ⟨y, q1, q2, _⟩ := noOwn_at hv h1
      rw [h2] at q1
      cases q1
      have z := R.sl i x h2
      cases x with
      | no => trivial
      | val io d =>
        obtain ⟨v, z1, z2⟩ := z
        exact ⟨v, z1, z2.mono e⟩
      | own _ _ _ => cases q2
    · have z := R'.sl i x h2
      rw [wipe_at, if_neg h1] at z
      exact z
  · obtain ⟨s1, y, y1, y2⟩ := R.io i p h
    have hi : i ∉ vs := fun z => (R.freeV hv i z).1 p h
    obtain ⟨_, y', y3, y4⟩ := R'.io i p h
    rw [wipeS_at hi] at y3
    exact ⟨s1, y', by rw [restS_out hi]; exact y3, y4⟩
  · obtain ⟨s1, io, y1⟩ := R.lk i p c h
    have hi : i ∉ vs := fun z => (R.freeV hv i z).2 p c h
    obtain ⟨_, io', y3⟩ := R'.lk i p c h
    rw [wipeS_at hi] at y3
    exact ⟨s1, io', by rw [restS_out hi]; exact y3⟩
end
end Vi

namespace Vi
open PySem PySem.Spec L2
def repJ (K : PySem.W.Frag) : Fx → Wd → Hp → List Sl → Sg → List D × List Nat → It → Prop := fun g w _ r σ p J => SrcJ K (lkFx g (lockAll true p.2 r) σ) w J p.1 ∧ ∀ j ∈ p.2, ∃ io c, r[j]? = some (.own io false c)
section
variable {K : PySem.W.Frag} {g : Fx} {w w' : Wd} {r r' : List Sl} {cs cs' : List C} {σ σ' : Sg} {H H' : Hp}
theorem lockOf_free {os : List Od} {j : Nat} (h : j ∈ lockOf os r) : ∃ io c, r[j]? = some (.own io false c) := by
  unfold lockOf at h
  obtain ⟨o, _, e⟩ := List.mem_filterMap.mp h
  cases o with
  | val d => cases e
  | slot i =>
    dsimp only at e
    split at e
    · rename_i io c q
      cases e
      exact ⟨io, c, q⟩
    · cases e
theorem lbase_of (R : Rel K g w r cs σ H) {x : Od} {v : V} {ds : List D} (q : OdRep K w σ x v) (e : rd r x = some (.lst ds)) {is : List Nat} (hi : ∀ j ∈ lockOf [x] r, j ∈ is) : ∃ a, v = .ref a ∧ LBase K (lkFx g (lockAll true is r) σ) w a ds := by
  cases x with
  | val d =>
    cases e
    obtain ⟨p, vs, rfl, h1, h2⟩ := q
    exact ⟨p, rfl, .inl ⟨vs, SqL.of h1, h2⟩⟩
  | slot i =>
    have q : σ[i]? = some (some v) := q
    unfold rd at e
    dsimp only at e
    cases z : r[i]? with
    | none => simp [z] at e
    | some y =>
      cases y with
      | no => simp [z] at e
      | val io d =>
        simp [z] at e
        subst e
        obtain ⟨v', e1, p, vs, rfl, h1, h2⟩ := R.sl i _ z
        rw [q] at e1
        cases e1
        exact ⟨p, rfl, .inl ⟨vs, SqL.of h1, h2⟩⟩
      | own io lk c =>
        simp [z] at e
        obtain ⟨p, e1⟩ := R.ownAddr z
        rw [q] at e1
        cases e1
        have hc : c = .lst ds := by
          cases c with
          | lst es => cases e; rfl
          | dct _ _ => cases e
          | ins _ _ _ => cases e
        subst hc
        refine ⟨p, rfl, .inr ⟨i, lkOf_at (io := io) ?_ q⟩⟩
        rw [lockAll_own z]
        cases lk with
        | true => simp
        | false =>
          have : i ∈ is := hi i (by simp [lockOf, z])
          rw [if_pos this]
theorem unLst_eq {d : D} {ds : List D} (h : unLst d = some ds) : d = .lst ds := by
  cases d <;> first
    | (cases h; done)
    | (cases h; rfl)
theorem unTup_eq {d : D} {ds : List D} (h : unTup d = some ds) : d = .tup ds := by
  cases d <;> first
    | (cases h; done)
    | (cases h; rfl)
theorem small62_ok {i : Int} (h : small62 i = true) : -(2 ^ 62) ≤ i ∧ i < 2 ^ 62 := by
  unfold small62 at h
  simp only [Bool.and_eq_true, decide_eq_true_eq] at h
  omega
end
section
variable {X : Cx} {xr : XR} {W : WX} {tg e e2 : Expr} {pos p : Pos} {oa ob : List Sl → List C → Res Od}
abbrev tJ (K : PySem.W.Frag) (xr : XR) (W : WX) (m : List Sl → List C → Res (List D × List Nat)) : TI := tG K xr W (repJ K) m
theorem pi_weak {t t' : TI} (h : PI X tg e t) (k : ∀ σ H Q, t' σ H Q → t σ H Q) : PI X tg e t' := ⟨fun pins s σ H Q I q => h.run pins s σ H Q I (k σ H Q q)⟩
def iSeq (K : PySem.W.Frag) (tl : TE) : TI := fun σ H R => tl σ H fun x H1 => (∃ a, x = .ref a ∧ (∃ xs, SqL K H1 a xs) ∧ R (Itl K a) H1) ∨ ∃ a, x = .ref a ∧ (∃ xs, SqT K H1 a xs) ∧ R (Itt K a) H1
theorem pi_seq {l : Expr} {tl : TE} (hl : PE X l tl) : PI X tg l (iSeq X.K tl) := by
  refine ⟨fun pins s σ H R I h => ?_⟩
  refine thn (hl.run pins s σ H _ I h) fun v s1 ⟨x, H1, I1, r1, q1⟩ => ?_
  rcases q1 with ⟨a, e, hq, q⟩ | ⟨a, e, hq, q⟩
  · have hc : PE X (.Constant .none 0 ⟨0, 0, 0, 0⟩) (tC .non) := pe_non
    subst e
    cases r1
    obtain ⟨xs, hq⟩ := hq
    obtain ⟨its, rv, p, hz⟩ := I1.list hq
    refine PySem.wpAny_pyIter_list p.isList ?_
    refine ⟨s1.heap.objs.size, [s1.heap.objs.size], _, _, H1, rfl, I1.kept (t' := s1.toks) fun b o e => Heap.get?_push_of_some _ e, turn_list a _, ⟨_, Heap.get?_push_size _ rfl, rfl, rfl⟩, fun b hb => ?_, q⟩
    have e : b = s1.heap.objs.size := by simpa using hb
    subst e
    exact I1.fpOk (Nat.le_refl _) (I1.hok.fresh (Nat.le_refl _))
  · subst e
    cases r1
    obtain ⟨xs, hq⟩ := hq
    obtain ⟨its, rv, p, hz⟩ := I1.tuple hq
    refine PySem.wpAny_pyIter_tuple (show s1.heap.IsTuple a its.toArray from p) ?_
    refine ⟨s1.heap.objs.size, [s1.heap.objs.size], _, _, H1, rfl, I1.kept (t' := s1.toks) fun b o e => Heap.get?_push_of_some _ e, turn_tuple a _, ⟨_, Heap.get?_push_size _ rfl, rfl, rfl⟩, fun b hb => ?_, q⟩
    have e : b = s1.heap.objs.size := by simpa using hb
    subst e
    exact I1.fpOk (Nat.le_refl _) (I1.hok.fresh (Nat.le_refl _))
theorem unSeq_eq {d : D} {q : List D × Bool} (h : unSeq d = some q) : (d = .lst q.1 ∧ q.2 = true) ∨ (d = .tup q.1 ∧ q.2 = false) := by
  cases d <;> first
    | (cases h; done)
    | (cases h; exact .inl ⟨rfl, rfl⟩)
    | (cases h; exact .inr ⟨rfl, rfl⟩)
theorem pi_lstM (h : PE X e (tOm X.K xr W oa)) : PI X tg e (tJ X.K xr W fun r cs => (oa r cs).bind fun x r cs => (liftO ((rd r x).bind unSeq) r cs).bind fun q r cs => .ok (q.1, selL q.2 (lockOf [x] r)) r cs) := by
  refine pi_weak (pi_seq h) fun σ H Q ⟨g, w, r, cs, R, hp⟩ => ?_
  refine tG.mono (R.step hp) fun v H1 ⟨w1, r1, cs1, x, R1, e1, q1, k1⟩ => ?_
  obtain ⟨q, ed, k2⟩ := liftO_P k1.bind
  obtain ⟨d, e2, e3⟩ := Option.bind_eq_some_iff.mp ed
  obtain ⟨ds, b⟩ := q
  rcases unSeq_eq e3 with ⟨rfl, e4⟩ | ⟨rfl, e4⟩
  · have e4 : b = true := e4
    subst e4
    obtain ⟨a, rfl, b⟩ := lbase_of R1 q1 e2 (is := lockOf [x] r1) fun j hj => hj
    obtain ⟨xs, hx, _⟩ := b.here (R1.lock _)
    exact .inl ⟨a, rfl, ⟨xs, hx⟩, k2 w1 H1 _ R1 (Ext.refl _) ⟨.lst b, fun j hj => lockOf_free hj⟩⟩
  · have e4 : b = false := e4
    subst e4
    obtain ⟨a, xs, rfl, h1, h2⟩ := R1.rd q1 e2
    exact .inr ⟨a, rfl, ⟨xs, same_tup R1.ff h1⟩, k2 w1 H1 _ R1 (Ext.refl _) ⟨.tup h1 h2, fun j hj => nomatch hj⟩⟩
theorem pi_tupM (h : PE X e (tOm X.K xr W oa)) : PI X tg e (tJ X.K xr W fun r cs => (oa r cs).bind fun x r cs => (liftO ((rd r x).bind unTup) r cs).bind fun ds r cs => .ok (ds, []) r cs) := by
  refine pi_weak (pi_tup h) fun σ H Q ⟨g, w, r, cs, R, hp⟩ => ?_
  refine tG.mono (R.step hp) fun v H1 ⟨w1, r1, cs1, x, R1, e1, q1, k1⟩ => ?_
  obtain ⟨ds, ed, k2⟩ := liftO_P k1.bind
  obtain ⟨d, e2, e3⟩ := Option.bind_eq_some_iff.mp ed
  obtain rfl := unTup_eq e3
  obtain ⟨a, xs, rfl, h1, h2⟩ := R1.rd q1 e2
  exact ⟨a, rfl, ⟨xs, same_tup R1.ff h1⟩, k2 w1 H1 _ R1 (Ext.refl _) ⟨.tup h1 h2, fun j hj => nomatch hj⟩⟩
theorem reps_int1 {w : Wd} {K : PySem.W.Frag} {i : Int} {vs : List V} (h : Reps K w [.int i] vs) : vs = [.int i] := by
  obtain ⟨x, xs, rfl, h1, h2⟩ := h
  cases h2
  cases h1
  rfl
theorem reps_int2 {w : Wd} {K : PySem.W.Frag} {i j : Int} {vs : List V} (h : Reps K w [.int i, .int j] vs) : vs = [.int i, .int j] := by
  obtain ⟨x, xs, rfl, h1, h2⟩ := h
  cases h1
  rw [reps_int1 h2]
theorem rngD_one {ds l : List D} (h : rngD ds = some l) (hl : ds.length = 1) : ∃ j, ds = [.int j] ∧ small62 j = true ∧ l = rangeD 0 j.toNat := by
  unfold rngD at h
  split at h
  · rename_i j
    split at h
    · rename_i hs; cases h; exact ⟨j, rfl, hs, rfl⟩
    · cases h
  · cases hl
  · cases h
theorem rngD_two {ds l : List D} (h : rngD ds = some l) (hl : ds.length = 2) : ∃ i j, ds = [.int i, .int j] ∧ small62 i = true ∧ small62 j = true ∧ l = rangeD i (j - i).toNat := by
  unfold rngD at h
  split at h
  · cases hl
  · rename_i i j
    split at h
    · rename_i hs
      cases h
      obtain ⟨a, b⟩ := Bool.and_eq_true_iff.mp hs
      exact ⟨i, j, rfl, a, b, rfl⟩
    · cases h
  · cases h
theorem pi_rng1M {md : List Sl → List C → Res (List D)} (hg : Gl X "range") (hm : X.mg "range" = none) (ha : PA X [e] (tAD X.K xr W md)) (hl : ∀ r cs ds r' cs', md r cs = .ok ds r' cs' → ds.length = 1) (hs : starEach [e] X.env = [(false, eval e X.env)]) :
    PI X tg (.Call (.Name "range" p) [e] [] pos) (tJ X.K xr W fun r cs => (md r cs).bind fun ds r cs => (liftO (rngD ds) r cs).bind fun ds r cs => .ok (ds, []) r cs) := by
  refine pi_weak (pi_range1 hg hm ha hs) fun σ H Q ⟨g, w, r, cs, R, hp⟩ => ?_
  have hp2 : ((md r cs).bind fun ds r cs => if ds.length = 1 then (liftO (rngD ds) r cs).bind fun ds r cs => .ok (ds, []) r cs else .no).P (Fin X.K (repJ X.K) g w σ Q) (exW X.K xr W g w σ) := by
    dsimp only at hp
    cases q : md r cs with
    | ok ds r' cs' =>
      rw [q] at hp
      show (if ds.length = 1 then _ else _ : Res _).P _ _
      rw [if_pos (hl _ _ _ _ _ q)]
      exact hp
    | ex x r' cs' => rw [q] at hp; exact hp
    | no => rw [q] at hp; exact hp
  refine tG.mono (R.step (rep := repDs X.K) hp2) fun vs H1 ⟨w1, r1, cs1, ds, R1, e1, q1, k1⟩ => ?_
  split at k1
  · rename_i hl1
    obtain ⟨l, el, k2⟩ := liftO_P k1.bind
    obtain ⟨j, rfl, s1, rfl⟩ := rngD_one el hl1
    obtain ⟨b1, b2⟩ := small62_ok s1
    exact ⟨j, reps_int1 q1, b1, b2, k2 w1 H1 _ R1 (Ext.refl _) ⟨.rng, fun j hj => nomatch hj⟩⟩
  · exact k1.elim
theorem pi_rng2M {md : List Sl → List C → Res (List D)} (hg : Gl X "range") (hm : X.mg "range" = none) (ha : PA X [e, e2] (tAD X.K xr W md)) (hl : ∀ r cs ds r' cs', md r cs = .ok ds r' cs' → ds.length = 2) (hs : starEach [e, e2] X.env = [(false, eval e X.env), (false, eval e2 X.env)]) (hs2 : starEach [e2] X.env = [(false, eval e2 X.env)]) :
    PI X tg (.Call (.Name "range" p) [e, e2] [] pos) (tJ X.K xr W fun r cs => (md r cs).bind fun ds r cs => (liftO (rngD ds) r cs).bind fun ds r cs => .ok (ds, []) r cs) := by
  refine pi_weak (pi_range2 hg hm ha hs hs2) fun σ H Q ⟨g, w, r, cs, R, hp⟩ => ?_
  have hp2 : ((md r cs).bind fun ds r cs => if ds.length = 2 then (liftO (rngD ds) r cs).bind fun ds r cs => .ok (ds, []) r cs else .no).P (Fin X.K (repJ X.K) g w σ Q) (exW X.K xr W g w σ) := by
    dsimp only at hp
    cases q : md r cs with
    | ok ds r' cs' =>
      rw [q] at hp
      show (if ds.length = 2 then _ else _ : Res _).P _ _
      rw [if_pos (hl _ _ _ _ _ q)]
      exact hp
    | ex x r' cs' => rw [q] at hp; exact hp
    | no => rw [q] at hp; exact hp
  refine tG.mono (R.step (rep := repDs X.K) hp2) fun vs H1 ⟨w1, r1, cs1, ds, R1, e1, q1, k1⟩ => ?_
  split at k1
  · rename_i hl1
    obtain ⟨l, el, k2⟩ := liftO_P k1.bind
    obtain ⟨i, j, rfl, s1, s2, rfl⟩ := rngD_two el hl1
    obtain ⟨b1, b2⟩ := small62_ok s1
    obtain ⟨b3, b4⟩ := small62_ok s2
    exact ⟨i, j, reps_int2 q1, ⟨b1, b2, b3, b4⟩, k2 w1 H1 _ R1 (Ext.refl _) ⟨.rng, fun j hj => nomatch hj⟩⟩
  · exact k1.elim
theorem pi_enumM {tpos : Pos} {elts : List Expr} {kk : Nat} (hg : Gl X "enumerate") (hm : X.mg "enumerate" = none) (ha : PE X e (tOm X.K xr W oa)) (hs : starEach [e] X.env = [(false, eval e X.env)]) :
    PI X (.Tuple elts kk tpos) (.Call (.Name "enumerate" p) [e] [] pos) (tJ X.K xr W fun r cs => (oa r cs).bind fun x r cs => (liftO ((rd r x).bind unLst) r cs).bind fun ds r cs => .ok (enumD ds, lockOf [x] r) r cs) := by
  refine pi_weak (pi_enum hg hm (pa_cons ha pa_nil hs) hs) fun σ H Q ⟨g, w, r, cs, R, hp⟩ => ?_
  refine tG.mono (R.step hp) fun v H1 ⟨w1, r1, cs1, x, R1, e1, q1, k1⟩ => ?_
  obtain ⟨ds, ed, k2⟩ := liftO_P k1.bind
  obtain ⟨d, e2, e3⟩ := Option.bind_eq_some_iff.mp ed
  obtain rfl := unLst_eq e3
  obtain ⟨a, rfl, b⟩ := lbase_of R1 q1 e2 (is := lockOf [x] r1) fun j hj => hj
  obtain ⟨xs, hx, _⟩ := b.here (R1.lock _)
  exact ⟨a, xs, rfl, hx, k2 w1 H1 _ R1 (Ext.refl _) ⟨.enm b, fun j hj => lockOf_free hj⟩⟩
theorem pi_zipM {tpos : Pos} {elts : List Expr} {kk : Nat} (hg : Gl X "zip") (hm : X.mg "zip" = none) (ha : PE X e (tOm X.K xr W oa)) (hb : PE X e2 (tOm X.K xr W ob)) (hs : starEach [e, e2] X.env = (false, eval e X.env) :: starEach [e2] X.env) (hs2 : starEach [e2] X.env = [(false, eval e2 X.env)]) (hpl : (backTo pos (starEach [e2] X.env)).any (·.1) = false) :
    PI X (.Tuple elts kk tpos) (.Call (.Name "zip" p) [e, e2] [] pos) (tJ X.K xr W fun r cs => (oa r cs).bind fun x r cs => (ob r cs).bind fun y r cs =>
      (liftO ((rd r x).bind unLst) r cs).bind fun ds r cs => (liftO ((rd r y).bind unLst) r cs).bind fun es r cs => .ok (zipD ds es, lockOf [x, y] r) r cs) := by
  refine pi_weak (pi_zip hg hm (pa_cons ha (pa_cons hb pa_nil hs2) hs) hs hpl) fun σ H Q ⟨g, w, r, cs, R, hp⟩ => ?_
  refine tG.mono (R.step hp) fun v H1 ⟨w1, r1, cs1, x, R1, e1, q1, k1⟩ => ?_
  refine tG.mono (R1.step k1) fun u H2 ⟨w2, r2, cs2, y, R2, e2, q2, k2⟩ => ?_
  obtain ⟨ds, ed, k3⟩ := liftO_P k2.bind
  obtain ⟨d, e3, e4⟩ := Option.bind_eq_some_iff.mp ed
  obtain rfl := unLst_eq e4
  obtain ⟨es, ed, k4⟩ := liftO_P k3.bind
  obtain ⟨d, e5, e6⟩ := Option.bind_eq_some_iff.mp ed
  obtain rfl := unLst_eq e6
  have m1 : ∀ j ∈ lockOf [x] r2, j ∈ lockOf [x, y] r2 := fun j hj => by
    unfold lockOf at hj ⊢
    obtain ⟨o, ho, e⟩ := List.mem_filterMap.mp hj
    exact List.mem_filterMap.mpr ⟨o, by simp at ho; simp [ho], e⟩
  have m2 : ∀ j ∈ lockOf [y] r2, j ∈ lockOf [x, y] r2 := fun j hj => by
    unfold lockOf at hj ⊢
    obtain ⟨o, ho, e⟩ := List.mem_filterMap.mp hj
    exact List.mem_filterMap.mpr ⟨o, by simp at ho; simp [ho], e⟩
  obtain ⟨a, rfl, b1⟩ := lbase_of R2 (OdRep.mono q1 e2) e3 m1
  obtain ⟨a2, rfl, b2⟩ := lbase_of R2 q2 e5 m2
  obtain ⟨xs, hx, _⟩ := b1.here (R2.lock _)
  obtain ⟨ys, hy, _⟩ := b2.here (R2.lock _)
  exact ⟨a, a2, xs, ys, rfl, hx, hy, k4 w2 H2 _ R2 (Ext.refl _) ⟨.zip b1 b2, fun j hj => lockOf_free hj⟩⟩
end
/-! ### for -/
theorem unlockR_P {α : Type} {is : List Nat} {m : Res α} {k : α → List Sl → List C → Prop} {e : Ex → List Sl → List C → Prop} (h : (unlockR is m).P k e) : m.P (fun a r cs => k a (lockAll false is r) cs) (fun x r cs => e x (lockAll false is r) cs) := by
  cases m <;> exact h
section
variable {X : Cx} {xr : XR} {W : WX} {tgE iter : Expr} {body : List Stmt} {pos : Pos} {tg : Tg} {src : List Sl → List C → Res (List D × List Nat)} {mb : List Sl → List C → Res Fl}
theorem ps_forM (hp : PassesOwn (model X.prog X.w) X.A X.env X.xe) (hc : X.calm = true) (hi : PI X tgE iter (tJ X.K xr W src)) (hg : PG X tgE (gOf X.K tg)) (hb : PSs X body (tS X.K xr W mb)) (hs : ∀ x, foldedSetIterable iter X.env x = pure x) :
    PS X (.For tgE iter body [] pos) (tS X.K xr W fun r cs => (src r cs).bind fun p r cs => unlockR p.2 (forL (bindT tg) mb p.1 (lockAll true p.2 r) cs)) := by
  refine ps_weak (ps_for hp hc hi hg hb hs) fun D σ H ⟨g, w, r, cs, g0, R, h⟩ => ?_
  refine tG.mono (R.stepS (rep := repJ X.K) h) fun J H1 ⟨w1, r1, cs1, p, R1, e1, ⟨S, fr⟩, k1⟩ => ?_
  obtain ⟨ds, is⟩ := p
  have k1 := unlockR_P k1
  dsimp only at k1 S fr
  generalize hg1 : lkFx g (lockAll true is r1) σ = g1 at S
  have R2 : Rel X.K g1 w1 (lockAll true is r1) cs1 σ H1 := hg1 ▸ R1.lock is
  have un : ∀ {w' r' cs' σ' H'}, Rel X.K g1 w' r' cs' σ' H' → Rel X.K g w' (lockAll false is r') cs' σ' H' := fun {w' r' cs' σ' H'} R' => R1.unlock fr (hg1 ▸ R')
  have g10 : g1.E0 = g1.H0 := by rw [← hg1]; exact g0
  have gg : g1.H0 = g.H0 ∧ g1.W = g.W ∧ g1.E0 = g.E0 := by rw [← hg1]; exact ⟨rfl, rfl, rfl⟩
  refine ⟨fun i m σ' H' => i + m = ds.length ∧ ∃ w' r' cs', Rel X.K g1 w' r' cs' σ' H' ∧ Ext w1 w' ∧ (forL (bindT tg) mb (ds.drop i) r' cs').P (fun a r cs => FinS X.K g w1 D a (lockAll false is r) cs) (fun x r cs => exWS X.K xr W g w1 x (lockAll false is r) cs), ⟨ds.length, by simp, w1, _, _, R2, Ext.refl _, k1⟩, ?_⟩
  rintro i m σ' H' ⟨him, w', r', cs', R', e', k⟩
  by_cases hi : i < ds.length
  · have hd : ds[i]? = some ds[i] := List.getElem?_eq_getElem hi
    have S' := S.mono e'
    refine .inr ⟨S'.go R' hd, fun σ'' H'' => i + 1 + (m - 1) = ds.length ∧ ∃ w' r' cs', Rel X.K g1 w' r' cs' σ'' H'' ∧ Ext w1 w' ∧ (forL (bindT tg) mb (ds.drop (i + 1)) r' cs').P (fun a r cs => FinS X.K g w1 D a (lockAll false is r) cs) (fun x r cs => exWS X.K xr W g w1 x (lockAll false is r) cs),
      fun σ'' H'' hN => ⟨m - 1, by omega, hN⟩, fun x H'' y => ?_⟩
    obtain ⟨w2, px, rx⟩ := S'.yld R' hd y
    have R3 := R'.pure px
    rw [List.drop_eq_getElem_cons hi] at k
    obtain ⟨r3, e3, k3⟩ := liftO_P (show ((liftO (bindT tg ds[i] r') r' cs').bind fun r _ _ => (mb r cs').bind fun fl r cs => match fl with
      | .nx => forL (bindT tg) mb (ds.drop (i + 1)) r cs
      | .ct => forL (bindT tg) mb (ds.drop (i + 1)) r cs
      | .bk => .ok .nx r cs
      | .rt v => .ok (.rt v) r cs).P _ _ from k).bind
    refine gOf_ok R3 e3 rx fun σ3 R4 => ⟨g1, w2, r3, cs', g10, R4, k3.bind.mono (fun fl r4 cs4 z => ?_) fun x r4 cs4 z w4 σ4 H4 cls d R5 e5 q => z w4 σ4 H4 cls d (un R5) ((e'.trans px.ext).trans e5) q⟩
    intro w4 σ4 H4 R5 e5
    have e6 := (e'.trans px.ext).trans e5
    cases fl with
    | nx => exact ⟨by omega, w4, r4, cs4, R5, e6, z⟩
    | ct => exact ⟨by omega, w4, r4, cs4, R5, e6, z⟩
    | bk => exact z w4 σ4 H4 (un R5) e6
    | rt v =>
      intro x hx
      refine z w4 σ4 H4 (un R5) e6 x ?_
      cases v with
      | val d => exact hx
      | own c =>
        obtain ⟨p, rfl, a1, a2, a3, a4, a5, a6, a7⟩ := hx
        rw [gg.1] at a4
        rw [gg.2.1] at a5
        rw [gg.2.2] at a6
        exact ⟨p, rfl, a1, a2, a3, a4, a5, a6, fun j q => a7 j q.unlock⟩
  · have hie : i = ds.length := by omega
    subst hie
    rw [List.drop_length] at k
    exact .inl ⟨(S.mono e').stop R', k w' σ' H' (un R') e'⟩
end
/-! ### [.. for .. in ..] -/
def WF : WX := fun _ _ _ _ => False
theorem noEx_P {α : Type} {m : Res α} {k : α → List Sl → List C → Prop} {e : Ex → List Sl → List C → Prop} (h : (noEx m).P k e) : m.P k fun _ _ _ => False := by
  cases m <;> exact h
section
variable {K : PySem.W.Frag} {xr : XR} {W : WX} {g : Fx} {tg : Tg} {vs : List Nat} {src : List Sl → List C → Res (List D × List Nat)} {mt : List Sl → List C → Res Bool} {me : List Sl → List C → Res D} {w1 : Wd} {r1 : List Sl} {cs1 : List C} {σ : Sg} {H1 : Hp} {Q : VK}
/-- what a list comprehension does, behind its source -/
theorem lc_ok (htg : ∀ j ∈ tg.vars, j ∈ vs) {J : It} {ds : List D} {is : List Nat} (R1 : Rel K g w1 r1 cs1 σ H1) (S : SrcJ K (lkFx g (lockAll true is r1) σ) w1 J ds) (fr : ∀ j ∈ is, ∃ io c, r1[j]? = some (.own io false c)) (hv : noOwn vs r1 = true)
    (k1 : (compL (fun d r => bindT tg d (wipeS vs r)) mt me ds (lockAll true is r1) cs1 []).P (fun a r' cs => ∀ w' H' p, Rel K g w' (lockAll false is (restS vs r1 r')) cs σ H' → Ext w1 w' → RvRep K g w' H' (lockAll false is (restS vs r1 r')) σ (.own (.lst a)) (.ref p) → Q (.ref p) H') fun _ _ _ => False) :
    ∀ D, H1 D = none → ∃ Wv : Nat → Nat → Hp → Prop, (∃ m, Wv 0 m (upd H1 D (.lst []))) ∧ ∀ i m H, Wv i m H →
  (J.stop i H ∧ Q (.ref D) H) ∨ (J.go i H ∧ ∃ Nx : Hp → Prop, (∀ H', Nx H' → ∃ m', m' < m ∧ Wv (i + 1) m' H') ∧ ∀ x H', J.yld i H x H' → gOf K tg x (wipe σ vs) H' fun σ2 H2 => wipe σ2 vs = wipe σ vs ∧ tG K xr WF repB mt σ2 H2 fun b H3 =>
    if b = true then tG K xr WF (repD K) me σ2 H3 fun y H4 => ∃ acc, H4 D = some (.lst acc) ∧ acc.length < sizeLine ∧ Nx (upd H4 D (.lst (acc ++ [y]))) else Nx H3) := by
  intro D hD
  generalize hg1 : lkFx g (lockAll true is r1) σ = g1 at S
  have RL : Rel K g1 w1 (lockAll true is r1) cs1 σ H1 := hg1 ▸ R1.lock is
  have hvL : noOwn vs (lockAll true is r1) = true := by
    refine List.all_eq_true.mpr fun i hi => ?_
    have q := List.all_eq_true.mp hv i hi
    split at q
    · rename_i e; rw [lockAll_oth rfl e]
    · rename_i d e; rw [lockAll_oth rfl e]
    · cases q
  have hf := RL.freeV hvL
  have gg : g1.H0 = g.H0 ∧ g1.W = g.W ∧ g1.E0 = g.E0 := by rw [← hg1]; exact ⟨rfl, rfl, rfl⟩
  obtain ⟨d0, dW, dph, dow⟩ := RL.fresh hD
  have dE := RL.freshE hD
  have p0 := PureX.newOwn (o := .lst []) RL.ff hD
  have hF : w1.F D = none := by
    cases q : w1.F D with
    | none => rfl
    | some o => rw [RL.ff _ _ q] at hD; cases hD
  -- the state at a turn
  let St : Nat → Hp → Wd → List Sl → List C → List Vi.D → Prop := fun i H' w' r' cs' acc => Rel K g1 w' (wipeS vs r') cs' (wipe σ vs) H' ∧ Ext w1 w' ∧ (∃ ys, Apart w' (wipeS vs r') (wipe σ vs) H' D (.lst ys) ∧ Reps K w' acc ys) ∧
    (compL (fun d r => bindT tg d (wipeS vs r)) mt me (ds.drop i) r' cs' acc).P (fun a r' cs => ∀ w' H' p, Rel K g w' (lockAll false is (restS vs r1 r')) cs σ H' → Ext w1 w' → RvRep K g w' H' (lockAll false is (restS vs r1 r')) σ (.own (.lst a)) (.ref p) → Q (.ref p) H') fun _ _ _ => False
  refine ⟨fun i m H' => i + m = ds.length ∧ ∃ w' r' cs' acc, St i H' w' r' cs' acc, ⟨ds.length, by simp, w1, _, _, [], (RL.pure p0).wipeV hf, Ext.refl _, ⟨[], ⟨upd_same, hF, dph, fun i q => dow i (wipeS_own q)⟩, rfl⟩, k1⟩, ?_⟩
  rintro i m H' ⟨him, w', r', cs', acc, R', e', ⟨ys, ap, ry⟩, k⟩
  by_cases hi : i < ds.length
  · have hd : ds[i]? = some ds[i] := List.getElem?_eq_getElem hi
    have S' := S.mono e'
    refine .inr ⟨S'.go R' hd, fun H'' => ∃ w' r' cs' acc, St (i + 1) H'' w' r' cs' acc, fun H'' hN => ⟨m - 1, by omega, by omega, hN⟩, fun x H'' y => ?_⟩
    obtain ⟨w2, px, rx⟩ := S'.yld R' hd y
    have R2 := R'.pure px
    have ap2 := ap.pure px
    rw [List.drop_eq_getElem_cons hi] at k
    obtain ⟨r3, e3, k3⟩ := liftO_P (show ((liftO (bindT tg ds[i] (wipeS vs r')) r' cs').bind fun r _ _ => (mt r cs').bind fun b r cs => match b with
      | true => (me r cs).bind fun x r cs => if acc.length < sizeLine then compL (fun d r => bindT tg d (wipeS vs r)) mt me (ds.drop (i + 1)) r cs (acc ++ [x]) else .no
      | false => compL (fun d r => bindT tg d (wipeS vs r)) mt me (ds.drop (i + 1)) r cs acc).P _ _ from k).bind
    refine gOf_okT R2 e3 rx fun σ3 R3 t3 => ?_
    have hw : wipe σ3 vs = wipe σ vs := by
      apply List.ext_getElem?
      intro j
      rw [wipe_at, wipe_at]
      by_cases hj : j ∈ vs
      · rw [if_pos hj, if_pos hj]
        have l3 := t3.len
        rw [wipe_length] at l3
        by_cases hl : j < σ.length
        · rw [List.getElem?_eq_getElem hl, List.getElem?_eq_getElem (by omega)]; rfl
        · rw [List.getElem?_eq_none (by omega), List.getElem?_eq_none (by omega)]
      · rw [if_neg hj, if_neg hj, t3.st j fun z => hj (htg j z), wipe_at, if_neg hj]
    have ap3 : Apart w2 r3 σ3 H'' D (.lst ys) := ⟨ap2.at_, ap2.F, ap2.ph, fun j q => ap2.own j (t3.own j D q)⟩
    have R3b := R3.rb
    refine ⟨hw, ⟨_, w2, r3, cs', R3b, k3.bind.mono (fun b r4 cs4 z => ?_) fun x r4 cs4 z => z.elim⟩⟩
    intro w4 H4 b' R4 e4 hb
    have hb : b = b' := hb
    subst hb
    have ap4 := R3.apart R4 ap3
    cases b with
    | false =>
      refine iteF ?_
      have R5 := R3.back R4
      have R6 := hw ▸ R5.wipeV hf
      exact ⟨w4, r4, cs4, acc, R6, (e'.trans px.ext).trans e4, ⟨ys, ⟨ap4.at_, ap4.F, ap4.ph, fun j q => ap4.own j (wipeS_own (by rw [hw]; exact q))⟩, ry.mono (px.ext.trans e4)⟩, z⟩
    | true =>
      refine iteT ⟨_, w4, r4, cs4, R4, z.bind.mono (fun d r5 cs5 z2 => ?_) fun x r5 cs5 z2 => z2.elim⟩
      intro w5 H5 v R5 e5 hr
      have hr : Rep K w5 d v := hr
      have ap5 := R3.apart R5 ap3
      split at z2
      · rename_i hl
        refine ⟨ys, ap5.at_, by rw [ry.length]; exact hl, ?_⟩
        obtain ⟨R6, ap6⟩ := (R3.back R5).updA (o' := .lst (ys ++ [v])) ap5 d0
        have R7 := hw ▸ R6.wipeV hf
        exact ⟨w5, r5, cs5, acc ++ [d], R7, ((e'.trans px.ext).trans e4).trans e5, ⟨ys ++ [v], ⟨ap6.at_, ap6.F, ap6.ph, fun j q => ap6.own j (wipeS_own (by rw [hw]; exact q))⟩, (ry.mono ((px.ext.trans e4).trans e5)).append (Reps.one hr)⟩, z2⟩
      · exact z2.elim
  · have hie : i = ds.length := by omega
    subst hie
    rw [List.drop_length] at k
    refine .inl ⟨(S.mono e').stop R', ?_⟩
    have R8 : Rel K g1 w' (restS vs (lockAll true is r1) r') cs' σ H' := RL.restV hvL R' e'
    have er : restS vs (lockAll true is r1) r' = restS vs r1 r' := by
      apply List.ext_getElem?
      intro j
      by_cases hj : j ∈ vs
      · have l1 : r1.length = r'.length := by
          have := R'.len
          rw [wipeS_len, wipe_length] at this
          rw [R1.len, this]
        rw [restS_in hj (by rw [lockAll_len]; exact l1), restS_in hj l1]
        obtain ⟨x, q1, q2, _⟩ := noOwn_at hv hj
        rw [q1, lockAll_oth q2 q1]
      · rw [restS_out hj, restS_out hj]
    rw [er] at R8
    have R9 := R1.unlock fr (hg1 ▸ R8)
    refine k w' H' D R9 e' ⟨D, rfl, ⟨ys, ap.at_, ry⟩, ap.F, ap.ph, by rw [← gg.1]; exact d0, by rw [← gg.2.1]; exact dW, by rw [← gg.2.2]; exact dE, fun j q => ?_⟩
    obtain ⟨io, lk, c, q1, q2⟩ := q.unlock
    by_cases hj : j ∈ vs
    · have l1 : r1.length = r'.length := by
        have := R'.len
        rw [wipeS_len, wipe_length] at this
        rw [R1.len, this]
      rw [restS_in hj l1] at q1
      obtain ⟨x, z1, z2, _⟩ := noOwn_at hv hj
      rw [q1] at z1
      cases z1
      cases z2
    · rw [restS_out hj] at q1
      exact ap.own j ⟨io, lk, c, by rw [wipeS_at hj]; exact q1, by rw [wipe_at, if_neg hj]; exact q2⟩
/-! ### dicts walked -/
theorem unDct_eq {d : D} {p : List Key × List D} (h : unDct d = some p) : d = .dct p.1 p.2 := by
  cases d <;> cases h
  rfl
theorem pi_dctM {m : List Sl → List C → Res Rv} {tgE it : Expr} {f : List Key × List D → List D} {mk : Addr → Obj → List (Key × V) → It} (hpi : PI X tgE it fun σ H R => (tDm X.K xr W fun r cs => (m r cs).d) σ H fun x H1 => ∃ d o kvs, x = .ref d ∧ H1 d = some (.frz o (.dK kvs)) ∧ R (mk d o kvs) H1)
    (hf : ∀ (g : Fx) (w : Wd) (d : Addr) (o : Obj) (kvs : List (Key × V)) (ks : List Key) (ds : List D), w.F d = some (.frz o (.dK kvs)) → kvs.map (·.1) = ks → Reps X.K w ds (kvs.map (·.2)) → SrcJ X.K g w (mk d o kvs) (f (ks, ds))) :
    PI X tgE it (tJ X.K xr W fun r cs => (m r cs).d.bind fun d r cs => (liftO (unDct d) r cs).bind fun p r cs => .ok (f p, []) r cs) := by
  refine pi_weak hpi fun σ H Q ⟨g, w, r, cs, R, hp⟩ => ?_
  refine tG.mono (R.step (rep := repD X.K) hp) fun v H1 ⟨w1, r1, cs1, d, R1, e1, q1, k1⟩ => ?_
  obtain ⟨p, ep, k2⟩ := liftO_P k1.bind
  obtain ⟨ks, ds⟩ := p
  obtain rfl := unDct_eq ep
  obtain ⟨a, o, kvs, rfl, h1, h2, h3⟩ := q1
  exact ⟨a, o, kvs, rfl, R1.ff _ _ h1, k2 w1 H1 _ R1 (Ext.refl _) ⟨hf _ _ _ _ _ _ _ h1 h2 h3, fun j hj => nomatch hj⟩⟩
theorem pi_itemsM {m : List Sl → List C → Res Rv} {elts : List Expr} {kk : Nat} {tpos apos cpos : Pos} (he : PE X e (tM X.K xr W m)) (hb : attributeBase e "items" X.env (eval e X.env) = eval e X.env) (hl : (apos.endLine == cpos.line) = true) :
    PI X (.Tuple elts kk tpos) (.Call (.Attribute e "items" apos) [] [] cpos) (tJ X.K xr W fun r cs => (m r cs).d.bind fun d r cs => (liftO (unDct d) r cs).bind fun p r cs => .ok (itemsD p.1 p.2, []) r cs) :=
  pi_dctM (f := fun p => itemsD p.1 p.2) (mk := Iti) (pi_items (pe_frz he) hb hl) fun g w d o kvs ks ds h1 h2 h3 => by subst h2; exact .items h1 h3
theorem pi_valsM {m : List Sl → List C → Res Rv} {tgE : Expr} {apos cpos : Pos} (he : PE X e (tM X.K xr W m)) (hb : attributeBase e "values" X.env (eval e X.env) = eval e X.env) (hl : (apos.endLine == cpos.line) = true) :
    PI X tgE (.Call (.Attribute e "values" apos) [] [] cpos) (tJ X.K xr W fun r cs => (m r cs).d.bind fun d r cs => (liftO (unDct d) r cs).bind fun p r cs => .ok (p.2, []) r cs) :=
  pi_dctM (f := fun p => p.2) (mk := Itd) (pi_values (pe_frz he) hb hl) fun g w d o kvs ks ds h1 h2 h3 => .vals h1 h3
theorem pi_keysDM {m : List Sl → List C → Res Rv} {tgE : Expr} (he : PE X e (tM X.K xr W m)) :
    PI X tgE e (tJ X.K xr W fun r cs => (m r cs).d.bind fun d r cs => (liftO (unDct d) r cs).bind fun p r cs => .ok (p.1.map Key.d, []) r cs) :=
  pi_dctM (f := fun p => p.1.map Key.d) (mk := Itk) (pi_weak (pi_keys (pe_frz he)) fun σ H R h => tG.mono h fun x H1 ⟨d, o, kvs, e1, e2, e3⟩ => ⟨d, o, e1, .inl ⟨kvs, e2, e3⟩⟩) fun g w d o kvs ks ds h1 h2 h3 => by subst h2; exact .keys h1
end
end Vi

namespace Vi
open PySem PySem.Spec L2
section
variable {X : Cx} {xr : XR} {W : WX} {elt tgE iter : Expr} {ifs : List Expr} {scope : Scope} {own : List (Str × Nat)} {pos : Pos} {tg : Tg}
  {src : List Sl → List C → Res (List D × List Nat)} {mt : List Sl → List C → Res Bool} {me : List Sl → List C → Res D}
/-- the reading of a list comprehension -/
def lcM (src : List Sl → List C → Res (List D × List Nat)) (tg : Tg) (mt : List Sl → List C → Res Bool) (me : List Sl → List C → Res D) (vs : List Nat) : List Sl → List C → Res Rv := fun r cs => (src r cs).bind fun p r cs =>
      if noOwn vs r then
        unlockR p.2 ((noEx (compL (fun d r => bindT tg d (wipeS vs r)) mt me p.1 (lockAll true p.2 r) cs [])).bind fun ds r' cs => .ok (.own (.lst ds)) (restS vs r r') cs)
      else .no
structure BlkRd (X : Cx) (xr : XR) (elt tgE : Expr) (ifs : List Expr) (scope : Scope) (tg : Tg) (mt : List Sl → List C → Res Bool) (me : List Sl → List C → Res D) : Prop where
  g : ∀ (s : Shared) (H : Hp) (C : Addr) (cl : List (Str × Addr)) (fp : List Addr), PG (X.blk s H scope (compEnvC scope cl C X.env) fp) tgE (gOf X.K tg)
  t : ∀ (s : Shared) (H : Hp) (C : Addr) (cl : List (Str × Addr)) (fp : List Addr), PTs (X.blk s H scope (compEnvC scope cl C X.env) fp) ifs (tTM X.K xr WF mt)
  e : ∀ (s : Shared) (H : Hp) (C : Addr) (cl : List (Str × Addr)) (fp : List Addr), PE (X.blk s H scope (compEnvC scope cl C X.env) fp) elt (tDm X.K xr WF me)
theorem lcM_P {α : Type} {src : List Sl → List C → Res (List D × List Nat)} {vs : List Nat} {r : List Sl} {cs : List C} {p : List D × List Nat} {f : Rv → List Sl → List C → Res α} {k : α → List Sl → List C → Prop} {e : Ex → List Sl → List C → Prop}
    (h : ((if noOwn vs r then unlockR p.2 ((noEx (compL (fun d r => bindT tg d (wipeS vs r)) mt me p.1 (lockAll true p.2 r) cs [])).bind fun ds r' cs => .ok (.own (.lst ds)) (restS vs r r') cs) else .no).bind f).P k e) :
    noOwn vs r = true ∧ (compL (fun d r => bindT tg d (wipeS vs r)) mt me p.1 (lockAll true p.2 r) cs []).P (fun a r' cs => (f (.own (.lst a)) (lockAll false p.2 (restS vs r r')) cs).P k e) fun _ _ _ => False := by
  split at h
  · rename_i hv
    refine ⟨hv, ?_⟩
    cases q : compL (fun d r => bindT tg d (wipeS vs r)) mt me p.1 (lockAll true p.2 r) cs [] <;> rw [q] at h <;> exact h
  · exact h.elim
theorem pe_lcM (hc : X.calm = true) (hN : X.N.Nodup) (hi : PI X tgE iter (tJ X.K xr W src)) (ok : BlkOk X.N X.env.scope scope own) (hb : BlkRd X xr elt tgE ifs scope tg mt me) (htg : ∀ j ∈ tg.vars, j ∈ own.map (·.2)) (hs : ∀ x, foldedSetIterable iter X.env x = pure x) :
    PE X (.ListComp elt [⟨tgE, iter, ifs, 0⟩] scope pos) (tM X.K xr W (lcM src tg mt me (own.map (·.2)))) := by
  refine pe_weak (pe_lc hc hN hi ok hb.g hb.t hb.e hs) fun σ H Q ⟨g, w, r, cs, R, hp⟩ => ?_
  refine tG.mono (R.step (rep := repJ X.K) hp) fun J H1 ⟨w1, r1, cs1, p, R1, e1, ⟨S, fr⟩, k1⟩ => ?_
  have bo : ∀ (mm : Res Rv), mm.bind (fun v r cs => .ok v r cs) = mm := fun mm => by cases mm <;> rfl
  obtain ⟨hv, k1⟩ := lcM_P (src := src) (p := p) (f := fun v r cs => .ok v r cs) (k := Fin X.K (repV X.K) g w1 σ Q) (e := exW X.K xr W g w1 σ) (by rw [bo]; exact k1)
  exact lc_ok htg R1 S fr hv (k1.mono (fun a r' cs z w' H' b R' e' q => z w' H' (.ref b) R' e' q) fun _ _ _ z => z)
theorem ps_setLcM {i : Nat} {y : Str} {py spos : Pos} (hc : X.calm = true) (hN : X.N.Nodup) (hy : X.N[i]? = some y) (hyl : X.env.scope.names.lookup y = some .local)
    (hsw : swapsWith (.ListComp elt [⟨tgE, iter, ifs, 0⟩] scope pos) (some (.Name y py)) spos.line X.env = pure true) (hi : PI X tgE iter (tJ X.K xr W src)) (ok : BlkOk X.N X.env.scope scope own) (hb : BlkRd X xr elt tgE ifs scope tg mt me) (htg : ∀ j ∈ tg.vars, j ∈ own.map (·.2)) (hs : ∀ x, foldedSetIterable iter X.env x = pure x) :
    PS X (.Assign [.Name y py] (.ListComp elt [⟨tgE, iter, ifs, 0⟩] scope pos) spos) (tS X.K xr W fun r cs => (lcM src tg mt me (own.map (·.2)) r cs).bind fun v r cs => (liftO (setV i v r) r cs).bind fun r _ _ => .ok .nx r cs) := by
  refine ps_weak (ps_setLc hc hN hy hyl hsw hi ok hb.g hb.t hb.e hs) fun D σ H ⟨g, w, r, cs, g0, R, hp⟩ => ?_
  have hp2 : ((src r cs).bind fun p r cs => (if noOwn (own.map (·.2)) r then
        unlockR p.2 ((noEx (compL (fun d r => bindT tg d (wipeS (own.map (·.2)) r)) mt me p.1 (lockAll true p.2 r) cs [])).bind fun ds r' cs => Res.ok (Rv.own (.lst ds)) (restS (own.map (·.2)) r r') cs)
      else .no).bind fun v r cs => (liftO (setV i v r) r cs).bind fun r _ _ => Res.ok Fl.nx r cs).P (FinS X.K g w D) (exWS X.K xr W g w) := by
    unfold lcM at hp
    dsimp only at hp
    cases q : src r cs <;> rw [q] at hp <;> exact hp
  refine tG.mono (R.stepS (rep := repJ X.K) hp2) fun J H1 ⟨w1, r1, cs1, p, R1, e1, ⟨S, fr⟩, k1⟩ => ?_
  obtain ⟨hv, k1⟩ := lcM_P (src := src) k1
  refine lc_ok (Q := fun x H1 => gName i x σ H1 D.nx) htg R1 S fr hv (k1.mono (fun a r' cs z w' H' b R' e' q => ?_) fun _ _ _ z => z)
  obtain ⟨r2, e2, k2⟩ := liftO_P z.bind
  exact k2 w' _ H' (R'.setV e2 q) e'
theorem pts_weak {t t' : TT} (h : PTs X ifs t) (k : ∀ σ H Q, t' σ H Q → t σ H Q) : PTs X ifs t' := ⟨fun pins s σ H Q I q => h.run pins s σ H Q I (k σ H Q q)⟩
theorem pts0M : PTs X [] (tTM X.K xr W fun r cs => .ok true r cs) := pts_weak pts_nil fun σ H Q ⟨g, w, r, cs, R, h⟩ => h w H true R (Ext.refl _) rfl
/-! ### x[k] = e -/
theorem PSet.or {t t' : TSet} (h : PSet X t) (h' : PSet X t') : PSet X fun o i v H Q => t o i v H Q ∨ t' o i v H Q := fun pins s σ H o i v ov iv u Q I ro ri rv q => by
  rcases q with q | q
  · exact h pins s σ H o i v ov iv u Q I ro ri rv q
  · exact h' pins s σ H o i v ov iv u Q I ro ri rv q
theorem ps_setIM {i : Nat} {x : Str} {e k : Expr} {p0 p1 : Pos} {m mk : List Sl → List C → Res Rv} (hu : X.A.units + 1 < cLine) (hN : X.N[i]? = some x) (hv : Vis X.env.scope x) (hd : (x == ("__debug__" : Str)) = false) (hcd : (x == ("__classdict__" : Str)) = false)
    (he : PE X e (tM X.K xr W m)) (hk : PE X k (tM X.K xr W mk))
    (ha : ∀ v, assign (.Subscript (.Name x p0) k p1) X.env v = (do
      let ov ← holding [v] (eval (.Name x p0) X.env)
      let iv ← holding [v, ov] (eval k X.env)
      standAt p1
      holding [v, ov, iv] (setItem ov iv v)
      release [v, ov, iv] []))
    (hs : swapsWithSole [.Subscript (.Name x p0) k p1] e pos.line X.env = pure false) (hw : swappedStores [.Subscript (.Name x p0) k p1] e X.env = pure none) :
    PS X (.Assign [.Subscript (.Name x p0) k p1] e pos) (tS X.K xr W fun r cs => (m r cs).d.bind fun d r cs => (liftO (ownAt i r) r cs).bind fun _ r cs => (mk r cs).d.bind fun k r cs => (liftO (ownAt i r) r cs).bind fun p r cs =>
      (liftO (setC p.2 k d) r cs).bind fun c r cs => .ok .nx (r.set i (.own p.1 false c)) cs) := by
  refine ps_weak (ps_asg (pe_frz he) (pg_sub (pe_var hN hv hd hcd) (pe_frz hk) (PSet.or set_list (set_dict hu)) ha) hs hw rfl) fun D σ H ⟨g, w, r, cs, g0, R, hp⟩ => ?_
  refine tG.mono (R.stepS (rep := repD X.K) hp) fun v H1 ⟨w1, r1, cs1, d, R1, e1, q1, k1⟩ => ?_
  have q1 : Rep X.K w1 d v := q1
  obtain ⟨pc, ep, k2⟩ := liftO_P k1.bind
  obtain ⟨a, ea⟩ := R1.ownAddr (ownAt_eq ep)
  refine ⟨_, ea, ?_⟩
  refine tG.mono (R1.stepS (rep := repD X.K) k2) fun u H2 ⟨w2, r2, cs2, kd, R2, e2, q2, k3⟩ => ?_
  have q2 : Rep X.K w2 kd u := q2
  obtain ⟨pc2, ep2, k4⟩ := liftO_P k3.bind
  obtain ⟨c, ec, k5⟩ := liftO_P k4.bind
  have es := ownAt_eq ep2
  obtain ⟨h1, h2, h3, h4⟩ := R2.mayW es ea
  have fin : ∀ o, HRep X.K w2 (upd H2 a o) c a → D.nx σ (upd H2 a o) := fun o hr => k5 w2 σ _ (R2.write es ea (Ext.refl _) rfl (fun _ _ => rfl) (Same.updN R2.ff h2) rfl (.inr ⟨false, c, rfl, hr, h2⟩)) (Ext.refl _)
  obtain ⟨io, c0⟩ := pc2
  dsimp only at ec h1 es
  cases c0 with
  | ins _ _ _ => exact h1.elim
  | lst ds =>
    obtain ⟨vs, hp, hr⟩ := h1
    unfold setC at ec
    dsimp only at ec
    cases kd <;> first
      | (cases ec; done)
      | skip
    case int j q0 =>
      cases q : ixN ds.length j with
      | none => simp [q] at ec
      | some n =>
        simp [q] at ec
        subst ec
        refine .inl ⟨a, vs, j, n, rfl, q2, hp, by rw [hr.length]; exact q, fin _ ⟨_, upd_same, hr.set n (Rep.mono e2 _ _ q1)⟩⟩
  | dct ks ds =>
    obtain ⟨kvs, hp, hk1, hr⟩ := h1
    unfold setC at ec
    dsimp only at ec
    cases q : keyD kd with
    | none => simp [q] at ec
    | some ky =>
      simp [q] at ec
      obtain ⟨hl, rfl⟩ := ec
      have hv := keyD_ok (H := H2) q (RdD.of_rep R2.ff q2)
      obtain ⟨z1, z2⟩ := putK_ok (k := ky) hk1 hr (Rep.mono e2 _ _ q1)
      refine .inr ⟨a, _, rfl, ?_, fin (.dK (putK kvs ky v)) ⟨_, upd_same, z1, z2⟩⟩
      rw [hv]
      exact DPut.k hp (by rw [← hk1, List.length_map] at hl; exact hl)
end
end Vi

namespace Vi
open PySem PySem.Spec L2
/-! ### dict displays -/
section
variable {K : PySem.W.Frag} {w : Wd}
theorem keyD_V {d : D} {k : Key} {v : V} (e : keyD d = some k) (h : Rep K w d v) : v = kV k := by
  cases d <;> simp [keyD] at e
  case int i => subst e; exact h
  case str i => subst e; exact h
theorem merge_ok : ∀ {ps : List (Key × D)} {kvs more : List (Key × V)} {acc : List Key × List D}, kvs.map (·.1) = acc.1 → Reps K w acc.2 (kvs.map (·.2)) → Paired (fun (p : Key × D) (q : Key × V) => p.1 = q.1 ∧ Rep K w p.2 q.2) ps more →
    (mergeK kvs more).map (·.1) = (mergeD acc ps).1 ∧ Reps K w (mergeD acc ps).2 ((mergeK kvs more).map (·.2))
  | [], kvs, more, acc, h1, h2, h => by
    cases h
    exact ⟨h1, h2⟩
  | p :: ps, kvs, more, acc, h1, h2, h => by
    cases h with
    | @cons _ q _ qs hq t =>
      obtain ⟨e, r⟩ := hq
      have := putK_ok (k := q.1) h1 h2 r
      show (mergeK (putK kvs q.1 q.2) qs).map (·.1) = (mergeD (putK' acc.1 acc.2 p.1 p.2) ps).1 ∧ Reps K w (mergeD (putK' acc.1 acc.2 p.1 p.2) ps).2 ((mergeK (putK kvs q.1 q.2) qs).map (·.2))
      rw [e]
      exact merge_ok (acc := putK' acc.1 acc.2 q.1 p.2) this.1 this.2 t
end
/-- k, v, k, v, .. -/
inductive Alt : List (Option Expr) → List Expr → List Expr → Prop where
  | nil : Alt [] [] []
  | cons {k v : Expr} {ks : List (Option Expr)} {vs es : List Expr} : Alt ks vs es → Alt (some k :: ks) (v :: vs) (k :: v :: es)
section
variable {X : Cx} {xr : XR} {W : WX} {pos : Pos}
/-- the readings of a list of expressions, one by one -/
def evL : List (List Sl → List C → Res Rv) → List Sl → List C → Res (List D)
  | [], r, cs => .ok [] r cs
  | m :: ms, r, cs => (m r cs).d.bind fun d r cs => (evL ms r cs).bind fun ds r cs => .ok (d :: ds) r cs
def pairT : List (List Sl → List C → Res Rv) → List TE → Prop
  | _, _ => True
theorem pps_ok {K : PySem.W.Frag} {g : Fx} : ∀ {ms : List (List Sl → List C → Res Rv)} {trs : List (TE × TE)} {w : Wd} {r : List Sl} {cs : List C} {σ : Sg} {H : Hp} {Q : List (V × V) → Hp → Prop},
    (∀ i m, ms[i]? = some m → ∃ p, trs[i / 2]? = some p ∧ (if i % 2 = 0 then p.1 else p.2) = tDm K xr W fun r cs => (m r cs).d) → ms.length = 2 * trs.length → Rel K g w r cs σ H →
    (evL ms r cs).P (fun ds r' cs' => ∀ w' H' ps, Rel K g w' r' cs' σ H' → Ext w w' → Reps K w' ds (ps.flatMap fun (p : V × V) => [p.1, p.2]) → Q ps H') (exW K xr W g w σ) → tPairs trs σ H Q
  | [], trs, w, r, cs, σ, H, Q, ht, hl, R, h => by
    have : trs = [] := List.length_eq_zero_iff.mp (by simp at hl; omega)
    subst this
    exact h w H [] R (Ext.refl _) rfl
  | [m], trs, w, r, cs, σ, H, Q, ht, hl, R, h => by simp at hl; omega
  | m :: m2 :: ms, trs, w, r, cs, σ, H, Q, ht, hl, R, h => by
    cases trs with
    | nil => simp at hl
    | cons p trs =>
      obtain ⟨tk, tv⟩ := p
      obtain ⟨p, e1, e2⟩ := ht 0 m rfl
      cases e1
      obtain ⟨p, e3, e4⟩ := ht 1 m2 rfl
      cases e3
      have e2 : tk = tDm K xr W fun r cs => (m r cs).d := e2
      have e4 : tv = tDm K xr W fun r cs => (m2 r cs).d := e4
      subst e2
      subst e4
      have h1 := h.bind
      refine ⟨g, w, r, cs, R, h1.mono (fun d r1 cs1 z => ?_) fun _ _ _ z => z⟩
      intro w1 H1 x R1 x1 q1
      have q1 : Rep K w1 d x := q1
      have z := z.bind
      have h2 : ((m2 r1 cs1).d.bind fun d2 r cs => (evL ms r cs).bind fun ds r cs => Res.ok (d :: d2 :: ds) r cs).P (fun ds r' cs' => ∀ w' H' ps, Rel K g w' r' cs' σ H' → Ext w w' → Reps K w' ds (ps.flatMap fun (p : V × V) => [p.1, p.2]) → Q ps H') (exW K xr W g w σ) := by
        have z : (evL (m2 :: ms) r1 cs1).P _ _ := z
        have z2 : ((m2 r1 cs1).d.bind fun d2 r cs => (evL ms r cs).bind fun ds r cs => Res.ok (d2 :: ds) r cs).P _ _ := z
        cases q : (m2 r1 cs1).d with
        | no => rw [q] at z2; exact z2
        | ex x r cs => rw [q] at z2; exact z2
        | ok d2 r2 cs2 =>
          rw [q] at z2
          have z3 : ((evL ms r2 cs2).bind fun ds r cs => Res.ok (d2 :: ds) r cs).P _ _ := z2
          show ((evL ms r2 cs2).bind fun ds r cs => Res.ok (d :: d2 :: ds) r cs).P _ _
          cases q2 : evL ms r2 cs2 with
          | no => rw [q2] at z3; exact z3
          | ex x r cs => rw [q2] at z3; exact z3
          | ok ds r3 cs3 => rw [q2] at z3; exact z3
      have h2 := h2.bind
      refine ⟨g, w1, r1, cs1, R1, h2.mono (fun d2 r2 cs2 z => ?_) fun x r cs z => exW.mono z x1⟩
      intro w2 H2 y R2 x2 q2
      have q2 : Rep K w2 d2 y := q2
      have z := z.bind
      refine pps_ok (ms := ms) (fun i m' hi => ?_) (by simp at hl; omega) R2 (z.mono (fun ds r3 cs3 z w3 H3 ps R3 x3 hr => ?_) fun x r cs z => exW.mono z (x1.trans x2))
      · obtain ⟨p, a, b⟩ := ht (i + 2) m' (by simpa using hi)
        have e5 : (i + 2) / 2 = i / 2 + 1 := by omega
        rw [e5] at a
        exact ⟨p, by simpa using a, by rw [show (i + 2) % 2 = i % 2 by omega] at b; exact b⟩
      · refine z w3 H3 ((x, y) :: ps) R3 ((x1.trans x2).trans x3) ?_
        show Reps K w3 (d :: d2 :: ds) (x :: y :: _)
        exact ⟨x, _, rfl, Rep.mono (x2.trans x3) _ _ q1, y, _, rfl, Rep.mono x3 _ _ q2, hr⟩
theorem pairs_ok {K : PySem.W.Frag} {w : Wd} : ∀ {ds : List D} {l : List (Key × D)} {ps : List (V × V)}, pairsD ds = some l → Reps K w ds (ps.flatMap fun (p : V × V) => [p.1, p.2]) →
    ∃ kvs : List (Key × V), ps = kvs.map (fun kv => (kV kv.1, kv.2)) ∧ Paired (fun (p : Key × D) (q : Key × V) => p.1 = q.1 ∧ Rep K w p.2 q.2) l kvs
  | [], l, ps, h, r => by
    cases h
    cases ps with
    | nil => exact ⟨[], rfl, .nil⟩
    | cons p ps => cases r
  | [x], l, ps, h, r => by cases h
  | x :: y :: ds, l, ps, h, r => by
    cases ps with
    | nil =>
      obtain ⟨_, _, e, _⟩ := r
      cases e
    | cons p ps =>
      obtain ⟨v1, _, e1, r1, v2, _, e2, r2, r3⟩ := r
      cases e1
      cases e2
      unfold pairsD at h
      cases q : keyD x with
      | none => simp [q] at h
      | some k =>
        simp [q] at h
        obtain ⟨l', e3, rfl⟩ := h
        obtain ⟨kvs, rfl, hp⟩ := pairs_ok e3 r3
        have := keyD_V q r1
        exact ⟨(k, p.2) :: kvs, by simp [← this], .cons ⟨rfl, r2⟩ hp⟩
theorem pe_dctM {keys : List (Option Expr)} {values : List Expr} {ms : List (List Sl → List C → Res Rv)} {trs : List (TE × TE)} (h : PPs X pos keys values trs)
    (ht : ∀ i m, ms[i]? = some m → ∃ p, trs[i / 2]? = some p ∧ (if i % 2 = 0 then p.1 else p.2) = tDm X.K xr W fun r cs => (m r cs).d) (hlm : ms.length = 2 * trs.length) (hall : keys.all (·.isSome) = true) (hl : keys.length = values.length) (h0 : keys ≠ [])
    (h15 : keys.length ≤ 15) : PE X (.Dict keys values pos) (tM X.K xr W fun r cs => (evL ms r cs).bind fun ds r cs => liftO (dctD ds) r cs) := by
  refine pe_weak (pe_disp h hall hl h0 h15) fun σ H Q ⟨g, w, r, cs, R, hp⟩ p hpn => ?_
  have px := PureX.newOwn (o := .dK []) R.ff hpn
  obtain ⟨f1, f2, f3, f4⟩ := R.fresh hpn
  have fE := R.freshE hpn
  have R1 := R.pure px
  have hF : w.F p = none := by
    cases q : w.F p with
    | none => rfl
    | some o => rw [R.ff _ _ q] at hpn; cases hpn
  have ap : Apart w r σ (upd H p (.dK [])) p (.dK []) := ⟨upd_same, hF, f3, f4⟩
  refine pps_ok (K := X.K) ht hlm R1.rb (hp.bind.mono (fun ds r' cs' z w' H' ps R' e' hr => ?_) fun x r' cs' z w' H' cls d R' e' q => z w' H' cls d (R1.back R') e' q)
  obtain ⟨rv, erv, k⟩ := liftO_P z
  obtain ⟨l, el, e2⟩ := Option.bind_eq_some_iff.mp erv
  split at e2
  · rename_i h15'
    cases e2
    have ap' := R1.apart R' ap
    obtain ⟨kvs, rfl, hk⟩ := pairs_ok el hr
    obtain ⟨m1, m2⟩ := merge_ok (K := X.K) (w := w') (kvs := []) (acc := ([], [])) rfl rfl hk
    refine ⟨ap'.at_, kvs, rfl, by rw [← Paired.length hk]; exact h15', ?_⟩
    obtain ⟨R2, ap2⟩ := (R1.back R').updA (o' := .dK (mergeK [] kvs)) ap' f1
    exact k w' _ (.ref p) R2 e' ⟨p, rfl, ⟨_, upd_same, m1, m2⟩, ap2.F, ap2.ph, f1, f2, fE, ap2.own⟩
  · cases e2
theorem pe_dct0M : PE X (.Dict [] [] pos) (tM X.K xr W fun r cs => (Res.ok [] r cs).bind fun ds r cs => liftO (dctD ds) r cs) := by
  refine pe_weak pe_dnewK fun σ H Q ⟨g, w, r, cs, R, hp⟩ p hpn => ?_
  have k : Fin X.K (repV X.K) g w σ Q (.own (.dct [] [])) r cs := hp
  have px := PureX.newOwn (o := .dK []) R.ff hpn
  exact k w _ (.ref p) (R.pure px) (Ext.refl _) (R.newRv px ⟨p, rfl, hpn, ⟨[], upd_same, rfl, rfl⟩, by
    cases q : w.F p with
    | none => rfl
    | some o => rw [R.ff _ _ q] at hpn; cases hpn⟩)
end
end Vi

namespace Vi
open PySem PySem.Spec PyProof.Rows L2
/-! ### set(l), l a list of ints -/
def sob (w : World) : Obj := { cls := .type "set", dict := none, data := .set #[] 0 (.fresh 0 0 (!w.params.followText "set-order")) }
section
variable {P : Program} {w : World} {A : Around} {E : Value → Shared → Prop} {s : Shared}
theorem set_of_ints {l : Addr} {its : Array Value} (ms : List Int) {Q : Value → Shared → Prop} (a0 : A.handled = none) (a1 : s.heap.IsList l its) (a2 : IntsAre its.toList ms) (a3 : ms.length + 1 < scanBound)
    (fin : ∀ (g : Heap) (tk c : Nat), SetR w g s.heap.objs.size (fun j => decide (j ∈ ms)) c → c ≤ ms.length → (∀ b o, s.heap.get? b = some o → g.get? b = some o) → Q (.ref s.heap.objs.size) { s with heap := g, toks := tk }) :
    wpAny (model P w) A (call (.type "set") [.ref l]) Q E s := by
  have isz : its.size = ms.length := by
    have q := a2.length
    rwa [Array.length_toList] at q
  obtain ⟨k0, kt, k1⟩ := PySem.F.called_set.mro
  have k2 := PySem.F.called_set.made
  have k3 := PySem.F.called_set.sub
  refine wpAny_call (codeAny_of_tree ?_)
  show wpAny _ _ (callAny (.type "set") ⟨[.ref l], []⟩) _ _ _
  refine wpAny_pure ⟨Code.quiet_builtin _ (by decide +kernel), codeAny_builtin PySem.F.entry_type_call ?_⟩
  rw [Around.under_plain (weight_type_call_type "set" _ _) rfl]
  have k4 := PySem.F.called_set.notType
  have k5 := PySem.F.called_set.canCreate
  have k6 := PySem.F.typeCall_set_1 (.ref l)
  repeat any_goals first | assumption | wp_step
  refine codeAny_mono (code_set_led1 (.ref l) (E := E) (Q₁ := fun ob t => ob = .ref s.heap.objs.size ∧ t = { s with heap := s.heap.push (sob w) }) ⟨rfl, rfl⟩) fun r t hr => ?_
  cases r with
  | error e => exact hr
  | ok fl =>
    cases fl <;> first
      | exact hr.elim
      | skip
    case ret ob =>
      obtain ⟨rfl, rfl⟩ := hr
      have z0 : (s.heap.push (sob w)).get? s.heap.objs.size = some (sob w) := Heap.get?_push_size _ rfl
      have z1 : Shared.TypeIs { s with heap := s.heap.push (sob w) } (.ref s.heap.objs.size) "set" := ⟨_, z0, rfl⟩
      have z2 := PySem.F.called_set.init.lookup
      have z3 := PySem.F.called_set.init.bind (.ref s.heap.objs.size)
      repeat any_goals first | assumption | wp_step
      refine codeAny_mono (codeAny_call_builtin (R := wants (fun r t => r = .none ∧ ∃ g tk c, t = { s with heap := g, toks := tk } ∧ SetR w g s.heap.objs.size (fun j => decide (j ∈ ms)) c ∧ c ≤ ms.length ∧ (∀ b o, s.heap.get? b = some o → g.get? b = some o)) E)
        PySem.F.called_set.init.plain PySem.F.entry_set_init (check_set_init_1 z1 ?_)) fun r2 t2 q2 => ?_
      · obtain ⟨lo, y0, y1, y2, y3⟩ := a1
        obtain ⟨c0, c1, c2, c3⟩ := lo
        simp only at y1 y3
        subst y1
        subst y3
        have y4 : (s.heap.push (sob w)).get? l = some { cls := .type "list", dict := c1, data := .seq its y2, slots := c3 } := Heap.get?_push_of_some _ y0
        have y5 := PySem.F.sub_list_set
        have y6 := PySem.F.sub_list_frozenset
        have y7 : (Value.type "list" == Value.type "dict") = false := rfl
        have y8 : (s.heap.push (sob w)).IsList l its := ⟨_, y4, rfl, y2, rfl⟩
        unfold Builtin.«set.__init__» noKeywords Builtin.Frozenset.updateFrom
        generalize hpi : pyIter = pit
        wp_walk
        subst hpi
        refine wpAny_pyIter_list y8 (wpAny_bind (wpAny_runValue ?_))
        have x0 : l < s.heap.objs.size := Heap.lt_size y0
        have x1 : A.in1.in1.in1.handled = none := by simp [a0]
        have x2 : (s.heap.push (sob w)).objs.size = s.heap.objs.size + 1 := Heap.size_push ..
        have x3 : l ≠ (s.heap.push (sob w)).objs.size := by rw [x2]; exact Nat.ne_of_lt (Nat.lt_succ_of_lt x0)
        have x4 : s.heap.objs.size ∉ [(s.heap.push (sob w)).objs.size, l] := by
          rw [x2]
          intro z
          rcases List.mem_cons.mp z with z | z
          · exact Nat.ne_of_lt (Nat.lt_succ_self _) z
          · rw [← List.mem_singleton.mp z] at x0; exact Nat.lt_irrefl _ x0
        have x5 : ∀ (i : Nat) (v : Value), its[i]? = some v → ∃ k t, ms[i]? = some k ∧ v = .int k t := fun i v hv => by
          obtain ⟨t, e⟩ := IntsAre.int_at a2 i v (by rw [Array.getElem?_toList, hv])
          have hi : i < ms.length := by
            have := (Array.getElem?_eq_some_iff.mp hv).1
            omega
          refine ⟨ms[i], t, List.getElem?_eq_getElem hi, ?_⟩
          rw [e, List.getD_eq_getElem?_getD, List.getElem?_eq_getElem hi] <;> rfl
        refine set_update_ints ((Walks.list x1 _ l x3 its).toS) s.heap.objs.size x4 ms isz a3 x5 its.size 0 _ (by omega) (Nat.zero_le _) ⟨⟨_, Heap.get?_push_size _ rfl, rfl, rfl⟩, y8.push _⟩ ⟨0, Nat.le_refl _, setR_new_at (Heap.get?_push_of_some _ z0)⟩ fun t c hm hc hS => ?_
        obtain ⟨g, g2, d2, tk, os2⟩ := t
        obtain rfl : g2 = s.gens := hm.gens
        obtain rfl : d2 = s.drawn := hm.drawn
        obtain rfl : os2 = s.os := hm.os
        show wpAny _ _ _ _ _ _
        refine wpAny_pure ?_
        show wpAny _ _ (ret Value.none) _ _ _
        refine wpAny_pure ⟨rfl, g, tk, c, rfl, hS, by omega, fun b o e => ?_⟩
        have b0 : b < s.heap.objs.size := Heap.lt_size e
        refine hm.heap b o (fun z => ?_) (Heap.get?_push_of_some _ (Heap.get?_push_of_some _ e))
        rcases List.mem_cons.mp z with z | z
        · rw [z] at b0; exact Nat.lt_irrefl _ b0
        · have z : b = (s.heap.push (sob w)).objs.size := List.mem_singleton.mp z
          rw [z, x2] at b0
          exact Nat.not_lt.mpr (Nat.le_succ _) b0
      · cases r2 with
        | error e => exact q2
        | ok f2 =>
          cases f2 <;> first
            | exact q2.elim
            | skip
          case ret r =>
            obtain ⟨rfl, g, tk, c, rfl, hS, hc, hk⟩ := q2
            repeat any_goals first | assumption | wp_step
            exact fin _ _ _ hS hc hk
end
/-! ### each once -/
theorem dedI_go : ∀ (ns a : List Int), a.Nodup → (ns.foldl (fun a k => if a.contains k then a else a ++ [k]) a).Nodup ∧ ∀ i, i ∈ ns.foldl (fun a k => if a.contains k then a else a ++ [k]) a ↔ i ∈ a ∨ i ∈ ns
  | [], a, h => ⟨h, fun i => by simp⟩
  | k :: ns, a, h => by
    rw [List.foldl_cons]
    by_cases hc : a.contains k = true
    · rw [if_pos hc]
      obtain ⟨p, q⟩ := dedI_go ns a h
      refine ⟨p, fun i => ?_⟩
      have hk : k ∈ a := List.contains_iff_mem.mp hc
      rw [q, List.mem_cons]
      constructor
      · rintro (z | z)
        · exact .inl z
        · exact .inr (.inr z)
      · rintro (z | rfl | z)
        · exact .inl z
        · exact .inl hk
        · exact .inr z
    · rw [if_neg hc]
      have hk : k ∉ a := fun z => hc (List.contains_iff_mem.mpr z)
      obtain ⟨p, q⟩ := dedI_go ns (a ++ [k]) (by
        rw [List.nodup_append]
        refine ⟨h, by simp, fun x hx y hy z => ?_⟩
        rw [List.mem_singleton.mp hy] at z
        rw [z] at hx
        exact hk hx)
      refine ⟨p, fun i => ?_⟩
      rw [q, List.mem_append, List.mem_singleton, List.mem_cons, or_assoc]
theorem dedI_nodup (ns : List Int) : (dedI ns).Nodup := (dedI_go ns [] List.nodup_nil).1
theorem dedI_mem {ns : List Int} {i : Int} : i ∈ dedI ns ↔ i ∈ ns := by
  rw [dedI, (dedI_go ns [] List.nodup_nil).2 i]
  simp
theorem perm_of_mem : ∀ {a b : List Int}, a.Nodup → b.Nodup → (∀ i, i ∈ a ↔ i ∈ b) → a.Perm b
  | [], b, _, _, h => by
    cases b with
    | nil => exact .refl _
    | cons x b => exact absurd ((h x).mpr List.mem_cons_self) (by simp)
  | x :: a, b, ha, hb, h => by
    have hx : x ∈ b := (h x).mp List.mem_cons_self
    refine ((perm_of_mem (List.nodup_cons.mp ha).2 (hb.erase x) fun i => ?_).cons x).trans (List.perm_cons_erase hx).symm
    rw [hb.mem_erase_iff]
    constructor
    · intro z
      refine ⟨fun e => (List.nodup_cons.mp ha).1 (by rw [← e]; exact z), (h i).mp (List.mem_cons_of_mem _ z)⟩
    · rintro ⟨z1, z2⟩
      rcases List.mem_cons.mp ((h i).mpr z2) with e | e
      · exact absurd e z1
      · exact e
theorem setR_ded {w : World} {h : Heap} {a : Addr} {ms : List Int} {n : Nat} (R : SetR w h a (fun j => decide (j ∈ ms)) n) : n = (Vi.dedI ms).length := by
  obtain ⟨o, es, ep, t, _, _, _, _, nd, hm, _, _, hn, _⟩ := R
  have := (perm_of_mem nd (dedI_nodup ms) fun i => by rw [← hm, dedI_mem, decide_eq_true_eq]).length_eq
  rw [← this, ← hn, List.length_map, Array.length_toList]
theorem lt_sortI {ns ms : List Int} (h : ns.Pairwise (· < ·)) (hm : ∀ k, k ∈ ns ↔ k ∈ ms) : ns = sortI (Vi.dedI ms) := by
  have nd : ns.Nodup := h.imp fun h => Int.ne_of_lt h
  have p : ns.Perm (Vi.dedI ms) := perm_of_mem nd (dedI_nodup ms) fun i => by rw [hm, dedI_mem]
  exact sorted_eq p (h.imp fun h => Int.le_of_lt h)
section
variable {X : Cx}
theorem pe_lenSetL {a : Expr} {p p2 q pos : Pos} {ta : TE} (hc : X.calm = true) (hg : Gl X "len") (hm : X.mg "len" = none) (hg2 : Gl X "set") (hm2 : X.mg "set" = none) (ha : PE X a ta) (na : starEach [a] X.env = (false, eval a X.env) :: starEach [] X.env) :
    PE X (.Call (.Name "len" p) [.Call (.Name "set" p2) [a] [] q] [] pos) (fun σ H Q => ta σ H fun x H1 => ∃ (l : Addr) (ns : List Int), x = .ref l ∧ SqL X.K H1 l (ns.map V.int) ∧ ns.length ≤ 4000 ∧ Q (.int (Vi.dedI ns).length) H1) := by
  refine ⟨fun pins s σ H Q I h => ?_⟩
  refine Call_ (ld_blt I hg hm PySem.boot_len (callWith_builtin1 (args_cons ?_ rfl) rfl rfl))
  refine Call_ (ld_blt I hg2 hm2 PyProof.Rows.boot_set (callWith_type1 (args_cons (thn (ha.run pins s σ H _ I h) fun v s1 ⟨x, H1, I1, r1, l, ns, e, hq, hl, q⟩ => args_nil ?_) na) na rfl))
  subst e
  obtain rfl : v = Value.ref l := r1
  obtain ⟨its, rv, pl, hz⟩ := I1.list hq
  refine set_of_ints ns (I1.ok.hd hc) pl.isList (by simpa using rv.ints) (by unfold scanBound; omega) fun g tk c hS hle hk => args_nil ?_
  have hn := setR_ded hS
  obtain ⟨o, es, ep, t, ho, hex, hd, _, _, _, _, hf, hsz, _⟩ := hS
  refine call_len_set ho hex hd hf (by omega) ⟨.int (Vi.dedI ns).length, H1, (I1.kept hk).tok _, ⟨tk + 1, ?_⟩, q⟩
  rw [hsz, hn]
theorem pe_sortSetL {a : Expr} {p p2 q pos : Pos} {ta : TE} (hc : X.calm = true) (hg : Gl X "sorted") (hm : X.mg "sorted" = none) (hg2 : Gl X "set") (hm2 : X.mg "set" = none) (ha : PE X a ta) (na : starEach [a] X.env = (false, eval a X.env) :: starEach [] X.env) :
    PE X (.Call (.Name "sorted" p) [.Call (.Name "set" p2) [a] [] q] [] pos) (fun σ H Q => ta σ H fun x H1 => ∃ (l : Addr) (ns : List Int), x = .ref l ∧ SqL X.K H1 l (ns.map V.int) ∧ ns.length < 64 ∧ ∀ p, H1 p = none → Q (.ref p) (upd H1 p (.lst ((sortI (Vi.dedI ns)).map V.int)))) := by
  refine ⟨fun pins s σ H Q I h => ?_⟩
  refine Call_ (ld_blt I hg hm (show bootBuiltins "sorted" = some (.builtin "sorted") by decide +kernel) (callWith_builtin1 (args_cons ?_ rfl) rfl rfl))
  refine Call_ (ld_blt I hg2 hm2 PyProof.Rows.boot_set (callWith_type1 (args_cons (thn (ha.run pins s σ H _ I h) fun v s1 ⟨x, H1, I1, r1, l, ns, e, hq, hl, q⟩ => args_nil ?_) na) na rfl))
  subst e
  obtain rfl : v = Value.ref l := r1
  obtain ⟨its, rv, pl, hz⟩ := I1.list hq
  refine set_of_ints ns (I1.ok.hd hc) pl.isList (by simpa using rv.ints) (by unfold scanBound; omega) fun g tk c hS hle hk => args_nil ?_
  have I2 : Inv X pins σ H1 { s1 with heap := g, toks := tk } := I1.kept hk
  have hn2 : H1 s1.heap.objs.size = none := I1.hok.fresh (Nat.le_refl _)
  have I3 : Inv X pins σ (upd H1 s1.heap.objs.size (SetO X.w s1.heap.objs.size (fun j => decide (j ∈ ns)) c)) { s1 with heap := g, toks := tk } := I1.laid hk (Nat.le_refl _) (setO_new hS)
  refine sorted_set hS (I2.ok.hd hc) (by omega) fun s' r out c' ks k2 g2 o2 hp hgt hi hs hm' hl' => ?_
  have e := lt_sortI (ms := ns) hs fun k => by rw [hm', decide_eq_true_eq]
  subst e
  have hfr : H1 r = none := I2.hok.fresh hp
  have J : Inv X pins σ (upd H1 r (.lst ((sortI (Vi.dedI ns)).map V.int))) { s1 with heap := s'.heap, gens := s'.gens, drawn := s'.drawn, toks := s'.toks } := by
    have hll : ((sortI (Vi.dedI ns)).map V.int).length ≤ sizeLine := by rw [List.length_map, hl', sizeLine_eq]; omega
    exact Inv.call (s := { s1 with heap := g, toks := tk }) (ch := []) I2 (Un.laid k2 hp hfr) (I2.hok.laid k2 hp ⟨hll, out.toList, c', vals_of_ints hi, hgt⟩) (by rw [g2]; exact I2.bare) (fun _ z => nomatch z)
  have e : s' = { s1 with heap := s'.heap, gens := s'.gens, drawn := s'.drawn, toks := s'.toks } := by
    cases s'
    cases s1
    cases o2
    rfl
  rw [e]
  exact ⟨.ref r, _, J, rfl, q r hfr⟩
end
end Vi

namespace Vi
open PySem PySem.Spec PyProof.Rows L2
/-! ### x in d.values() -/
theorem entry_cit : entryFor table "proto.contains_iter" = some Builtin.«proto.contains_iter» := entryFor_of_tree (by kernel_rfl)
theorem plain_cit : plainId "proto.contains_iter" = true := by decide +kernel
theorem dv_nc : typeLookup (.type "dict_values") "__contains__" = pure none := by
  rw [typeLookup_type, builtinLookup_eq_fast]
  kernel_rfl
section
variable {P : Program} {w : World} {A : Around}
theorem cit_loop {I : Addr} {fp wr : List Addr} {n : Nat} {Pv : Nat → Value → Prop} {St : Nat → Heap → Prop} {R : Result → Shared → Prop} (W : Walks P w A.in1 I fp wr n Pv St) (ns : List Int) (hn : n = ns.length) (hv : ∀ i v, Pv i v → ∃ t, v = .int (ns.getD i 0) t) (x : Int) (t : Tok) :
    ∀ (k i : Nat) (s : Shared), n - i = k → i ≤ n → St i s.heap →
      (∀ g tk, (∀ b o, b ∉ wr → s.heap.get? b = some o → g.get? b = some o) → R (.ok (.ret (.bool ((ns.drop i).contains x)))) { s with heap := g, toks := tk }) →
      codeAny (model P w) A (.builtin "proto.contains_iter" ⟨[.ref I, .int x t], []⟩) R s := by
  intro k
  induction k with
  | zero =>
    intro i s hk hi st fin
    have e : i = n := by omega
    subst e
    refine codeAny_builtin entry_cit ?_
    rw [Around.under_plainId plain_cit _]
    show wpAny _ A.in1 (pyNext (.ref I) >>= _) _ _ s
    refine wpAny_bind (W.done s _ _ st fun g tk hg => ?_)
    refine wpAny_bind (wpAny_rule ?_)
    have q := fin g tk hg
    rw [List.drop_eq_nil_of_le (by omega)] at q
    exact wpAny_pure q
  | succ k ih =>
    intro i s hk hi st fin
    have hlt : i < n := by omega
    refine codeAny_builtin entry_cit ?_
    rw [Around.under_plainId plain_cit _]
    show wpAny _ A.in1 (pyNext (.ref I) >>= _) _ _ s
    refine wpAny_bind (W.item i s _ _ hlt st fun v g tk hp st' hg => ?_)
    obtain ⟨u, rfl⟩ := hv i v hp
    have hd : ns.drop i = ns.getD i 0 :: ns.drop (i + 1) := by
      rw [List.drop_eq_getElem_cons (by omega), List.getD_eq_getElem?_getD, List.getElem?_eq_getElem (by omega)]
      rfl
    show wpAny _ A.in1 (eqBool (.int (ns.getD i 0) u) (.int x t) >>= _) _ _ _
    refine wpAny_bind (wpAny_eqBool_int ?_)
    rw [hd] at fin
    by_cases h : ns.getD i 0 = x
    · have e1 : (ns.getD i 0 == x) = true := beq_iff_eq.mpr h
      have e2 : (ns.getD i 0 :: ns.drop (i + 1)).contains x = true := by rw [h]; simp
      rw [e2] at fin
      rw [e1]
      exact wpAny_bind (wpAny_rule (wpAny_pure (fin g tk hg)))
    · have e1 : (ns.getD i 0 == x) = false := beq_eq_false_iff_ne.mpr h
      have e2 : (ns.getD i 0 :: ns.drop (i + 1)).contains x = (ns.drop (i + 1)).contains x := by
        rw [List.contains_cons]
        have : (x == ns.getD i 0) = false := beq_eq_false_iff_ne.mpr fun z => h z.symm
        rw [this, Bool.false_or]
      rw [e2] at fin
      rw [e1]
      refine wpAny_pure ⟨plainId_quiet plain_cit _, ih (i + 1) _ (by omega) hlt st' fun g2 tk2 hg2 => ?_⟩
      exact fin g2 tk2 fun b o hb e => hg2 b o hb (hg b o hb e)
end
section
variable {X : Cx}
/-- what the test reads: an int, a dict of ints as values -/
def tInV (te td : TE) (f : Bool → Bool) : TE := fun σ H Q => te σ H fun y H1 => td σ H1 fun x H2 => ∃ (i : Int) (a : Addr) (kvs : List (Key × V)) (ns : List Int), y = .int i ∧ x = .ref a ∧ Rd H2 a (.dK kvs) ∧ kvs.map (·.2) = ns.map V.int ∧ Q (.bl (f (ns.contains i))) H2
theorem values_run {o : Expr} {td : TE} {apos cpos : Pos} (hd : PE X o td) (hbase : attributeBase o "values" X.env (eval o X.env) = eval o X.env) (hline : (apos.endLine == cpos.line) = true) {pins : List (Addr × Obj)} {σ : Sg} {H : Hp} {s : Shared} {Q : Value → Shared → Prop} (I : Inv X pins σ H s)
    (h : td σ H fun x H1 => ∃ a kvs, x = .ref a ∧ Rd H1 a (.dK kvs) ∧ ∀ s1, Inv X pins σ H1 s1 → ∀ v vs ep, s1.heap.IsValuesView v a → s1.heap.DictAt (mixKind X.prog X.w) a vs ep → KV kvs vs → Q (.ref v) s1) :
    wpAny (model X.prog X.w) X.A (eval (.Call (.Attribute o "values" apos) [] [] cpos) X.env) Q X.xe s := by
  refine wpAny_Call_method0_late hbase hline (thn (hd.run pins s σ H _ I h) fun v s1 ⟨x, H1, I1, r1, a, kvs, ex, ha, q⟩ => ?_)
  subst ex
  obtain rfl : v = Value.ref a := r1
  have hx : ∃ (hs : (a == sysModules) = false) (vs : List (Key × Value)) (ep : Nat), KV kvs vs ∧ s1.heap.DictAt (mixKind X.prog X.w) a vs ep ∧ s1.heap.DictOf (mixKind X.prog X.w) a vs := by
    rcases ha with ha | ⟨od, ha⟩
    · obtain ⟨_, hsys, vs, rel, dof⟩ := dk_of I1.hok ha
      obtain ⟨ep, dat⟩ := dof.dictAt
      exact ⟨hsys, vs, ep, rel, dat, dof⟩
    · obtain ⟨hs, hgd, hx, es, ep, vs, hdt, hsz, kv, hm⟩ := I1.frzK ha
      exact ⟨hs, vs, ep, kv, hm, hm.dictOf⟩
  obtain ⟨hsys, vs, ep, rel, dat, dof⟩ := hx
  have dat' := dat
  obtain ⟨ob, es, ho, ex, hdat, hko, hpr, hnd⟩ := dat'
  refine ⟨"dict", "dict.values", PySem.F.plainAttrs_dict, PySem.F.slot_dict_values, PySem.F.type_dict_values, ⟨ob, ho, ex.1⟩, fun b e => ?_, PySem.Calls.callWith_builtin rfl (PySem.evalArgs_none ?_)⟩
  · cases e
    exact ⟨ob, ho, ex.2.1⟩
  refine call_meetsIn PySem.F.slot_dict_values ⟨ob, ho, ex.1⟩ PySem.F.entry_dict_values (PySem.F.args_dict_values_1 _) (meets_dict_values (mixKind X.prog X.w) a hsys) ⟨⟨vs, dof⟩, ?_⟩
  have k1 : ∀ b u, s1.heap.get? b = some u → (s1.heap.push { cls := .type "dict_values", data := .fields #[.ref a] }).get? b = some u := fun b u e => Heap.get?_push_of_some _ e
  exact q _ (I1.kept (t' := s1.toks) k1) _ vs ep ⟨_, Heap.get?_push_size _ rfl, rfl, rfl⟩ (dat.keep k1) rel
theorem vals_int {kvs : List (Key × V)} {vs : List (Key × Value)} {ns : List Int} (rel : KV kvs vs) (hv : kvs.map (·.2) = ns.map V.int) : vs.length = ns.length ∧ ∀ (i : Nat) (v : Value), (∃ k, vs[i]? = some (k, v)) → ∃ t, v = Value.int (ns.getD i 0) t := by
  refine ⟨?_, fun i v ⟨k, hk⟩ => ?_⟩
  · have e1 := congrArg List.length hv
    rw [List.length_map, List.length_map] at e1
    rw [← e1]
    exact (KV.length rel).symm
  · obtain ⟨x, h1, h2⟩ := KV.at' rel hk
    have e1 : (kvs.map (·.2))[i]? = some x := by rw [List.getElem?_map, h1] <;> rfl
    rw [hv, List.getElem?_map] at e1
    obtain ⟨j, hj, e2⟩ := Option.map_eq_some_iff.mp e1
    subst e2
    obtain ⟨t, e3⟩ := h2
    refine ⟨t, ?_⟩
    rw [e3, List.getD_eq_getElem?_getD, hj] <;> rfl
/-- the view, asked -/
theorem contains_values {pins : List (Addr × Obj)} {σ : Sg} {H : Hp} {s : Shared} {Q : Bool → Shared → Prop} {v a : Addr} {vs : List (Key × Value)} {ep : Nat} {ns : List Int} {i : Int} {t : Tok} (hc : X.calm = true) (I : Inv X pins σ H s) (hv : s.heap.IsValuesView v a) (hd : s.heap.DictAt (mixKind X.prog X.w) a vs ep)
    (hl : vs.length = ns.length) (hi : ∀ (i : Nat) (v : Value), (∃ k, vs[i]? = some (k, v)) → ∃ t, v = Value.int (ns.getD i 0) t) (q : ∀ g tk, (∀ b o, s.heap.get? b = some o → g.get? b = some o) → Q (ns.contains i) { s with heap := g, toks := tk }) :
    wpAny (model X.prog X.w) X.A (contains (.ref v) (.int i t)) Q X.xe s := by
  unfold contains
  have hT : s.TypeIs (.ref v) "dict_values" := hv.typeIs
  refine wpAny_holding ?_
  rw [stdlibNamesSay?_of_typeIs hT]
  refine wpAny_bind (wpAny_specialOf hT dv_nc ?_)
  show wpAny _ _ (if (none == some Value.none) = true then _ else _) _ _ _
  rw [if_neg (by simp)]
  refine wpAny_bind (wpAny_callSpecialUnlessNone?_none hT dv_nc ?_)
  refine wpAny_bind (wpAny_rule ?_)
  refine wpAny_bind (wpAny_tryCatch (wpAny_pyIter_values hv hd ?_))
  have hva : a < s.heap.objs.size := hd.lt_size
  refine wpAny_bind (wpAny_runValue ?_)
  refine cit_loop (Walks.dictValues (knd := mixKind X.prog X.w) (A := X.A.in1) (I.ok.hd hc) s.heap.objs.size a (Nat.ne_of_lt hva) vs ep) ns hl hi i t vs.length 0 _ (by omega) (Nat.zero_le _)
    ⟨⟨_, Heap.get?_push_size _ rfl, rfl, rfl⟩, hd.push _⟩ fun g tk hg => ?_
  refine wpAny_pure ?_
  rw [List.drop_zero]
  exact q g tk fun b o e => hg b o (fun z => by
    rw [List.mem_singleton.mp z] at e
    exact Nat.lt_irrefl _ (Heap.lt_size e)) (Heap.get?_push_of_some _ e)
end
end Vi

namespace Vi
open PySem PySem.Spec PyProof.Rows L2
/-! ### what repr shows -/
mutual
inductive Rz (h : Heap) : Value → PyData → Prop
  | non : Rz h .none .none
  | bl (b) : Rz h (.bool b) (.bool b)
  | int (i t) : Rz h (.int i t) (.int i)
  | str (x t) : Rz h (.str x t) (.str x)
  | lst {a : Addr} {o : Obj} {vs : Array Value} {n : Nat} {xs : List PyData} : h.get? a = some o → o.cls = .type "list" → o.data = .seq vs n → Rzs h vs.toList xs → Rz h (.ref a) (.list xs)
  | tup {a : Addr} {o : Obj} {vs : Array Value} {n : Nat} {xs : List PyData} : h.get? a = some o → o.cls = .type "tuple" → o.data = .seq vs n → Rzs h vs.toList xs → Rz h (.ref a) (.tuple xs)
  | dct {a : Addr} {o : Obj} {es : Array DictEntry} {n : Nat} {kvs : List (PyData × PyData)} : h.get? a = some o → o.cls = .type "dict" → o.data = .dict es n → (a == sysModules) = false → Rzs h (es.toList.map (·.key)) (kvs.map (·.1)) → Rzs h (es.toList.map (·.val)) (kvs.map (·.2)) → Rz h (.ref a) (.dict kvs)
inductive Rzs (h : Heap) : List Value → List PyData → Prop
  | nil : Rzs h [] []
  | cons {v : Value} {vs : List Value} {d : PyData} {ds : List PyData} : Rz h v d → Rzs h vs ds → Rzs h (v :: vs) (d :: ds)
end
mutual
theorem Rz.reads {h : Heap} : ∀ {v : Value} {d : PyData}, Rz h v d → ∃ as, Reads h v d as
  | _, _, .non => ⟨_, .none⟩
  | _, _, .bl b => ⟨_, .bool b⟩
  | _, _, .int i t => ⟨_, .int i t⟩
  | _, _, .str x t => ⟨_, .str x t⟩
  | _, _, .lst a b c r => let ⟨_, q⟩ := r.reads; ⟨_, .list a b c q⟩
  | _, _, .tup a b c r => let ⟨_, q⟩ := r.reads; ⟨_, .tuple a b c q⟩
  | _, _, .dct a b c _ r1 r2 => let ⟨_, q1⟩ := r1.reads; let ⟨_, q2⟩ := r2.reads; ⟨_, .dict a b c q1 q2⟩
theorem Rzs.reads {h : Heap} : ∀ {vs : List Value} {ds : List PyData}, Rzs h vs ds → ∃ as, ReadsAll h vs ds as
  | _, _, .nil => ⟨_, .nil⟩
  | _, _, .cons a b => let ⟨_, q⟩ := a.reads; let ⟨_, q2⟩ := b.reads; ⟨_, .cons q q2⟩
end
section
variable {prog : Program} {w : World} {h : Heap}
mutual
theorem Rz.shows : ∀ {v : Value} {d : PyData}, Rz h v d → d.showable = true → d.shown.length ≤ sizeLine → ∃ bs, ReadAtMost h d.depth bs ∧ ReprK prog w bs h d.depth v d.shown
  | _, _, .non, _, _ => ⟨[], (fun _ z => nomatch z), by rw [PyData.shown]; exact .of_is ReprIs.none _ _ _⟩
  | _, _, .bl b, _, _ => ⟨[], (fun _ z => nomatch z), by rw [PyData.shown]; exact .of_is (ReprIs.bool b) _ _ _⟩
  | _, _, .int i t, hs, _ => ⟨[], (fun _ z => nomatch z), by rw [PyData.shown]; exact .of_is (ReprIs.int t (by simpa [PyData.showable] using hs)) _ _ _⟩
  | _, _, .str x t, _, hz => ⟨[], (fun _ z => nomatch z), by rw [PyData.shown]; exact .of_is (ReprIs.str x t (by rwa [PyData.shown] at hz)) _ _ _⟩
  | _, _, .lst (a := a) (vs := vs) (xs := xs) h1 h2 h3 h4, hs, hz => by
    rw [PyData.shown] at hz
    have rr : Rz h (.ref a) (.list xs) := .lst h1 h2 h3 h4
    obtain ⟨as, r⟩ := rr.reads
    obtain ⟨bs, hb, hk⟩ := h4.shows (by simpa [PyData.showable] using hs) fun t ht => Nat.le_trans (listText_mem_le ht) hz
    have hd : PyData.depthAll xs < (PyData.list xs).depth := by rw [PyData.depth]; omega
    refine ⟨a :: bs, ReadAtMost.cons r (Nat.le_of_lt hd) hb, ?_⟩
    rw [PyData.depth, PyData.shown]
    obtain ⟨l⟩ := vs
    cases l with
    | nil =>
      cases (show Rzs h [] xs from h4)
      rw [PyData.shownAll, listText_nil]
      exact ReprK.listEmpty h1 h2 h3
    | cons x l => exact ReprK.list h1 h2 h3 (not_mem_of_deeper r hd hb) (by simpa using hk.length_eq) fun i y e => hk.item i y (by simpa using e)
  | _, _, .tup (a := a) (xs := xs) h1 h2 h3 h4, hs, hz => by
    rw [PyData.shown] at hz
    have rr : Rz h (.ref a) (.tuple xs) := .tup h1 h2 h3 h4
    obtain ⟨as, r⟩ := rr.reads
    obtain ⟨bs, hb, hk⟩ := h4.shows (by simpa [PyData.showable] using hs) fun t ht => Nat.le_trans (tupleText_mem_le ht) hz
    have hd : PyData.depthAll xs < (PyData.tuple xs).depth := by rw [PyData.depth]; omega
    refine ⟨a :: bs, ReadAtMost.cons r (Nat.le_of_lt hd) hb, ?_⟩
    rw [PyData.depth, PyData.shown]
    exact ReprK.tuple h1 h2 h3 (not_mem_of_deeper r hd hb) hk
  | _, _, .dct (a := a) (es := es) (kvs := kvs) h1 h2 h3 h4 h5 h6, hs, hz => by
    rw [PyData.shown] at hz
    have rr : Rz h (.ref a) (.dict kvs) := .dct h1 h2 h3 h4 h5 h6
    obtain ⟨as, r⟩ := rr.reads
    obtain ⟨g1, g2⟩ := PyData.showableKv_split kvs (by simpa [PyData.showable] using hs)
    obtain ⟨b1, q1, k1⟩ := h5.shows g1 fun t ht => by
      obtain ⟨p, hp, hl⟩ := PyData.shownKv_key_le kvs t ht
      exact Nat.le_trans hl (Nat.le_trans (dictText_mem_le hp) hz)
    obtain ⟨b2, q2, k2⟩ := h6.shows g2 fun t ht => by
      obtain ⟨p, hp, hl⟩ := PyData.shownKv_val_le kvs t ht
      exact Nat.le_trans hl (Nat.le_trans (dictText_mem_le hp) hz)
    have hd : PyData.depthKv kvs < (PyData.dict kvs).depth := by rw [PyData.depth]; omega
    have hb : ReadAtMost h (PyData.depthKv kvs) (b1 ++ b2) := (q1.mono (PyData.depthAll_keys_le kvs)).append (q2.mono (PyData.depthAll_vals_le kvs))
    refine ⟨a :: (b1 ++ b2), ReadAtMost.cons r (Nat.le_of_lt hd) hb, ?_⟩
    rw [PyData.depth, PyData.shown, PyData.shownKv_eq]
    exact ReprK.dict h1 h2 h3 h4 (not_mem_of_deeper r hd hb) (ReprEntriesK.of_two es.toList _ _ (k1.more_le (fun _ => List.mem_append_left _) (PyData.depthAll_keys_le kvs)) (k2.more_le (fun _ => List.mem_append_right _) (PyData.depthAll_vals_le kvs)))
theorem Rzs.shows : ∀ {vs : List Value} {ds : List PyData}, Rzs h vs ds → PyData.showableAll ds = true → (∀ t ∈ PyData.shownAll ds, t.length ≤ sizeLine) → ∃ bs, ReadAtMost h (PyData.depthAll ds) bs ∧ ReprAllK prog w bs h (PyData.depthAll ds) vs (PyData.shownAll ds)
  | _, _, .nil, _, _ => ⟨[], (fun _ z => nomatch z), by rw [PyData.shownAll]; exact .nil⟩
  | _, _, .cons (d := d) (ds := ds) r rs, hs, hz => by
    have hs : (d.showable && PyData.showableAll ds) = true := by simpa [PyData.showableAll] using hs
    obtain ⟨s1, s2⟩ := Bool.and_eq_true_iff.mp hs
    rw [PyData.shownAll] at hz
    obtain ⟨b1, q1, k1⟩ := r.shows s1 (hz _ List.mem_cons_self)
    obtain ⟨b2, q2, k2⟩ := rs.shows s2 fun t ht => hz t (List.mem_cons_of_mem _ ht)
    rw [PyData.depthAll, PyData.shownAll]
    exact ⟨b1 ++ b2, (q1.mono (Nat.le_max_left _ _)).append (q2.mono (Nat.le_max_right _ _)), .cons ((k1.more fun _ => List.mem_append_left _).level_le (Nat.le_max_left _ _)) (k2.more_le (fun _ => List.mem_append_right _) (Nat.le_max_right _ _))⟩
end
/-- repr(v) -/
theorem Rz.call {v : Value} {d : PyData} (r : Rz h v d) (hs : d.showable = true) (hz : d.shown.length ≤ sizeLine) {A : Around} {E : Value → Shared → Prop} {s : Shared} {Q : Value → Shared → Prop} (hg : Shy A) (hu : A.units + (d.depth + 2) < cLine) (e : h = s.heap)
    (hQ : ∀ h' u tk, (∀ b o, s.heap.get? b = some o → h'.get? b = some o) → Q (.str d.shown u) { s with heap := h', toks := tk }) : wpAny (model prog w) A (PySem.call (.builtin "repr") [v]) Q E s := by
  have up : A.in1.units = A.units + 1 := rfl
  subst e
  cases r with
  | non => exact PySem.P.repr_of_none (by rw [PyData.shown] at hQ; exact hQ s.heap _ _ fun _ _ q => q)
  | bl b => exact PySem.P.repr_of_bool (by rw [PyData.shown] at hQ; exact hQ s.heap _ _ fun _ _ q => q)
  | int i t => exact PySem.P.repr_of_int (by simpa [PyData.showable] using hs) (by rw [PyData.shown] at hQ; exact hQ s.heap _ _ fun _ _ q => q)
  | str x t => exact PySem.P.repr_of_str (by rw [PyData.shown] at hQ; exact hQ s.heap _ _ fun _ _ q => q) (by rwa [PyData.shown] at hz)
  | lst h1 h2 h3 h4 =>
    rename_i a o vs n xs
    rw [PyData.shown] at hz hQ
    rw [PyData.depth] at hu
    have rr : Rz s.heap (.ref a) (.list xs) := .lst h1 h2 h3 h4
    obtain ⟨as, r⟩ := rr.reads
    obtain ⟨bs, hb, hk⟩ := h4.shows (prog := prog) (w := w) (by simpa [PyData.showable] using hs) fun t ht => Nat.le_trans (listText_mem_le ht) hz
    have hd : PyData.depthAll xs < (PyData.list xs).depth := by rw [PyData.depth]; omega
    refine call_repr_slot (by omega) ⟨o, h1, h2⟩ F.slot_list_repr.toG ?_
    obtain ⟨l⟩ := vs
    cases l with
    | nil =>
      cases (show Rzs s.heap [] xs from h4)
      rw [PyData.shownAll, listText_nil] at hQ
      exact call_list_repr_empty ⟨o, h1, h2⟩ h1 h3 ⟨_, _, rfl, hQ s.heap _ _ fun _ _ q => q⟩
    | cons x l => exact call_list_reprK h1 h2 h3 (not_mem_of_deeper r hd hb) (by simpa using hk.length_eq) (fun i y q => hk.item i y (by simpa using q)) hg (fun b _ => Clear.nil b) (by omega) (fun _ _ q => q) (fun h' u tk q => ⟨_, _, rfl, hQ h' u tk q⟩) hz
  | tup h1 h2 h3 h4 =>
    rename_i a o vs n xs
    rw [PyData.shown] at hz hQ
    rw [PyData.depth] at hu
    have rr : Rz s.heap (.ref a) (.tuple xs) := .tup h1 h2 h3 h4
    obtain ⟨as, r⟩ := rr.reads
    obtain ⟨bs, hb, hk⟩ := h4.shows (prog := prog) (w := w) (by simpa [PyData.showable] using hs) fun t ht => Nat.le_trans (tupleText_mem_le ht) hz
    have hd : PyData.depthAll xs < (PyData.tuple xs).depth := by rw [PyData.depth]; omega
    exact call_repr_slot (by omega) ⟨o, h1, h2⟩ F.slot_tuple_repr (call_tuple_reprK h1 h2 h3 (not_mem_of_deeper r hd hb) hk hg (fun b _ => Clear.nil b) (by omega) (fun _ _ q => q) (fun h' u tk q => ⟨_, _, rfl, hQ h' u tk q⟩) hz)
  | dct h1 h2 h3 h4 h5 h6 =>
    rename_i a o es n kvs
    rw [PyData.shown] at hz hQ
    rw [PyData.depth] at hu
    have rr : Rz s.heap (.ref a) (.dict kvs) := .dct h1 h2 h3 h4 h5 h6
    obtain ⟨as, r⟩ := rr.reads
    obtain ⟨g1, g2⟩ := PyData.showableKv_split kvs (by simpa [PyData.showable] using hs)
    obtain ⟨b1, q1, k1⟩ := h5.shows (prog := prog) (w := w) g1 fun t ht => by
      obtain ⟨p, hp, hl⟩ := PyData.shownKv_key_le kvs t ht
      exact Nat.le_trans hl (Nat.le_trans (dictText_mem_le hp) hz)
    obtain ⟨b2, q2, k2⟩ := h6.shows (prog := prog) (w := w) g2 fun t ht => by
      obtain ⟨p, hp, hl⟩ := PyData.shownKv_val_le kvs t ht
      exact Nat.le_trans hl (Nat.le_trans (dictText_mem_le hp) hz)
    have hd : PyData.depthKv kvs < (PyData.dict kvs).depth := by rw [PyData.depth]; omega
    have hb : ReadAtMost s.heap (PyData.depthKv kvs) (b1 ++ b2) := (q1.mono (PyData.depthAll_keys_le kvs)).append (q2.mono (PyData.depthAll_vals_le kvs))
    rw [PyData.shownKv_eq] at hz hQ
    exact call_repr_slot (by omega) ⟨o, h1, h2⟩ F.slot_dict_repr (call_dict_reprK h1 h2 h3 h4 (not_mem_of_deeper r hd hb) (ReprEntriesK.of_two es.toList _ _ (k1.more_le (fun _ => List.mem_append_left _) (PyData.depthAll_keys_le kvs)) (k2.more_le (fun _ => List.mem_append_right _) (PyData.depthAll_vals_le kvs))) hg (fun b _ => Clear.nil b) (by omega) (fun _ _ q => q) (fun h' u tk q => ⟨_, _, rfl, hQ h' u tk q⟩) hz)
end
/-! ### .. of data -/
theorem rok_succ {n : Nat} {d : D} (h : d.rok n = true) : ∃ m, n = m + 1 := by
  cases n with
  | zero => rw [D.rok] at h; cases h
  | succ m => exact ⟨m, rfl⟩
theorem kzip_show : ∀ (ks : List Key) (ps : List PyData) (m : Nat), ks.all Key.rok = true → PyData.showableAll ps = true → PyData.depthAll ps ≤ m → PyData.showableKv (kzip ks ps) = true ∧ PyData.depthKv (kzip ks ps) ≤ m
  | [], ps, m, _, _, _ => by cases ps <;> exact ⟨rfl, Nat.zero_le _⟩
  | k :: ks, [], m, _, _, _ => ⟨rfl, Nat.zero_le _⟩
  | k :: ks, p :: ps, m, h1, h2, h3 => by
    rw [List.all_cons, Bool.and_eq_true] at h1
    rw [PyData.showableAll, Bool.and_eq_true] at h2
    rw [PyData.depthAll] at h3
    obtain ⟨a, b⟩ := kzip_show ks ps m h1.2 h2.2 (by omega)
    rw [kzip, PyData.showableKv, PyData.depthKv, a, h2.1, Bool.and_true, Bool.and_true]
    cases k with
    | inl i => exact ⟨h1.1, by rw [show PyData.depth (Key.py (.inl i)) = 0 from rfl]; omega⟩
    | inr s => exact ⟨rfl, by rw [show PyData.depth (Key.py (.inr s)) = 0 from rfl]; omega⟩
mutual
theorem rok_show : ∀ (d : D) (n : Nat), d.rok n = true → d.pyR.showable = true ∧ d.pyR.depth ≤ n
  | .non, _, _ => ⟨rfl, Nat.zero_le _⟩
  | .bl _, _, _ => ⟨rfl, Nat.zero_le _⟩
  | .str _, _, _ => ⟨rfl, Nat.zero_le _⟩
  | .int i, n, h => by
    obtain ⟨m, rfl⟩ := rok_succ h
    exact ⟨by simpa [D.pyR, PyData.showable, D.rok] using h, Nat.zero_le _⟩
  | .tup ds, n, h => by
    obtain ⟨m, rfl⟩ := rok_succ h
    obtain ⟨a, b⟩ := roks_show ds m (by simpa [D.rok] using h)
    refine ⟨by simpa [D.pyR, PyData.showable] using a, ?_⟩
    rw [D.pyR, PyData.depth]
    omega
  | .lst ds, n, h => by
    obtain ⟨m, rfl⟩ := rok_succ h
    obtain ⟨a, b⟩ := roks_show ds m (by simpa [D.rok] using h)
    refine ⟨by simpa [D.pyR, PyData.showable] using a, ?_⟩
    rw [D.pyR, PyData.depth]
    omega
  | .dct ks ds, n, h => by
    obtain ⟨m, rfl⟩ := rok_succ h
    have h : ((ks.all Key.rok && decide (ks.length = ds.length)) && D.roks m ds) = true := by simpa [D.rok, and_assoc] using h
    obtain ⟨h1, h3⟩ := Bool.and_eq_true_iff.mp h
    obtain ⟨h1, h2⟩ := Bool.and_eq_true_iff.mp h1
    obtain ⟨a, b⟩ := roks_show ds m h3
    obtain ⟨c, d⟩ := kzip_show ks _ m h1 a b
    refine ⟨by simpa [D.pyR, PyData.showable] using c, ?_⟩
    rw [D.pyR, PyData.depth]
    omega
  | .scr _, n, h => by
    obtain ⟨m, rfl⟩ := rok_succ h
    simp [D.rok] at h
  | .obj _, n, h => by
    obtain ⟨m, rfl⟩ := rok_succ h
    simp [D.rok] at h
  | .fn _, n, h => by
    obtain ⟨m, rfl⟩ := rok_succ h
    simp [D.rok] at h
  | .exc _ _, n, h => by
    obtain ⟨m, rfl⟩ := rok_succ h
    simp [D.rok] at h
theorem roks_show : ∀ (ds : List D) (n : Nat), D.roks n ds = true → PyData.showableAll (D.pyRs ds) = true ∧ PyData.depthAll (D.pyRs ds) ≤ n
  | [], _, _ => ⟨rfl, Nat.zero_le _⟩
  | d :: ds, n, h => by
    have h : (d.rok n && D.roks n ds) = true := by simpa [D.roks] using h
    obtain ⟨h1, h2⟩ := Bool.and_eq_true_iff.mp h
    obtain ⟨a, b⟩ := rok_show d n h1
    obtain ⟨a2, b2⟩ := roks_show ds n h2
    refine ⟨?_, ?_⟩
    · rw [D.pyRs, PyData.showableAll, a, a2]; rfl
    · rw [D.pyRs, PyData.depthAll]
      omega
end
section
variable {X : Cx} {pins : List (Addr × Obj)} {σ : Sg} {H : Hp} {s : Shared} {w : Wd}
theorem keys_rz {h : Heap} {ks : List Key} {kvs : List (Key × Value)} {es : List DictEntry} {ds : List PyData} (hp : Pairs (mixKind X.prog X.w) es kvs) (hk : kvs.map (·.1) = ks) (hv : Rzs h (kvs.map (·.2)) ds) : Rzs h (es.map (·.key)) ((kzip ks ds).map (·.1)) ∧ Rzs h (es.map (·.val)) ((kzip ks ds).map (·.2)) := by
  subst hk
  induction hp generalizing ds with
  | nil => exact ⟨.nil, .nil⟩
  | cons h1 h2 h3 ih =>
    rename_i e kv es kvs
    cases hv with
    | cons g1 g2 =>
      obtain ⟨a, b⟩ := ih g2
      refine ⟨.cons ?_ a, .cons (by show Rz h e.val _; rw [h2]; exact g1) b⟩
      obtain ⟨k, v⟩ := kv
      rcases keyIs_shape (show keyIs k e.key = true from h1) with ⟨i, t, e1, e2⟩ | ⟨x, t, e1, e2⟩
      · subst e1
        show Rz h e.key _
        rw [e2]
        exact .int i t
      · subst e1
        show Rz h e.key _
        rw [e2]
        exact .str x t
theorem kv_two : ∀ {kvs : List (Key × V)} {vs : List (Key × Value)}, KV kvs vs → vs.map (·.1) = kvs.map (·.1) ∧ Vals (kvs.map (·.2)) (vs.map (·.2))
  | _, _, .nil => ⟨rfl, .nil⟩
  | _, _, .cons a b => ⟨by rw [List.map_cons, List.map_cons, (kv_two b).1, a.1], .cons a.2 (kv_two b).2⟩
theorem dct_rz {p : Addr} {kvs : List (Key × V)} {ks : List Key} {ds : List PyData} (I : Inv X pins σ H s) (h : Rd H p (.dK kvs)) (e : kvs.map (·.1) = ks) (hv : ∀ us, Vals (kvs.map (·.2)) us → Rzs s.heap us ds) : Rz s.heap (.ref p) (.dict (kzip ks ds)) := by
  obtain ⟨_, hsys, vs, hk, o, es, ep, e1, e2, e3, _, hp, _⟩ := dk_rd I.hok h
  have two := kv_two hk
  rw [e] at two
  obtain ⟨a, b⟩ := keys_rz hp two.1 (hv _ two.2)
  exact .dct e1 e2.1 e3 hsys a b
mutual
theorem Rep.rz (I : Inv X pins σ H s) (ff : Same w.F H) : ∀ (d : D) (n : Nat) (v : V) (u : Value), d.rok n = true → Rep X.K w d v → RelV v u → Rz s.heap u d.pyR
  | .non, _, v, u, _, h, r => by
    cases (show v = .non from h)
    cases (show u = Value.none from r)
    exact .non
  | .bl b, _, v, u, _, h, r => by
    cases (show v = .bl b from h)
    cases (show u = Value.bool b from r)
    exact .bl b
  | .int i, _, v, u, _, h, r => by
    cases (show v = .int i from h)
    obtain ⟨t, rfl⟩ := (show ∃ t, u = Value.int i t from r)
    exact .int i t
  | .str x, _, v, u, _, h, r => by
    cases (show v = .str x from h)
    obtain ⟨t, rfl⟩ := (show ∃ t, u = Value.str x t from r)
    exact .str x t
  | .tup ds, n, v, u, hp, h, r => by
    obtain ⟨m, rfl⟩ := rok_succ hp
    obtain ⟨p, vs, rfl, h1, h2⟩ := h
    cases (show u = Value.ref p from r)
    obtain ⟨its, rv, ⟨o, ho, hc, n, hd⟩, _⟩ := I.tuple (same_tup ff h1)
    exact .tup ho hc hd (Reps.rz I ff ds m vs its (by simpa [D.rok] using hp) h2 rv)
  | .lst ds, n, v, u, hp, h, r => by
    obtain ⟨m, rfl⟩ := rok_succ hp
    obtain ⟨p, vs, rfl, h1, h2⟩ := h
    cases (show u = Value.ref p from r)
    obtain ⟨its, rv, ⟨o, n, ho, hc, _, hd⟩, _⟩ := I.list (SqL.of (ff _ _ h1))
    exact .lst ho hc hd (Reps.rz I ff ds m vs its (by simpa [D.rok] using hp) h2 rv)
  | .dct ks ds, n, v, u, hp, h, r => by
    obtain ⟨m, rfl⟩ := rok_succ hp
    obtain ⟨p, o, kvs, rfl, h1, h2, h3⟩ := h
    cases (show u = Value.ref p from r)
    have hp : ((ks.all Key.rok && decide (ks.length = ds.length)) && D.roks m ds) = true := by simpa [D.rok, and_assoc] using hp
    exact dct_rz I (.inr ⟨o, ff _ _ h1⟩) h2 fun us rv => Reps.rz I ff ds m _ us (Bool.and_eq_true_iff.mp hp).2 h3 rv
  | .scr _, n, _, _, hp, _, _ => by
    obtain ⟨m, rfl⟩ := rok_succ hp
    simp [D.rok] at hp
  | .obj _, n, _, _, hp, _, _ => by
    obtain ⟨m, rfl⟩ := rok_succ hp
    simp [D.rok] at hp
  | .fn _, n, _, _, hp, _, _ => by
    obtain ⟨m, rfl⟩ := rok_succ hp
    simp [D.rok] at hp
  | .exc _ _, n, _, _, hp, _, _ => by
    obtain ⟨m, rfl⟩ := rok_succ hp
    simp [D.rok] at hp
theorem Reps.rz (I : Inv X pins σ H s) (ff : Same w.F H) : ∀ (ds : List D) (n : Nat) (vs : List V) (us : List Value), D.roks n ds = true → Reps X.K w ds vs → Vals vs us → Rzs s.heap us (D.pyRs ds)
  | [], _, vs, us, _, h, r => by
    cases (show vs = [] from h)
    cases r
    exact .nil
  | d :: ds, n, vs, us, hp, h, r => by
    obtain ⟨x, xs, rfl, h1, h2⟩ := h
    cases r with
    | cons r1 r2 =>
      have hp : (d.rok n && D.roks n ds) = true := by simpa [D.roks] using hp
      obtain ⟨q1, q2⟩ := Bool.and_eq_true_iff.mp hp
      exact .cons (Rep.rz I ff d n _ _ q1 h1 r1) (Reps.rz I ff ds n _ _ q2 h2 r2)
end
theorem RdD.rz (I : Inv X pins σ H s) (ff : Same w.F H) {d : D} {n : Nat} {v : V} {u : Value} (hp : d.rok n = true) (h : RdD X.K w H d v) (r : RelV v u) : Rz s.heap u d.pyR := by
  obtain ⟨m, rfl⟩ := rok_succ hp
  cases d with
  | lst ds =>
    obtain ⟨p, vs, rfl, h1, h2⟩ := h
    cases (show u = Value.ref p from r)
    obtain ⟨its, rv, ⟨o, n, ho, hc, _, hd⟩, _⟩ := I.list (SqL.of h1)
    exact .lst ho hc hd (Reps.rz I ff ds m vs its (by simpa [D.rok] using hp) h2 rv)
  | dct ks ds =>
    obtain ⟨p, kvs, rfl, h1, h2, h3⟩ := h
    cases (show u = Value.ref p from r)
    have hp : ((ks.all Key.rok && decide (ks.length = ds.length)) && D.roks m ds) = true := by simpa [D.rok, and_assoc] using hp
    exact dct_rz I h1 h2 fun us rv => Reps.rz I ff ds m _ us (Bool.and_eq_true_iff.mp hp).2 h3 rv
  | scr ds => simp [D.rok] at hp
  | non => exact Rep.rz I ff _ _ _ _ hp h r
  | bl _ => exact Rep.rz I ff _ _ _ _ hp h r
  | int _ => exact Rep.rz I ff _ _ _ _ hp h r
  | str _ => exact Rep.rz I ff _ _ _ _ hp h r
  | tup _ => exact Rep.rz I ff _ _ _ _ hp h r
  | obj _ => simp [D.rok] at hp
  | fn _ => simp [D.rok] at hp
  | exc _ _ => simp [D.rok] at hp
theorem call_reprD (hy : Shy X.A) (hu : X.A.units + 200 < cLine) : CallR X (.builtin "repr") (fun xs H Q => ∃ (w : Wd) (d : D) (x : V), xs = [x] ∧ Same w.F H ∧ RdD X.K w H d x ∧ d.rok 50 = true ∧ d.pyR.shown.length ≤ sizeLine ∧ Q (.str d.pyR.shown) H) := by
  rintro pins s σ H xs us Q I r ⟨w, d, x, rfl, ff, hd, hk, hz, q⟩
  cases r with
  | cons r1 r2 =>
    cases r2
    obtain ⟨a, b⟩ := rok_show d 50 hk
    exact (RdD.rz I ff hk hd r1).call a hz hy (by omega) rfl fun h' u tk hq => ⟨.str d.pyR.shown, H, I.kept hq, ⟨u, rfl⟩, q⟩
end
end Vi

namespace Vi
open PySem PySem.Spec PyProof.Rows L2
/-! ### further operations: their form in the text -/
def noSup : Expr → Bool
  | .Call (.Name _ _) [] [] _ => false
  | _ => true
def noStarE : Expr → Bool
  | .Starred _ _ => false
  | _ => true
def opPat (k : Ok) (e : Expr) : Option (List Expr) := match k with
  | .lenSet => match e with
    | .Call (.Name x _) [.Call (.Name y _) [a] [] _] [] _ => if decide (x = ("len" : Str)) && decide (y = ("set" : Str)) then some [a] else none
    | _ => none
  | .sortSet => match e with
    | .Call (.Name x _) [.Call (.Name y _) [a] [] _] [] _ => if decide (x = ("sorted" : Str)) && decide (y = ("set" : Str)) then some [a] else none
    | _ => none
  | .get1 => match e with
    | .Call (.Attribute o m ap) [a] [] cp => if decide (m = ("get" : Str)) && noSup o && (ap.endLine == cp.line) then some [o, a] else none
    | _ => none
  | .get2 => match e with
    | .Call (.Attribute o m ap) [a, b] [] cp => if decide (m = ("get" : Str)) && noSup o && (ap.endLine == cp.line) then some [o, a, b] else none
    | _ => none
  | .inVals => match e with
    | .Compare a [.In] [.Call (.Attribute o m ap) [] [] cp] _ => if decide (m = ("values" : Str)) && noSup o && (ap.endLine == cp.line) then some [a, o] else none
    | _ => none
  | .ninVals => match e with
    | .Compare a [.NotIn] [.Call (.Attribute o m ap) [] [] cp] _ => if decide (m = ("values" : Str)) && noSup o && (ap.endLine == cp.line) then some [a, o] else none
    | _ => none
  | .lrange1 => match e with
    | .Call (.Name x _) [.Call (.Name y _) [a] [] _] [] _ => if decide (x = ("list" : Str)) && decide (y = ("range" : Str)) then some [a] else none
    | _ => none
  | .lrange2 => match e with
    | .Call (.Name x _) [.Call (.Name y _) [a, b] [] _] [] _ => if decide (x = ("list" : Str)) && decide (y = ("range" : Str)) then some [a, b] else none
    | _ => none
  | .dictOf => match e with
    | .Call (.Name x _) [a] [] _ => if decide (x = ("dict" : Str)) then some [a] else none
    | _ => none
  | .min1 => match e with
    | .Call (.Name x _) [a] [] _ => if decide (x = ("min" : Str)) then some [a] else none
    | _ => none
  | .repr => match e with
    | .Call (.Name x _) [a] [] _ => if decide (x = ("repr" : Str)) then some [a] else none
    | _ => none
  | .max1 => match e with
    | .Call (.Name x _) [a] [] _ => if decide (x = ("max" : Str)) then some [a] else none
    | _ => none
  | _ => none
def opHid : Ok → List Str
  | .lenSet => ["len", "set"]
  | .sortSet => ["sorted", "set"]
  | .lrange1 => ["list", "range"]
  | .lrange2 => ["list", "range"]
  | .dictOf => ["dict"]
  | .min1 => ["min"]
  | .repr => ["repr"]
  | .max1 => ["max"]
  | _ => []
/-! ### .. its reading -/
def evLo : List (List Sl → List C → Res Od) → List Sl → List C → Res (List Od)
  | [], r, cs => .ok [] r cs
  | m :: ms, r, cs => (m r cs).bind fun o r cs => (evLo ms r cs).bind fun os r cs => .ok (o :: os) r cs
def evL1 (k : Ok) : List (List Sl → List C → Res Od) → List Sl → List C → Res (List Od)
  | [], r, cs => .ok [] r cs
  | m :: ms, r, cs => (m r cs).bind fun d r cs => (liftO ((rd r d).bind (preD k)) r cs).bind fun _ r cs => (evLo ms r cs).bind fun ds r cs => .ok (d :: ds) r cs
def mOp (k : Ok) (ms : List (List Sl → List C → Res Od)) : List Sl → List C → Res Rv := fun r cs => (evL1 k ms r cs).bind fun os r cs => (liftO (rds r os) r cs).bind fun ds r cs => liftO (opD k ds) r cs
/-- what is wanted of the operation on what was read -/
def OpFin (K : PySem.W.Frag) (k : Ok) (vs : List V) (H : Hp) (Q : VK) : Prop := ∃ w ds z, Same w.F H ∧ RdDs K w H ds vs ∧ opD k ds = some z ∧ ∀ v H' w', PureX w H w' H' → NewRv K w' H H' z v → Q v H'
section
variable {X : Cx} {xr : XR} {W : WX} {oa ob oc : List Sl → List C → Res Od} {k : Ok} {σ : Sg} {H : Hp} {Q : VK}
theorem Rel.opEnd {g : Fx} {w : Wd} {r : List Sl} {cs : List C} (R : Rel X.K g w r cs σ H) {os : List Od} {vs : List V} (q : Paired (OdRep X.K w σ) os vs)
    (h : ((liftO (Vi.rds r os) r cs).bind fun ds r cs => liftO (opD k ds) r cs).P (Fin X.K (repV X.K) g w σ Q) (exW X.K xr W g w σ)) : OpFin X.K k vs H Q := by
  obtain ⟨ds, ed, h2⟩ := liftO_P h.bind
  obtain ⟨rv, erv, fin⟩ := R.endP h2
  exact ⟨w, ds, rv, R.ff, R.rds q ed, erv, fin⟩
theorem Rb_assoc {α β γ : Type} {m : Res α} {f : α → List Sl → List C → Res β} {h : β → List Sl → List C → Res γ} : (m.bind f).bind h = m.bind fun a r cs => (f a r cs).bind h := by cases m <;> rfl
theorem mOp1 : mOp k [oa] = fun r cs => (oa r cs).bind fun d r cs => (liftO ((rd r d).bind (preD k)) r cs).bind fun _ r cs => (liftO (rds r [d]) r cs).bind fun ds r cs => liftO (opD k ds) r cs := by
  funext r cs
  simp only [mOp, evL1, evLo, Rb_assoc]
  rfl
theorem mOp2 : mOp k [oa, ob] = fun r cs => (oa r cs).bind fun d r cs => (liftO ((rd r d).bind (preD k)) r cs).bind fun _ r cs => (ob r cs).bind fun e r cs => (liftO (rds r [d, e]) r cs).bind fun ds r cs => liftO (opD k ds) r cs := by
  funext r cs
  simp only [mOp, evL1, evLo, Rb_assoc]
  rfl
theorem mOp3 : mOp k [oa, ob, oc] = fun r cs => (oa r cs).bind fun d r cs => (liftO ((rd r d).bind (preD k)) r cs).bind fun _ r cs => (ob r cs).bind fun e r cs => (oc r cs).bind fun f r cs => (liftO (rds r [d, e, f]) r cs).bind fun ds r cs => liftO (opD k ds) r cs := by
  funext r cs
  simp only [mOp, evL1, evLo, Rb_assoc]
  rfl
theorem op1 (h : tM X.K xr W (mOp k [oa]) σ H Q) : tOm X.K xr W oa σ H fun x H1 => OpFin X.K k [x] H1 Q := by
  rw [mOp1] at h
  obtain ⟨g, w, r, cs, R, hp⟩ := h
  refine tG.mono (R.step hp) fun x H1 ⟨w1, r1, cs1, o1, R1, e1, q1, k1⟩ => ?_
  obtain ⟨_, _, k2⟩ := liftO_P k1.bind
  exact R1.opEnd (.cons q1 .nil) k2
theorem op2 (h : tM X.K xr W (mOp k [oa, ob]) σ H Q) : tOm X.K xr W oa σ H fun x H1 => (∃ w d, Same w.F H1 ∧ RdD X.K w H1 d x ∧ preD k d = some ()) ∧ tOm X.K xr W ob σ H1 fun y H2 => OpFin X.K k [x, y] H2 Q := by
  rw [mOp2] at h
  obtain ⟨g, w, r, cs, R, hp⟩ := h
  refine tG.mono (R.step hp) fun x H1 ⟨w1, r1, cs1, o1, R1, e1, q1, k1⟩ => ?_
  obtain ⟨u, eu, k2⟩ := liftO_P k1.bind
  obtain ⟨d, ed, ep⟩ := Option.bind_eq_some_iff.mp eu
  refine ⟨⟨w1, d, R1.ff, R1.rd q1 ed, ep⟩, ?_⟩
  refine tG.mono (R1.step k2) fun y H2 ⟨w2, r2, cs2, o2, R2, e2, q2, k3⟩ => ?_
  exact R2.opEnd (.cons (OdRep.mono q1 e2) (.cons q2 .nil)) k3
theorem op3 (h : tM X.K xr W (mOp k [oa, ob, oc]) σ H Q) : tOm X.K xr W oa σ H fun x H1 => (∃ w d, Same w.F H1 ∧ RdD X.K w H1 d x ∧ preD k d = some ()) ∧ tOm X.K xr W ob σ H1 fun y H2 => tOm X.K xr W oc σ H2 fun z H3 => OpFin X.K k [x, y, z] H3 Q := by
  rw [mOp3] at h
  obtain ⟨g, w, r, cs, R, hp⟩ := h
  refine tG.mono (R.step hp) fun x H1 ⟨w1, r1, cs1, o1, R1, e1, q1, k1⟩ => ?_
  obtain ⟨u, eu, k2⟩ := liftO_P k1.bind
  obtain ⟨d, ed, ep⟩ := Option.bind_eq_some_iff.mp eu
  refine ⟨⟨w1, d, R1.ff, R1.rd q1 ed, ep⟩, ?_⟩
  refine tG.mono (R1.step k2) fun y H2 ⟨w2, r2, cs2, o2, R2, e2, q2, k3⟩ => ?_
  refine tG.mono (R2.step k3) fun z H3 ⟨w3, r3, cs3, o3, R3, e3, q3, k4⟩ => ?_
  exact R3.opEnd (.cons (OdRep.mono q1 (e2.trans e3)) (.cons (OdRep.mono q2 e3) (.cons q3 .nil))) k4
end
/-! ### .. the rules -/
theorem leastI_ok : ∀ (ks : List Int) (m : Int), leastI m ks ∈ m :: ks ∧ ∀ y ∈ m :: ks, leastI m ks ≤ y
  | [], m => ⟨List.mem_cons_self, fun y h => by rw [List.mem_singleton.mp h]; exact Int.le_refl _⟩
  | k :: ks, m => by
    obtain ⟨h1, h2⟩ := leastI_ok ks (if k < m then k else m)
    have hl := h2 _ List.mem_cons_self
    show leastI (if k < m then k else m) ks ∈ _ ∧ ∀ y ∈ _, leastI (if k < m then k else m) ks ≤ y
    generalize leastI (if k < m then k else m) ks = L at h1 h2 hl ⊢
    refine ⟨?_, fun y hy => ?_⟩
    · rcases List.mem_cons.mp h1 with e | e
      · rw [e]
        split
        · exact List.mem_cons_of_mem _ List.mem_cons_self
        · exact List.mem_cons_self
      · exact List.mem_cons_of_mem _ (List.mem_cons_of_mem _ e)
    · rcases List.mem_cons.mp hy with rfl | hy
      · split at hl <;> omega
      · rcases List.mem_cons.mp hy with rfl | hy
        · split at hl <;> omega
        · exact h2 y (List.mem_cons_of_mem _ hy)
theorem mostI_ok : ∀ (ks : List Int) (m : Int), mostI m ks ∈ m :: ks ∧ ∀ y ∈ m :: ks, y ≤ mostI m ks
  | [], m => ⟨List.mem_cons_self, fun y h => by rw [List.mem_singleton.mp h]; exact Int.le_refl _⟩
  | k :: ks, m => by
    obtain ⟨h1, h2⟩ := mostI_ok ks (if m < k then k else m)
    have hl := h2 _ List.mem_cons_self
    show mostI (if m < k then k else m) ks ∈ _ ∧ ∀ y ∈ _, y ≤ mostI (if m < k then k else m) ks
    generalize mostI (if m < k then k else m) ks = L at h1 h2 hl ⊢
    refine ⟨?_, fun y hy => ?_⟩
    · rcases List.mem_cons.mp h1 with e | e
      · rw [e]
        split
        · exact List.mem_cons_of_mem _ List.mem_cons_self
        · exact List.mem_cons_self
      · exact List.mem_cons_of_mem _ (List.mem_cons_of_mem _ e)
    · rcases List.mem_cons.mp hy with rfl | hy
      · split at hl <;> omega
      · rcases List.mem_cons.mp hy with rfl | hy
        · split at hl <;> omega
        · exact h2 y (List.mem_cons_of_mem _ hy)
theorem leastI_eq {m n : Int} {ks : List Int} (h1 : n ∈ m :: ks) (h2 : ∀ y ∈ m :: ks, n ≤ y) : n = leastI m ks := Int.le_antisymm (h2 _ (leastI_ok ks m).1) ((leastI_ok ks m).2 _ h1)
theorem mostI_eq {m n : Int} {ks : List Int} (h1 : n ∈ m :: ks) (h2 : ∀ y ∈ m :: ks, y ≤ n) : n = mostI m ks := Int.le_antisymm ((mostI_ok ks m).2 _ h1) (h2 _ (mostI_ok ks m).1)
theorem paired_imp {α β : Type} {P Q : α → β → Prop} (f : ∀ a b, P a b → Q a b) : ∀ {l : List α} {m : List β}, Paired P l m → Paired Q l m
  | _, _, .nil => .nil
  | _, _, .cons h t => .cons (f _ _ h) (paired_imp f t)
theorem dict_ok {K : PySem.W.Frag} {w : Wd} : ∀ {ds : List D} {vs : List V} {ps : List (Key × D)}, Reps K w ds vs → dict? ds = some ps → ∃ (as : List Addr) (kvs : List (Key × V)), vs = as.map V.ref ∧ Paired (fun p kv => SqT K w.F p [kV kv.1, kv.2]) as kvs ∧ kvs.map (·.1) = ps.map (·.1) ∧ Reps K w (ps.map (·.2)) (kvs.map (·.2))
  | [], _, ps, h, e => by
    cases (show _ = [] from h)
    cases e
    exact ⟨[], [], rfl, .nil, rfl, rfl⟩
  | d :: ds, _, ps, h, e => by
    obtain ⟨x, xs, rfl, h1, h2⟩ := h
    unfold dict? at e
    split at e
    · cases ‹_ = ([] : List D)›
    · rename_i k v r q
      cases q
      split at e
      · rename_i ky hk
        obtain ⟨ps', e1, rfl⟩ := Option.map_eq_some_iff.mp e
        obtain ⟨as, kvs, rfl, h3, h4, h5⟩ := dict_ok h2 e1
        obtain ⟨p, us, rfl, h6, a, _, rfl, h7, b, _, rfl, h8, h9⟩ := h1
        cases h9
        have e2 : a = kV ky := keyD_ok (H := w.F) hk (RdD.of_rep (Same.refl _) h7)
        subst e2
        exact ⟨p :: as, (ky, b) :: kvs, rfl, .cons h6 h3, by simp [h4], _, _, rfl, h8, h5⟩
      · cases e
    · cases e
theorem mergeD_ok {K : PySem.W.Frag} {w : Wd} : ∀ {ps : List (Key × D)} {more : List (Key × V)} {kvs : List (Key × V)} {acc : List Key × List D}, more.map (·.1) = ps.map (·.1) → Reps K w (ps.map (·.2)) (more.map (·.2)) → kvs.map (·.1) = acc.1 → Reps K w acc.2 (kvs.map (·.2)) →
    (mergeK kvs more).map (·.1) = (mergeD acc ps).1 ∧ Reps K w (mergeD acc ps).2 ((mergeK kvs more).map (·.2))
  | [], more, kvs, acc, h1, h2, h3, h4 => by
    cases more with
    | nil => exact ⟨h3, h4⟩
    | cons _ _ => simp at h1
  | p :: ps, more, kvs, acc, h1, h2, h3, h4 => by
    cases more with
    | nil => simp at h1
    | cons q more =>
      simp only [List.map_cons, List.cons.injEq] at h1
      obtain ⟨x, xs, e, h5, h6⟩ := h2
      cases e
      obtain ⟨z1, z2⟩ := putK_ok (k := p.1) h3 h4 h5
      have := mergeD_ok (ps := ps) (more := more) (kvs := putK kvs p.1 q.2) (acc := putK' acc.1 acc.2 p.1 p.2) h1.2 h6 z1 z2
      show (mergeK (putK kvs q.1 q.2) more).map (·.1) = _ ∧ Reps K w _ ((mergeK (putK kvs q.1 q.2) more).map (·.2))
      rw [h1.1]
      exact this
theorem reps_range {K : PySem.W.Frag} {w : Wd} {lo : Int} {n : Nat} : Reps K w (rangeD lo n) ((List.range n).map fun (i : Nat) => V.int (lo + (i : Int))) := by
  unfold rangeD
  generalize List.range n = l
  induction l with
  | nil => rfl
  | cons i l ih => exact ⟨_, _, rfl, rfl, ih⟩
theorem rdL {K : PySem.W.Frag} {w : Wd} {H : Hp} {ds : List D} {x : V} (h : RdDs K w H [.lst ds] [x]) : ∃ p vs, x = .ref p ∧ H p = some (.lst vs) ∧ Reps K w ds vs := by
  obtain ⟨y, e, h⟩ := RdDs.to1 h
  cases e
  exact h
section
variable {X : Cx} {xr : XR} {W : WX} {oa ob oc : List Sl → List C → Res Od} {a b c o : Expr} {p p2 q apos cpos pos : Pos}
theorem pe_lenSetM (hc : X.calm = true) (hg : Gl X "len") (hm : X.mg "len" = none) (hg2 : Gl X "set") (hm2 : X.mg "set" = none) (ha : PE X a (tOm X.K xr W oa)) (hs : noStarE a = true) :
    PE X (.Call (.Name "len" p) [.Call (.Name "set" p2) [a] [] q] [] pos) (tM X.K xr W (mOp .lenSet [oa])) := by
  refine pe_weak (pe_lenSetL hc hg hm hg2 hm2 ha (by cases a <;> first | rfl | cases hs)) fun σ H Q h => tG.mono (op1 h) fun x H1 ⟨w, ds, z, ff, hd, hz, fin⟩ => ?_
  match ds, hz with
  | [.lst ds], hz =>
    obtain ⟨l, vs, rfl, h1, h2⟩ := rdL hd
    obtain ⟨ns, e1, e2⟩ := Option.bind_eq_some_iff.mp hz
    split at e2
    · rename_i hl
      cases e2
      obtain ⟨rfl, _⟩ := ints_ok h2 e1
      exact ⟨l, ns, rfl, SqL.of h1, hl, fin _ H1 w (PureX.refl ff) rfl⟩
    · cases e2
theorem pe_sortSetM (hc : X.calm = true) (hg : Gl X "sorted") (hm : X.mg "sorted" = none) (hg2 : Gl X "set") (hm2 : X.mg "set" = none) (ha : PE X a (tOm X.K xr W oa)) (hs : noStarE a = true) :
    PE X (.Call (.Name "sorted" p) [.Call (.Name "set" p2) [a] [] q] [] pos) (tM X.K xr W (mOp .sortSet [oa])) := by
  refine pe_weak (pe_sortSetL hc hg hm hg2 hm2 ha (by cases a <;> first | rfl | cases hs)) fun σ H Q h => tG.mono (op1 h) fun x H1 ⟨w, ds, z, ff, hd, hz, fin⟩ => ?_
  match ds, hz with
  | [.lst ds], hz =>
    obtain ⟨l, vs, rfl, h1, h2⟩ := rdL hd
    obtain ⟨ns, e1, e2⟩ := Option.bind_eq_some_iff.mp hz
    split at e2
    · rename_i hl
      cases e2
      obtain ⟨rfl, _⟩ := ints_ok h2 e1
      exact ⟨l, ns, rfl, SqL.of h1, hl, fun r hr => fin _ _ _ (PureX.newOwn ff hr) (newL hr ff (reps_ints _))⟩
    · cases e2
theorem lstar {e : Expr} {env : Env} (h : noStarE e = true) (l : List Expr) : starEach (e :: l) env = (false, eval e env) :: starEach l env := by
  cases e <;> first | rfl | cases h
theorem nosup {e : Expr} {env : Env} {m : Str} (h : noSup e = true) : attributeBase e m env (eval e env) = eval e env := by
  unfold attributeBase
  split
  · cases h
  · rfl
theorem pe_lrange1M (hc : X.calm = true) (hg : Gl X "list") (hm : X.mg "list" = none) (hg2 : Gl X "range") (hm2 : X.mg "range" = none) (ha : PE X a (tOm X.K xr W oa)) (hs : noStarE a = true) :
    PE X (.Call (.Name "list" p) [.Call (.Name "range" p2) [a] [] q] [] pos) (tM X.K xr W (mOp .lrange1 [oa])) := by
  refine pe_weak (pe_listRg hc hg hm (prg_1 hg2 hm2 ha (lstar hs []))) fun σ H Q h => tG.mono (op1 h) fun x H1 ⟨w, ds, z, ff, hd, hz, fin⟩ => ?_
  match ds, hz with
  | [.int j], hz =>
    obtain ⟨y, e, h⟩ := RdDs.to1 hd
    cases e
    cases (show x = .int j from h)
    simp only [opD] at hz
    split at hz
    · rename_i hb
      cases hz
      simp only [Bool.and_eq_true, decide_eq_true_eq, small62] at hb
      refine ⟨j, rfl, ⟨by omega, by omega, by omega, by omega, by omega⟩, fun r hr => fin _ _ _ (PureX.newOwn ff hr) ?_⟩
      have := newL (K := X.K) (ds := rangeD 0 j.toNat) hr ff reps_range
      unfold rgV
      rw [Int.sub_zero]
      exact this
    · cases hz
theorem pe_lrange2M (hc : X.calm = true) (hg : Gl X "list") (hm : X.mg "list" = none) (hg2 : Gl X "range") (hm2 : X.mg "range" = none) (ha : PE X a (tOm X.K xr W oa)) (hb : PE X b (tOm X.K xr W ob)) (hs : noStarE a = true) (hs2 : noStarE b = true) :
    PE X (.Call (.Name "list" p) [.Call (.Name "range" p2) [a, b] [] q] [] pos) (tM X.K xr W (mOp .lrange2 [oa, ob])) := by
  refine pe_weak (pe_listRg hc hg hm (prg_2 hg2 hm2 ha hb (lstar hs [b]) (lstar hs2 []) (by rw [lstar hs2 []]; rfl))) fun σ H Q h => tG.mono (op2 h) fun x H1 ⟨_, h⟩ => tG.mono h fun y H2 ⟨w, ds, z, ff, hd, hz, fin⟩ => ?_
  match ds, hz with
  | [.int i, .int j], hz =>
    obtain ⟨x', y', e, h1, h2⟩ := RdDs.to2 hd
    cases e
    cases (show x = .int i from h1)
    cases (show y = .int j from h2)
    simp only [opD] at hz
    split at hz
    · rename_i hb
      cases hz
      simp only [Bool.and_eq_true, decide_eq_true_eq, small62] at hb
      refine ⟨i, j, rfl, rfl, ⟨by omega, by omega, by omega, by omega, by omega⟩, fun r hr => fin _ _ _ (PureX.newOwn ff hr) (newL (ds := rangeD i (j - i).toNat) hr ff reps_range)⟩
    · cases hz
theorem pe_dictOfM (hc : X.calm = true) (hg : Gl X "dict") (hm : X.mg "dict" = none) (ha : PE X a (tOm X.K xr W oa)) (hs : noStarE a = true) : PE X (.Call (.Name "dict" p) [a] [] pos) (tM X.K xr W (mOp .dictOf [oa])) := by
  refine pe_weak (pe_callTy (call_dictP hc) hg hm (by decide +kernel) (pa_cons ha pa_nil (lstar hs [])) (by decide) (by decide) (lstar hs []) (by rfl)) fun σ H Q h => tG.mono (op1 h) fun x H1 ⟨w, ds, z, ff, hd, hz, fin⟩ => ?_
  match ds, hz with
  | [.lst ds], hz =>
    obtain ⟨l, vs, rfl, h1, h2⟩ := rdL hd
    obtain ⟨ps, e1, rfl⟩ := Option.map_eq_some_iff.mp (show (dict? ds).map _ = some z from hz)
    obtain ⟨as, kvs, rfl, h3, h4, h5⟩ := dict_ok h2 e1
    obtain ⟨z1, z2⟩ := mergeD_ok (K := X.K) (w := w) (kvs := []) (acc := ([], [])) h4 h5 rfl rfl
    refine ⟨l, as, kvs, rfl, SqL.of h1, paired_imp (fun _ _ q => same_tup ff q) h3, fun r hr => fin _ _ _ (PureX.newOwn ff hr) ⟨r, rfl, hr, ⟨_, upd_same, z1, z2⟩, ?_⟩⟩
    cases q : w.F r with
    | none => rfl
    | some u => rw [ff _ _ q] at hr; cases hr
theorem pe_min1M (hc : X.calm = true) (hg : Gl X "min") (hm : X.mg "min" = none) (ha : PE X a (tOm X.K xr W oa)) (hs : noStarE a = true) : PE X (.Call (.Name "min" p) [a] [] pos) (tM X.K xr W (mOp .min1 [oa])) := by
  refine pe_weak (pe_callB (cr_min hc) hg hm (by decide +kernel) (pa_cons ha pa_nil (lstar hs [])) (by decide) (by decide) (lstar hs []) (by rfl)) fun σ H Q h => tG.mono (op1 h) fun x H1 ⟨w, ds, z, ff, hd, hz, fin⟩ => ?_
  match ds, hz with
  | [.lst ds], hz =>
    obtain ⟨l, vs, rfl, h1, h2⟩ := rdL hd
    obtain ⟨ns, e1, e2⟩ := Option.bind_eq_some_iff.mp hz
    obtain ⟨rfl, _⟩ := ints_ok h2 e1
    cases ns with
    | nil => cases e2
    | cons m ks =>
      cases e2
      refine ⟨l, m :: ks, rfl, SqL.of h1, by simp, fun n h3 h4 => ?_⟩
      rw [leastI_eq h3 h4]
      exact fin _ H1 w (PureX.refl ff) rfl
theorem pe_max1M (hc : X.calm = true) (hg : Gl X "max") (hm : X.mg "max" = none) (ha : PE X a (tOm X.K xr W oa)) (hs : noStarE a = true) : PE X (.Call (.Name "max" p) [a] [] pos) (tM X.K xr W (mOp .max1 [oa])) := by
  refine pe_weak (pe_callB (cr_max hc) hg hm (by decide +kernel) (pa_cons ha pa_nil (lstar hs [])) (by decide) (by decide) (lstar hs []) (by rfl)) fun σ H Q h => tG.mono (op1 h) fun x H1 ⟨w, ds, z, ff, hd, hz, fin⟩ => ?_
  match ds, hz with
  | [.lst ds], hz =>
    obtain ⟨l, vs, rfl, h1, h2⟩ := rdL hd
    obtain ⟨ns, e1, e2⟩ := Option.bind_eq_some_iff.mp hz
    obtain ⟨rfl, _⟩ := ints_ok h2 e1
    cases ns with
    | nil => cases e2
    | cons m ks =>
      cases e2
      refine ⟨l, m :: ks, rfl, SqL.of h1, by simp, fun n h3 h4 => ?_⟩
      rw [mostI_eq h3 h4]
      exact fin _ H1 w (PureX.refl ff) rfl
theorem pe_reprM (hy : Shy X.A) (hu : X.A.units + 200 < cLine) (hg : Gl X "repr") (hm : X.mg "repr" = none) (ha : PE X a (tOm X.K xr W oa)) (hs : noStarE a = true) : PE X (.Call (.Name "repr" p) [a] [] pos) (tM X.K xr W (mOp .repr [oa])) := by
  refine pe_weak (pe_callB (call_reprD hy hu) hg hm (by decide +kernel) (pa_cons ha pa_nil (lstar hs [])) (by decide) (by decide) (lstar hs []) (by rfl)) fun σ H Q h => tG.mono (op1 h) fun x H1 ⟨w, ds, z, ff, hd, hz, fin⟩ => ?_
  match ds, hz with
  | [d], hz =>
    obtain ⟨y, e, h⟩ := RdDs.to1 hd
    cases e
    simp only [opD] at hz
    split at hz
    · rename_i hb
      cases hz
      simp only [Bool.and_eq_true, decide_eq_true_eq] at hb
      exact ⟨w, d, x, rfl, ff, h, hb.1, hb.2, fin _ H1 w (PureX.refl ff) rfl⟩
    · cases hz
theorem rdDct {K : PySem.W.Frag} {w : Wd} {H : Hp} {d : D} {x : V} (k : Ok) (hk : k = .get1 ∨ k = .get2) (h : RdD K w H d x) (hp : preD k d = some ()) : ∃ a, x = .ref a ∧ IsD H a := by
  cases d <;> first
    | (rcases hk with rfl | rfl <;> cases hp; done)
    | skip
  obtain ⟨a, kvs, rfl, h1, _⟩ := h
  exact ⟨a, rfl, .inl ⟨kvs, h1⟩⟩
theorem Rep.opt {K : PySem.W.Frag} {w : Wd} {o : Option D} {u : Option V} {d : D} {v : V} (h1 : ∀ d, o = some d → ∃ v, u = some v ∧ Rep K w d v) (h2 : o = none → u = none) (h : Rep K w d v) : Rep K w (o.getD d) (u.getD v) := by
  cases o with
  | none => rw [h2 rfl]; exact h
  | some d' =>
    obtain ⟨v', e, q⟩ := h1 d' rfl
    rw [e]
    exact q
theorem pe_get1M (hu : X.A.units + 1 < cLine) (ho : PE X o (tOm X.K xr W oa)) (ha : PE X a (tOm X.K xr W ob)) (h1 : noSup o = true) (h2 : noStarE a = true) (hl : (apos.endLine == cpos.line) = true) : PE X (.Call (.Attribute o "get" apos) [a] [] cpos) (tM X.K xr W (mOp .get1 [oa, ob])) := by
  refine pe_weak (pe_dget1 hu ho ha ⟨nosup h1, by rw [lstar h2 []]; rfl, hl, by rw [lstar h2 []]; rfl⟩) fun σ H Q h => tG.mono (op2 h) fun x H1 ⟨⟨w, d, ff, hd, hp⟩, h⟩ => ?_
  obtain ⟨A, rfl, hA⟩ := rdDct .get1 (.inl rfl) hd hp
  refine ⟨A, rfl, hA, tG.mono h fun y H2 ⟨w, ds, z, ff, hd, hz, fin⟩ => ?_⟩
  match ds, hz with
  | [.dct ks ds, kd], hz =>
    obtain ⟨x', y', e, h3, h4⟩ := RdDs.to2 hd
    cases e
    obtain ⟨A', kvs, e, h5, h6, h7⟩ := h3
    cases e
    obtain ⟨ky, e1, rfl⟩ := Option.map_eq_some_iff.mp (show (keyD kd).map _ = some z from hz)
    rw [keyD_ok e1 h4]
    obtain ⟨g1, g2⟩ := getK_ok (k := ky) h6 h7
    exact ⟨_, .inl ⟨kvs, ky, h5, rfl, rfl⟩, fin _ H2 w (PureX.refl ff) (Rep.opt g1 g2 (show Rep X.K w .non .non from rfl))⟩
theorem pe_get2M (hu : X.A.units + 1 < cLine) (ho : PE X o (tOm X.K xr W oa)) (ha : PE X a (tOm X.K xr W ob)) (hb : PE X b (tOm X.K xr W oc)) (h1 : noSup o = true) (h2 : noStarE a = true) (h3 : noStarE b = true) (hl : (apos.endLine == cpos.line) = true) : PE X (.Call (.Attribute o "get" apos) [a, b] [] cpos) (tM X.K xr W (mOp .get2 [oa, ob, oc])) := by
  refine pe_weak (pe_dget2 hu ho ha hb ⟨nosup h1, by rw [lstar h2, lstar h3]; rfl, hl, by rw [lstar h2, lstar h3]; rfl⟩) fun σ H Q h => tG.mono (op3 h) fun x H1 ⟨⟨w, d, ff, hd, hp⟩, h⟩ => ?_
  obtain ⟨A, rfl, hA⟩ := rdDct .get2 (.inr rfl) hd hp
  refine ⟨A, rfl, hA, tG.mono h fun y H2 h => tG.mono h fun z H3 ⟨w, ds, rv, ff, hd, hz, fin⟩ => ?_⟩
  match ds, hz with
  | [.dct ks ds, kd, dd], hz =>
    obtain ⟨x', _, e, h3, y', _, e2, h4, z', _, e3, h5, e4⟩ := hd
    cases e
    cases e2
    cases e3
    cases e4
    obtain ⟨A', kvs, e, h6, h7, h8⟩ := h3
    cases e
    simp only [opD] at hz
    split at hz
    · rename_i hs
      obtain ⟨ky, e1, rfl⟩ := Option.map_eq_some_iff.mp hz
      rw [keyD_ok e1 h4]
      obtain ⟨g1, g2⟩ := getK_ok (k := ky) h7 h8
      have h5 : Rep X.K w dd z := by cases dd <;> first | exact h5 | cases hs
      exact ⟨_, .inl ⟨kvs, ky, h6, rfl, rfl⟩, fin _ H3 w (PureX.refl ff) (Rep.opt g1 g2 h5)⟩
    · cases hz
theorem pc_inValsM (hc : X.calm = true) (ha : PE X a (tOm X.K xr W oa)) (hd : PE X o (tOm X.K xr W ob)) (h1 : noSup o = true) (hl : (apos.endLine == cpos.line) = true) : PC X .In a (.Call (.Attribute o "values" apos) [] [] cpos) (tM X.K xr W (mOp .inVals [oa, ob])) := by
  refine ⟨fun pins s σ H Q I h => ?_⟩
  refine thn (ha.run pins s σ H _ I (op2 h)) fun v s1 ⟨y, H1, I1, r1, _, h2⟩ => ?_
  refine values_run hd (nosup h1) hl I1 (tG.mono h2 fun x H2 ⟨w, ds, z, ff, hd2, hz, fin⟩ => ?_)
  match ds, hz with
  | [.int i, .dct ks ds], hz =>
    obtain ⟨y', x', e, h3, h4⟩ := RdDs.to2 hd2
    cases e
    obtain ⟨ns, e1, rfl⟩ := Option.map_eq_some_iff.mp (show (ints? ds).map _ = some z from hz)
    obtain ⟨A, kvs, rfl, h5, h6, h7⟩ := h4
    obtain ⟨e2, _⟩ := ints_ok h7 e1
    refine ⟨A, kvs, rfl, h5, fun s2 I2 v2 vs ep hv hd3 rel => ?_⟩
    cases (show y = .int i from h3)
    obtain ⟨t, rfl⟩ := r1
    obtain ⟨z1, z2⟩ := vals_int rel e2
    show wpAny _ _ (do return Value.bool (← contains (.ref v2) (.int i t))) _ _ _
    exact wpAny_bind (contains_values hc I2 hv hd3 z1 z2 fun g tk hg => wpAny_pure ⟨.bl _, H2, I2.kept hg, rfl, fin _ H2 w (PureX.refl ff) rfl⟩)
theorem pc_ninValsM (hc : X.calm = true) (ha : PE X a (tOm X.K xr W oa)) (hd : PE X o (tOm X.K xr W ob)) (h1 : noSup o = true) (hl : (apos.endLine == cpos.line) = true) : PC X .NotIn a (.Call (.Attribute o "values" apos) [] [] cpos) (tM X.K xr W (mOp .ninVals [oa, ob])) := by
  refine ⟨fun pins s σ H Q I h => ?_⟩
  refine thn (ha.run pins s σ H _ I (op2 h)) fun v s1 ⟨y, H1, I1, r1, _, h2⟩ => ?_
  refine values_run hd (nosup h1) hl I1 (tG.mono h2 fun x H2 ⟨w, ds, z, ff, hd2, hz, fin⟩ => ?_)
  match ds, hz with
  | [.int i, .dct ks ds], hz =>
    obtain ⟨y', x', e, h3, h4⟩ := RdDs.to2 hd2
    cases e
    obtain ⟨ns, e1, rfl⟩ := Option.map_eq_some_iff.mp (show (ints? ds).map _ = some z from hz)
    obtain ⟨A, kvs, rfl, h5, h6, h7⟩ := h4
    obtain ⟨e2, _⟩ := ints_ok h7 e1
    refine ⟨A, kvs, rfl, h5, fun s2 I2 v2 vs ep hv hd3 rel => ?_⟩
    cases (show y = .int i from h3)
    obtain ⟨t, rfl⟩ := r1
    obtain ⟨z1, z2⟩ := vals_int rel e2
    show wpAny _ _ (do return Value.bool (!(← contains (.ref v2) (.int i t)))) _ _ _
    exact wpAny_bind (contains_values hc I2 hv hd3 z1 z2 fun g tk hg => wpAny_pure ⟨.bl _, H2, I2.kept hg, rfl, fin _ H2 w (PureX.refl ff) rfl⟩)
/-- an operation's reading, by the readings of its operands -/
theorem op_ok {k : Ok} {e : Expr} {l : List Expr} {ms : List (List Sl → List C → Res Od)} (hp : opPat k e = some l) (hid : ∀ x ∈ opHid k, Gl X x ∧ X.mg x = none) (hc : X.calm = true) (hy : Shy X.A) (hu : X.A.units + 200 < cLine) (hs : ∀ a ∈ l, noStarE a = true) (hl : Paired (fun a m => PE X a (tOm X.K xr W m)) l ms) :
    PE X e (tM X.K xr W (mOp k ms)) ∧ PT X e (tTM X.K xr W fun r cs => boolOf (mOp k ms r cs)) ∧ ∀ op l pos, e ≠ .BoolOp op l pos := by
  have fin : PE X e (tM X.K xr W (mOp k ms)) → (∀ whole, isTrue e X.env whole = (do let v ← whole; standAt e.pos; holding [v] (truthy v))) → (∀ op l pos, e ≠ .BoolOp op l pos) → PE X e (tM X.K xr W (mOp k ms)) ∧ PT X e (tTM X.K xr W fun r cs => boolOf (mOp k ms r cs)) ∧ ∀ op l pos, e ≠ .BoolOp op l pos := fun h he hb => ⟨h, pt_weak (pt_val h he) (tB_of _), hb⟩
  have hu1 : X.A.units + 1 < cLine := by omega
  cases k <;> first
    | (cases hp; done)
    | skip
  case lenSet =>
    simp only [opPat] at hp
    split at hp
    · split at hp
      · rename_i hx
        simp only [Bool.and_eq_true, decide_eq_true_eq] at hx
        obtain ⟨rfl, rfl⟩ := hx
        cases hp
        cases hl with
        | cons ha hl =>
          cases hl
          obtain ⟨g1, g2⟩ := hid _ List.mem_cons_self
          obtain ⟨g3, g4⟩ := hid _ (List.mem_cons_of_mem _ List.mem_cons_self)
          exact fin (pe_lenSetM hc g1 g2 g3 g4 ha (hs _ List.mem_cons_self)) (fun _ => rfl) fun _ _ _ z => nomatch z
      · cases hp
    · cases hp
  case sortSet =>
    simp only [opPat] at hp
    split at hp
    · split at hp
      · rename_i hx
        simp only [Bool.and_eq_true, decide_eq_true_eq] at hx
        obtain ⟨rfl, rfl⟩ := hx
        cases hp
        cases hl with
        | cons ha hl =>
          cases hl
          obtain ⟨g1, g2⟩ := hid _ List.mem_cons_self
          obtain ⟨g3, g4⟩ := hid _ (List.mem_cons_of_mem _ List.mem_cons_self)
          exact fin (pe_sortSetM hc g1 g2 g3 g4 ha (hs _ List.mem_cons_self)) (fun _ => rfl) fun _ _ _ z => nomatch z
      · cases hp
    · cases hp
  case get1 =>
    simp only [opPat] at hp
    split at hp
    · split at hp
      · rename_i hx
        simp only [Bool.and_eq_true, decide_eq_true_eq] at hx
        obtain ⟨⟨rfl, h1⟩, h2⟩ := hx
        cases hp
        cases hl with
        | cons ho hl =>
          cases hl with
          | cons ha hl =>
            cases hl
            exact fin (pe_get1M hu1 ho ha h1 (hs _ (List.mem_cons_of_mem _ List.mem_cons_self)) h2) (fun _ => rfl) fun _ _ _ z => nomatch z
      · cases hp
    · cases hp
  case get2 =>
    simp only [opPat] at hp
    split at hp
    · split at hp
      · rename_i hx
        simp only [Bool.and_eq_true, decide_eq_true_eq] at hx
        obtain ⟨⟨rfl, h1⟩, h2⟩ := hx
        cases hp
        cases hl with
        | cons ho hl =>
          cases hl with
          | cons ha hl =>
            cases hl with
            | cons hb hl =>
              cases hl
              exact fin (pe_get2M hu1 ho ha hb h1 (hs _ (List.mem_cons_of_mem _ List.mem_cons_self)) (hs _ (List.mem_cons_of_mem _ (List.mem_cons_of_mem _ List.mem_cons_self))) h2) (fun _ => rfl) fun _ _ _ z => nomatch z
      · cases hp
    · cases hp
  case inVals =>
    simp only [opPat] at hp
    split at hp
    · split at hp
      · rename_i hx
        simp only [Bool.and_eq_true, decide_eq_true_eq] at hx
        obtain ⟨⟨rfl, h1⟩, h2⟩ := hx
        cases hp
        cases hl with
        | cons ha hl =>
          cases hl with
          | cons ho hl =>
            cases hl
            have pc := pc_inValsM hc ha ho h1 h2
            exact ⟨pe_cmp pc rfl, pt_weak (pt_cmp pc rfl) (tB_of _), fun _ _ _ z => nomatch z⟩
      · cases hp
    · cases hp
  case ninVals =>
    simp only [opPat] at hp
    split at hp
    · split at hp
      · rename_i hx
        simp only [Bool.and_eq_true, decide_eq_true_eq] at hx
        obtain ⟨⟨rfl, h1⟩, h2⟩ := hx
        cases hp
        cases hl with
        | cons ha hl =>
          cases hl with
          | cons ho hl =>
            cases hl
            have pc := pc_ninValsM hc ha ho h1 h2
            exact ⟨pe_cmp pc rfl, pt_weak (pt_cmp pc rfl) (tB_of _), fun _ _ _ z => nomatch z⟩
      · cases hp
    · cases hp
  case lrange1 =>
    simp only [opPat] at hp
    split at hp
    · split at hp
      · rename_i hx
        simp only [Bool.and_eq_true, decide_eq_true_eq] at hx
        obtain ⟨rfl, rfl⟩ := hx
        cases hp
        cases hl with
        | cons ha hl =>
          cases hl
          obtain ⟨g1, g2⟩ := hid _ List.mem_cons_self
          obtain ⟨g3, g4⟩ := hid _ (List.mem_cons_of_mem _ List.mem_cons_self)
          exact fin (pe_lrange1M hc g1 g2 g3 g4 ha (hs _ List.mem_cons_self)) (fun _ => rfl) fun _ _ _ z => nomatch z
      · cases hp
    · cases hp
  case lrange2 =>
    simp only [opPat] at hp
    split at hp
    · split at hp
      · rename_i hx
        simp only [Bool.and_eq_true, decide_eq_true_eq] at hx
        obtain ⟨rfl, rfl⟩ := hx
        cases hp
        cases hl with
        | cons ha hl =>
          cases hl with
          | cons hb hl =>
            cases hl
            obtain ⟨g1, g2⟩ := hid _ List.mem_cons_self
            obtain ⟨g3, g4⟩ := hid _ (List.mem_cons_of_mem _ List.mem_cons_self)
            exact fin (pe_lrange2M hc g1 g2 g3 g4 ha hb (hs _ List.mem_cons_self) (hs _ (List.mem_cons_of_mem _ List.mem_cons_self))) (fun _ => rfl) fun _ _ _ z => nomatch z
      · cases hp
    · cases hp
  case dictOf =>
    simp only [opPat] at hp
    split at hp
    · split at hp
      · rename_i hx
        simp only [decide_eq_true_eq] at hx
        subst hx
        cases hp
        cases hl with
        | cons ha hl =>
          cases hl
          obtain ⟨g1, g2⟩ := hid _ List.mem_cons_self
          exact fin (pe_dictOfM hc g1 g2 ha (hs _ List.mem_cons_self)) (fun _ => rfl) fun _ _ _ z => nomatch z
      · cases hp
    · cases hp
  case min1 =>
    simp only [opPat] at hp
    split at hp
    · split at hp
      · rename_i hx
        simp only [decide_eq_true_eq] at hx
        subst hx
        cases hp
        cases hl with
        | cons ha hl =>
          cases hl
          obtain ⟨g1, g2⟩ := hid _ List.mem_cons_self
          exact fin (pe_min1M hc g1 g2 ha (hs _ List.mem_cons_self)) (fun _ => rfl) fun _ _ _ z => nomatch z
      · cases hp
    · cases hp
  case max1 =>
    simp only [opPat] at hp
    split at hp
    · split at hp
      · rename_i hx
        simp only [decide_eq_true_eq] at hx
        subst hx
        cases hp
        cases hl with
        | cons ha hl =>
          cases hl
          obtain ⟨g1, g2⟩ := hid _ List.mem_cons_self
          exact fin (pe_max1M hc g1 g2 ha (hs _ List.mem_cons_self)) (fun _ => rfl) fun _ _ _ z => nomatch z
      · cases hp
    · cases hp
  case repr =>
    simp only [opPat] at hp
    split at hp
    · split at hp
      · rename_i hx
        simp only [decide_eq_true_eq] at hx
        subst hx
        cases hp
        cases hl with
        | cons ha hl =>
          cases hl
          obtain ⟨g1, g2⟩ := hid _ List.mem_cons_self
          exact fin (pe_reprM hy hu g1 g2 ha (hs _ List.mem_cons_self)) (fun _ => rfl) fun _ _ _ z => nomatch z
      · cases hp
    · cases hp
end
end Vi

namespace Vi
open PySem PySem.Spec L2
section
variable {X : Cx} {xr : XR} {W : WX} {c e : Expr} {pos : Pos} {body : List Stmt} {mt : List Sl → List C → Res Bool} {mb : List Sl → List C → Res Fl}
/-! ### while -/
theorem ps_whlM (hp : PassesOwn (model X.prog X.w) X.A X.env X.xe) (hc : PT X c (tTM X.K xr W mt)) (hb : PSs X body (tS X.K xr W mb)) : PS X (.While c body [] pos) (tS X.K xr W fun r cs => whileL mt mb wF r cs) := by
  refine ps_weak (ps_while hp hc hb) fun D σ H h => ?_
  refine ⟨fun m σ H => ∃ (g : Fx) (w : Wd) (r : List Sl) (cs : List C), g.E0 = g.H0 ∧ Rel X.K g w r cs σ H ∧ (whileL mt mb m r cs).P (FinS X.K g w D) (exWS X.K xr W g w), ⟨wF, h⟩, fun m σ H h => ?_⟩
  obtain ⟨g, w, r, cs, g0, R, h⟩ := h
  cases m with
  | zero => exact h.elim
  | succ n =>
    have h : ((mt r cs).bind fun b r cs => match b with
      | true => (mb r cs).bind fun fl r cs => match fl with
        | .nx => whileL mt mb n r cs
        | .ct => whileL mt mb n r cs
        | .bk => .ok .nx r cs
        | .rt v => .ok (.rt v) r cs
      | false => .ok .nx r cs).P (FinS X.K g w D) (exWS X.K xr W g w) := h
    refine tG.mono (R.stepS (rep := repB) h) fun b H1 ⟨w1, r1, cs1, k, R1, e1, q1, k1⟩ => ?_
    have q1 : k = b := q1
    subst q1
    cases k with
    | false => exact iteF (k1 w1 σ H1 R1 (Ext.refl _))
    | true =>
      refine iteT ⟨fun σ' H' => ∃ (g : Fx) (w : Wd) (r : List Sl) (cs : List C), g.E0 = g.H0 ∧ Rel X.K g w r cs σ' H' ∧ (whileL mt mb n r cs).P (FinS X.K g w D) (exWS X.K xr W g w), fun σ' H' q => ⟨n, Nat.lt_succ_self n, q⟩, g, w1, r1, cs1, g0, R1, ?_⟩
      refine k1.bind.mono (fun fl r' cs' z w' σ' H' R' e' => ?_) fun _ _ _ z => z
      cases fl with
      | nx => exact ⟨g, w', r', cs', g0, R', z.mono (fun _ _ _ y => y.ext e') fun _ _ _ y => y.ext e'⟩
      | ct => exact ⟨g, w', r', cs', g0, R', z.mono (fun _ _ _ y => y.ext e') fun _ _ _ y => y.ext e'⟩
      | bk => exact z w' σ' H' R' e'
      | rt v => exact z w' σ' H' R' e'
/-! ### x[k], y[l] = e -/
theorem store_im {i : Nat} {g : Fx} {w : Wd} {r : List Sl} {cs : List C} {σ : Sg} {H : Hp} {Dn : Ends} {d : D} {v : V} {mk : List Sl → List C → Res Rv} {f : List Sl → List C → Res Fl} {Q : Sg → Hp → Prop} (R : Rel X.K g w r cs σ H) (q1 : Rep X.K w d v)
    (h : ((liftO (ownAt i r) r cs).bind fun _ r cs => (mk r cs).d.bind fun k r cs => (liftO (ownAt i r) r cs).bind fun p r cs => (liftO (setC p.2 k d) r cs).bind fun c _ cs => Res.bind (.ok () (r.set i (.own p.1 false c)) cs) fun _ r cs => f r cs).P (FinS X.K g w Dn) (exWS X.K xr W g w))
    (hq : ∀ w' r' cs' H', Rel X.K g w' r' cs' σ H' → Ext w w' → (f r' cs').P (FinS X.K g w' Dn) (exWS X.K xr W g w') → Q σ H') :
    gSub (tVar i) (tDm X.K xr W fun r cs => (mk r cs).d) (fun o i v H Q => rSetL o i v H Q ∨ rSetD o i v H Q) v σ H Q := by
  obtain ⟨pc, ep, k2⟩ := liftO_P h.bind
  obtain ⟨a, ea⟩ := R.ownAddr (ownAt_eq ep)
  refine ⟨_, ea, ?_⟩
  refine tG.mono (R.stepS (rep := repD X.K) k2) fun u H2 ⟨w2, r2, cs2, kd, R2, e2, q2, k3⟩ => ?_
  have q2 : Rep X.K w2 kd u := q2
  obtain ⟨pc2, ep2, k4⟩ := liftO_P k3.bind
  obtain ⟨c, ec, k5⟩ := liftO_P k4.bind
  have es := ownAt_eq ep2
  obtain ⟨h1, h2, h3, h4⟩ := R2.mayW es ea
  have fin : ∀ o, HRep X.K w2 (upd H2 a o) c a → Q σ (upd H2 a o) := fun o hr => hq w2 _ _ _ (R2.write es ea (Ext.refl _) rfl (fun _ _ => rfl) (Same.updN R2.ff h2) rfl (.inr ⟨false, c, rfl, hr, h2⟩)) e2 k5
  obtain ⟨io, c0⟩ := pc2
  dsimp only at ec h1 es
  cases c0 with
  | ins _ _ _ => exact h1.elim
  | lst ds =>
    obtain ⟨vs, hp, hr⟩ := h1
    unfold setC at ec
    dsimp only at ec
    cases kd <;> first
      | (cases ec; done)
      | skip
    case int j q0 =>
      cases q : ixN ds.length j with
      | none => simp [q] at ec
      | some n =>
        simp [q] at ec
        subst ec
        exact .inl ⟨a, vs, j, n, rfl, q2, hp, by rw [hr.length]; exact q, fin _ ⟨_, upd_same, hr.set n (Rep.mono e2 _ _ q1)⟩⟩
  | dct ks ds =>
    obtain ⟨kvs, hp, hk1, hr⟩ := h1
    unfold setC at ec
    dsimp only at ec
    cases q : keyD kd with
    | none => simp [q] at ec
    | some ky =>
      simp [q] at ec
      obtain ⟨hl, rfl⟩ := ec
      have hv := keyD_ok (H := H2) q (RdD.of_rep R2.ff q2)
      obtain ⟨z1, z2⟩ := putK_ok (k := ky) hk1 hr (Rep.mono e2 _ _ q1)
      refine .inr ⟨a, _, rfl, ?_, fin (.dK (putK kvs ky v)) ⟨_, upd_same, z1, z2⟩⟩
      rw [hv]
      exact DPut.k hp (by rw [← hk1, List.length_map] at hl; exact hl)
theorem unTwo_eq {d : D} {p : D × D} (h : unTwo d = some p) : d = .tup [p.1, p.2] := by
  unfold unTwo at h
  split at h
  · cases h; rfl
  · cases h
theorem swS_of {o k t2 : Expr} {p pt : Pos} {kt : Nat} {env : Env} : swappedStores [.Tuple [.Subscript o k p, t2] kt pt] e env = pure none := by
  cases e <;> first
    | rfl
    | skip
  rename_i vs _ _
  unfold swappedStores
  simp only [List.length_cons, List.length_nil]
  split
  · rfl
  · split
    · rfl
    · have h1 : ([Expr.Subscript o k p, t2].filterMap fun
        | .Name id pos => if env.kindOf id == some .local && pos.line == (([Expr.Subscript o k p, t2].head?.map (·.pos.line)).getD 0) then some id else none
        | _ => none).length ≤ 1 := by
        rw [List.filterMap_cons]
        exact List.length_filterMap_le _ [t2]
      split
      · rfl
      · rename_i h
        exfalso
        simp only [Bool.or_eq_true, bne_iff_ne, ne_eq, not_or, Decidable.not_not] at h
        exact absurd (Nat.le_trans (Nat.le_of_eq h.1.symm) h1) (by decide)
theorem ps_setI2M {i j : Nat} {x y : Str} {k l : Expr} {px py p1 p2 pt : Pos} {kt : Nat} {m mk ml : List Sl → List C → Res Rv} (hcm : X.calm = true) (hu : X.A.units + 1 < cLine)
    (hNx : X.N[i]? = some x) (hvx : Vis X.env.scope x) (hdx : (x == ("__debug__" : Str)) = false) (hcx : (x == ("__classdict__" : Str)) = false)
    (hNy : X.N[j]? = some y) (hvy : Vis X.env.scope y) (hdy : (y == ("__debug__" : Str)) = false) (hcy : (y == ("__classdict__" : Str)) = false)
    (he : PE X e (tM X.K xr W m)) (hk : PE X k (tM X.K xr W mk)) (hl : PE X l (tM X.K xr W ml))
    (ha : ∀ v, assign (.Subscript (.Name x px) k p1) X.env v = (do
      let ov ← holding [v] (eval (.Name x px) X.env)
      let iv ← holding [v, ov] (eval k X.env)
      standAt p1
      holding [v, ov, iv] (setItem ov iv v)
      release [v, ov, iv] []))
    (hb : ∀ v, assign (.Subscript (.Name y py) l p2) X.env v = (do
      let ov ← holding [v] (eval (.Name y py) X.env)
      let iv ← holding [v, ov] (eval l X.env)
      standAt p2
      holding [v, ov, iv] (setItem ov iv v)
      release [v, ov, iv] []))
    (hs : swapsWithSole [.Tuple [.Subscript (.Name x px) k p1, .Subscript (.Name y py) l p2] kt pt] e pos.line X.env = pure false) :
    PS X (.Assign [.Tuple [.Subscript (.Name x px) k p1, .Subscript (.Name y py) l p2] kt pt] e pos) (tS X.K xr W fun r cs => (m r cs).d.bind fun d r cs => (liftO (unTwo d) r cs).bind fun q r cs =>
      (liftO (ownAt i r) r cs).bind fun _ r cs => (mk r cs).d.bind fun k r cs => (liftO (ownAt i r) r cs).bind fun p r cs => (liftO (setC p.2 k q.1) r cs).bind fun c _ cs => Res.bind (.ok () (r.set i (.own p.1 false c)) cs) fun _ r cs =>
      (liftO (ownAt j r) r cs).bind fun _ r cs => (ml r cs).d.bind fun k r cs => (liftO (ownAt j r) r cs).bind fun p r cs => (liftO (setC p.2 k q.2) r cs).bind fun c _ cs => Res.bind (.ok () (r.set j (.own p.1 false c)) cs) fun _ r cs => .ok .nx r cs) := by
  have g1 := pg_sub (pos := p1) (pe_var hNx hvx hdx hcx) (pe_frz hk) (PSet.or set_list (set_dict hu)) ha
  have g2 := pg_sub (pos := p2) (pe_var hNy hvy hdy hcy) (pe_frz hl) (PSet.or set_list (set_dict hu)) hb
  refine ps_weak (ps_asg (pe_frz he) (pg_tup (n := 2) hcm (pgs_cons g1 (pgs_cons g2 pgs_nil))) hs swS_of rfl) fun D σ H ⟨g, w, r, cs, g0, R, h⟩ => ?_
  refine tG.mono (R.stepS (rep := repD X.K) h) fun v H1 ⟨w1, r1, cs1, d, R1, e1, q1, k1⟩ => ?_
  obtain ⟨q, eq, k2⟩ := liftO_P k1.bind
  obtain rfl := unTwo_eq eq
  obtain ⟨a, vs, rfl, h1, v1, _, rfl, h2, v2, _, rfl, h3, e3⟩ := q1
  cases e3
  refine ⟨a, _, rfl, same_tup R1.ff h1, rfl, v1, _, rfl, store_im R1 h2 k2 fun w2 r2 cs2 H2 R2 e2 k3 => ⟨v2, _, rfl, ?_⟩⟩
  have k4 : ((liftO (ownAt j r2) r2 cs2).bind fun _ r cs => (ml r cs).d.bind fun k r cs => (liftO (ownAt j r) r cs).bind fun p r cs => (liftO (setC p.2 k q.2) r cs).bind fun c _ cs => Res.bind (.ok () (r.set j (.own p.1 false c)) cs) fun _ r cs => Res.ok Fl.nx r cs).P (FinS X.K g w2 D) (exWS X.K xr W g w2) := k3
  exact store_im R2 (Rep.mono e2 _ _ h3) k4 fun w3 r3 cs3 H3 R3 e3 k5 => ⟨rfl, k5 w3 σ H3 R3 (Ext.refl _)⟩
end
end Vi

namespace Vi
open PySem PySem.Spec L2
/-! ### a def keeps its promise -/
def io1 : Rv → V → Option Addr
  | .own _, .ref p => some p
  | _, _ => none
def iosOf : List Rv → List V → List (Option Addr)
  | a :: as, v :: vs => io1 a v :: iosOf as vs
  | _, _ => []
theorem iosOf_at {p : Addr} : ∀ {as : List Rv} {vs : List V} {i : Nat}, (iosOf as vs)[i]? = some (some p) → ∃ c, as[i]? = some (.own c) ∧ vs[i]? = some (.ref p)
  | [], _, i, h => by simp [iosOf] at h
  | _ :: _, [], i, h => by simp [iosOf] at h
  | a :: as, v :: vs, 0, h => by
    simp [iosOf] at h
    cases a with
    | val d => cases h
    | own c =>
      cases v with
      | ref q => cases h; exact ⟨c, rfl, rfl⟩
      | _ => cases h
  | a :: as, v :: vs, i + 1, h => by simpa using iosOf_at (as := as) (vs := vs) (i := i) (by simpa [iosOf] using h)
theorem of_iosOf {p : Addr} {c : C} : ∀ {as : List Rv} {vs : List V} {i : Nat}, as[i]? = some (.own c) → vs[i]? = some (.ref p) → (iosOf as vs)[i]? = some (some p)
  | [], _, i, h, _ => by simp at h
  | _ :: _, [], i, _, h => by simp at h
  | a :: as, v :: vs, 0, h1, h2 => by
    simp at h1 h2
    subst h1
    subst h2
    rfl
  | a :: as, v :: vs, i + 1, h1, h2 => by simpa [iosOf] using of_iosOf (as := as) (vs := vs) (i := i) (by simpa using h1) (by simpa using h2)
def fxOf (w : Wd) (as : List Rv) (vs : List V) (H : Hp) : Fx := ⟨H, H, w, ownAds as vs ++ w.ph, iosOf as vs, []⟩
section
variable {K : PySem.W.Frag} {w w' : Wd} {as : List Rv} {vs : List V} {cs cs' : List C} {H H' : Hp} {N : List Str} {n ns : Nat} {r' : List Sl} {σ' : Sg}
theorem Rel.start (A : ArgRel K w H as vs) (ff : Same w.F H) (ce : CellsC K w cs H) (hN : as.length + (ns - as.length) = N.length) : Rel K (fxOf w as vs H) w (as.map inOf ++ List.replicate (ns - as.length) .no) cs (L2.start N vs) H := by
  have hs : ∀ {i : Nat} {v : V}, vs[i]? = some v → (L2.start N vs)[i]? = some (some v) := fun {i v} e => by
    unfold L2.start
    have := (List.getElem?_eq_some_iff.mp e).1
    rw [List.getElem?_append_left (by simpa using this), List.getElem?_map, e]
    rfl
  have ri : ∀ {i : Nat} {x : Sl}, (as.map inOf ++ List.replicate (ns - as.length) .no)[i]? = some x → x = .no ∨ ∃ a, as[i]? = some a ∧ x = inOf a := fun {i x} e => by
    by_cases h : i < as.length
    · rw [List.getElem?_append_left (by simpa using h), List.getElem?_map] at e
      rw [List.getElem?_eq_getElem h] at e
      exact .inr ⟨_, List.getElem?_eq_getElem h, by injection e with e; exact e.symm⟩
    · rw [List.getElem?_append_right (by simpa using h), List.getElem?_replicate] at e
      split at e
      · injection e with e; exact .inl e.symm
      · cases e
  have ro : ∀ {i : Nat} {a : Rv}, as[i]? = some a → (as.map inOf ++ List.replicate (ns - as.length) .no)[i]? = some (inOf a) := fun {i a} e => by
    have := (List.getElem?_eq_some_iff.mp e).1
    rw [List.getElem?_append_left (by simpa using this), List.getElem?_map, e]
    rfl
  have own : ∀ {i : Nat} {p : Addr}, OwnAt (as.map inOf ++ List.replicate (ns - as.length) .no) (L2.start N vs) i p → ∃ c, as[i]? = some (.own c) ∧ vs[i]? = some (.ref p) := fun {i p} ⟨io, lk, c, e1, e2⟩ => by
    rcases ri e1 with q | ⟨a, q1, q2⟩
    · cases q
    · cases a with
      | val d => cases q2
      | own c' =>
        obtain ⟨p', z1, z2⟩ := A.own i c' q1
        rw [hs z1] at e2
        cases e2
        exact ⟨c', q1, z1⟩
  refine ⟨ff, Ext.refl _, fun a ha => ?_, fun a o e => ⟨o, e⟩, fun a o e => ⟨o, e⟩, fun a o e _ => e, fun a o _ _ n => n, ?_, fun i x e => ?_, fun i j p h1 h2 => ?_, fun i p e => ?_, ⟨ce.len, ce.nd, fun n c p e1 e2 => ?_⟩, fun i p c e => by simp [fxOf] at e⟩
  · rcases List.mem_append.mp ha with h | h
    · obtain ⟨i, c, e1, e2⟩ := mem_ownAds h
      obtain ⟨p, z1, z2, _⟩ := A.own i c e1
      rw [e2] at z1
      cases z1
      exact HRep.at_some z2
    · obtain ⟨n, hn, e⟩ := List.getElem_of_mem h
      have hn2 : n < cs.length := by rw [ce.len]; exact hn
      obtain ⟨h1, _⟩ := ce.at_ n cs[n] a (List.getElem?_eq_getElem hn2) (by rw [List.getElem?_eq_getElem hn, e])
      exact HRep.at_some h1
  · unfold L2.start
    have := A.len
    simp
    omega
  · rcases ri e with rfl | ⟨a, q1, rfl⟩
    · trivial
    · cases a with
      | val d =>
        obtain ⟨v, z1, z2⟩ := A.val i d q1
        exact ⟨v, hs z1, z2⟩
      | own c =>
        obtain ⟨p, z1, z2, z3, z4⟩ := A.own i c q1
        exact ⟨p, hs z1, z2, z3, z4, .inl (List.mem_append_left _ (of_ownAds q1 z1)), fun z => nomatch z⟩
  · obtain ⟨c, a1, a2⟩ := own h1
    obtain ⟨c', b1, b2⟩ := own h2
    exact A.dist i j c c' p a1 b1 a2 b2
  · obtain ⟨c, a1, a2⟩ := iosOf_at e
    exact ⟨hs a2, _, ro a1, rfl⟩
  · obtain ⟨a, b⟩ := ce.at_ n c p e1 e2
    exact ⟨a, b, .inl (List.mem_append_right _ (List.mem_of_getElem? e2))⟩
theorem Rel.post (R : Rel K (fxOf w as vs H) w' r' cs' σ' H') (e : Ext w w') (hn : as.length = n) : Post K w H as vs w' H' ((r'.take n).map outOf) cs' := by
  have noW : ∀ {a : Addr}, a ∉ ownAds as vs → a ∉ w.ph → a ∉ (fxOf w as vs H).W := fun {a} h1 h2 z => by
    rcases List.mem_append.mp z with z | z
    · exact h1 z
    · exact h2 z
  refine ⟨R.ff, e, R.al, fun a o q h1 h2 => R.keep a o q (noW h1 h2), fun a o q h1 h2 n => R.fk a o q (noW h1 h2) n, fun i c p e1 e2 => ?_, ⟨R.ce.len, R.ce.nd, fun n c p e1 e2 => let ⟨a, b, _⟩ := R.ce.at_ n c p e1 e2; ⟨a, b⟩⟩, fun p hp => ?_⟩
  · obtain ⟨s1, y, y1, y2⟩ := R.io i p (of_iosOf e1 e2)
    have hi : i < n := by rw [← hn]; exact (List.getElem?_eq_some_iff.mp e1).1
    have ho : ((r'.take n).map outOf)[i]? = some (outOf y) := by
      rw [List.getElem?_map, List.getElem?_take_of_lt hi, y1]; rfl
    cases y with
    | no => cases y2
    | val io d =>
      obtain ⟨v, z1, z2⟩ := R.sl i _ y1
      rw [s1] at z1
      cases z1
      exact .inr ⟨d, ho, z2⟩
    | own io lk c' =>
      obtain ⟨h1, h2, h3, _⟩ := R.mayW y1 s1
      exact .inl ⟨c', ho, h1, h2, h3⟩
  · rcases (R.phSome hp).2 with z | z
    · rcases List.mem_append.mp z with z | z
      · exact .inr (.inr z)
      · exact .inl z
    · exact .inr (.inl z)
end
/-- the law of a def: its body's reading gives its promise -/
theorem fn_ok {P : Program} {wd : World} {K : PySem.W.Frag} {mg : Str → Option Value} {base : Heap} {k : Nat} {f : Addr} {x qual : Str} {params : Arguments} {body : List Stmt} {scope : Scope} {dvs : List V} {fd : FuncData} {N ps : List Str} {xr : XR} {gc : Gc} {fn : Fn}
    (F : FunD K x qual params body scope dvs [] f fd) (S : FnScope N ps scope) (hp : ps.length = fn.np) (hN : fn.ns = N.length)
    (hb : ∀ X : Cx, X.prog = P → X.w = wd → X.K = K → X.mg = mg → X.base = base → X.N = N → X.calm = true → X.env.scope = scope → Shy X.A → Room k X.A → (∀ x, X.fn x = true) → PassesOwn (model X.prog X.w) X.A X.env X.xe → ∀ W : WX, Takes X W → PSs X body (tS X.K xr W (evSs gc fn.body))) :
    FnG P wd K mg base (L2.CX P wd) (k + 1) f fd ps (spOf K xr fn.np fun vs cs => runF gc fn vs cs) := by
  have hpn : fn.np ≤ fn.ns := by
    rw [hN, ← hp]
    have := congrArg List.length S.pre
    rw [List.length_take] at this
    omega
  refine defG (P := P) (w := wd) (mg := mg) (base := base) (CX := L2.CX P wd) F S (fun vs H Q E ⟨w, as, cs, hl, _⟩ => by rw [hl, hp]) fun cdv A outer s H vs Q E hy hr hs => ?_
  obtain ⟨w, as, cs, hl, A1, ff, ce, hm⟩ := hs
  have hX := hb (cxOf (L2.CX P wd) P wd K mg base N qual scope f cdv A outer s H E) rfl rfl rfl rfl rfl rfl rfl rfl hy hr (fun _ => rfl) (passes_of rfl) (fun cls d _ H => E cls d H) (takes_of rfl rfl rfl rfl)
  have hal : as.length = fn.np := by rw [A1.len, hl]
  have RS := Rel.start (N := N) (ns := fn.ns) A1 ff ce (by rw [hal]; omega)
  refine ⟨_, hX, fxOf w as vs H, w, as.map inOf ++ List.replicate (fn.ns - as.length) Sl.no, cs, rfl, RS, ?_⟩
  unfold runF at hm
  dsimp only at hm
  rw [if_pos hal] at hm
  rw [hal]
  cases q : evSs gc fn.body (as.map inOf ++ List.replicate (fn.ns - fn.np) .no) cs with
  | no => rw [q] at hm; exact hm.elim
  | ex e r' cs' =>
    rw [q] at hm
    intro w' σ' H' cls d R e' hx
    exact hm w' H' cls d (R.post e' hal) hx
  | ok fl r' cs' =>
    rw [q] at hm
    intro w' σ' H' R e'
    cases fl with
    | nx => exact hm w' H' .non (R.post e' hal) rfl
    | bk => exact hm.elim
    | ct => exact hm.elim
    | rt v =>
      intro x hx
      refine hm w' H' x (R.post e' hal) ?_
      cases v with
      | val d => exact hx
      | own c =>
        obtain ⟨p, rfl, h1, h2, h3, _, _, h4, _⟩ := hx
        exact ⟨p, rfl, h1, h2, h3, h4⟩
end Vi

namespace Vi
open PySem PySem.Spec L2
/-! ### the text and its small form -/
structure Fi where
  name : Str
  shapes : List (Nat × List Str × List A0)
structure Ck where
  N : List Str
  fs : List Fi
  gl : List (Str × Cst)
  hid : List Str
def nameOk (x : Str) : Bool := !(x == ("__debug__" : Str)) && !(x == ("__classdict__" : Str))
def visB (sc : Scope) (x : Str) : Bool := match sc.names.lookup x with
  | some .local => true
  | some .cell => true
  | some .free => true
  | _ => false
/-- a block's own cells; all names -/
def cellB (scope : Scope) (x : Str) : Bool := scope.names.lookup x == some .cell
def allB (_ : Str) : Bool := true
def locB (tp : Str → Bool) (sc : Scope) (x : Str) : Bool := match sc.names.lookup x with
  | some .local => true
  | some .cell => tp x
  | _ => false
def lclB (sc : Scope) (x : Str) : Bool := match sc.names.lookup x with
  | some .local => true
  | _ => false
def glB (sc : Scope) (x : Str) : Bool := match sc.names.lookup x with
  | some .globalImplicit => true
  | _ => false
def noStar : Expr → Bool
  | .Starred _ _ => false
  | _ => true
def noIf : Expr → Bool
  | .IfExp _ _ _ _ => false
  | _ => true
def noSet : Expr → Bool
  | .Set _ _ _ => false
  | _ => true
def noSlice : Expr → Bool
  | .Slice _ _ _ _ => false
  | _ => true
def noComp : Expr → Bool
  | .ListComp _ _ _ _ => false
  | .SetComp _ _ _ _ => false
  | .DictComp _ _ _ _ _ => false
  | _ => true
def isLC : Expr → Bool
  | .ListComp _ _ _ _ => true
  | _ => false
def noTup : Expr → Bool
  | .Tuple _ _ _ => false
  | _ => true
def nameE : Expr → Option Str
  | .Name x _ => some x
  | _ => none
def varB (C : Ck) (sc : Scope) (i : Nat) (x : Str) : Bool := decide (C.N[i]? = some x) && visB sc x && nameOk x
def tgB (C : Ck) (tp : Str → Bool) (sc : Scope) (i : Nat) (x : Str) : Bool := decide (C.N[i]? = some x) && locB tp sc x
def opB (o : Op) (p : Operator) : Bool := match o, p with
  | .add, .Add => true
  | .sub, .Sub => true
  | .mul, .Mult => true
  | .fdiv, .FloorDiv => true
  | .mod, .Mod => true
  | .pow, .Pow => true
  | _, _ => false
def cmB (o : Cm) (p : CmpOp) : Bool := match o, p with
  | .lt, .Lt => true
  | .le, .LtE => true
  | .gt, .Gt => true
  | .ge, .GtE => true
  | .eq, .Eq => true
  | .ne, .NotEq => true
  | .mem, .In => true
  | .nmem, .NotIn => true
  | .is, .Is => true
  | .nis, .IsNot => true
  | _, _ => false
def tgNames (C : Ck) (tp : Str → Bool) (sc : Scope) : List Nat → List Expr → Bool
  | [], [] => true
  | i :: is, .Name x _ :: es => tgB C tp sc i x && tgNames C tp sc is es
  | _, _ => false
def tgPts (C : Ck) (tp : Str → Bool) (sc : Scope) : List Pt → List Expr → Bool
  | [], [] => true
  | .n i :: ps, .Name x _ :: es => tgB C tp sc i x && tgPts C tp sc ps es
  | .t is :: ps, .Tuple ts _ _ :: es => tgNames C tp sc is ts && tgPts C tp sc ps es
  | _, _ => false
def chkTg (C : Ck) (tp : Str → Bool) (sc : Scope) (tg : Tg) (e : Expr) : Bool := match tg, e with
  | .name i, .Name x _ => tgB C tp sc i x
  | .tup is, .Tuple es _ _ => tgNames C tp sc is es
  | .pat ps, .Tuple es _ _ => tgPts C tp sc ps es
  | _, _ => false
def isTupE : Expr → Bool
  | .Tuple _ _ _ => true
  | _ => false
def hidB (C : Ck) (sc : Scope) (x : Str) : Bool := glB sc x && C.hid.contains x
def shB (C : Ck) (f : Nat) (x : Str) (n : Nat) (ks : List Str) (ord : List A0) : Bool := match C.fs[f]? with
  | some fi => decide (fi.name = x) && decide ((n, ks, ord) ∈ fi.shapes)
  | none => false
def mu2 : Mu → Bool
  | .insert => true
  | _ => false
/-- the places of a block's own names -/
def ownB (C : Ck) (vs : List Nat) : List (Str × Nat) := vs.map fun i => (C.N.getD i default, i)
def mu0 : Mu → Bool
  | .pop => true
  | .clear => true
  | .reverse => true
  | _ => false
mutual
def chkE (C : Ck) : E → Scope → Bool → Expr → Bool
  | .var i, sc, _, e => match e with
    | .Name x _ => varB C sc i x
    | _ => false
  | .non, _, _, e => match e with
    | .Constant .none _ _ => true
    | _ => false
  | .bl b, _, _, e => match e with
    | .Constant (.bool c) _ _ => b == c
    | _ => false
  | .int i, _, _, e => match e with
    | .Constant (.int j) _ _ => decide (i = j)
    | _ => false
  | .str s, _, _, e => match e with
    | .Constant (.str t) _ _ => decide (s = t)
    | _ => false
  | .glo x c, sc, _, e => match e with
    | .Name y _ => decide (x = y) && glB sc x && nameOk x && decide ((x, c) ∈ C.gl)
    | _ => false
  | .bin o a b, sc, top, e => match e with
    | .BinOp l p r _ => opB o p && chkE C a sc top l && chkE C b sc top r
    | _ => false
  | .neg a, sc, top, e => match e with
    | .UnaryOp .USub l _ => chkE C a sc top l
    | _ => false
  | .cmp c a b, sc, top, e => match e with
    | .Compare l [p] [r] _ => cmB c p && noSet r && chkE C a sc top l && chkE C b sc top r
    | _ => false
  | .cmp2 c c2 a b d, sc, top, e => match e with
    | .Compare l [p, p2] [m, r] _ => cmB c p && cmB c2 p2 && noSet m && noSet r && chkE C a sc top l && chkE C b sc top m && chkE C d sc top r
    | _ => false
  | .and a b, sc, top, e => match e with
    | .BoolOp .And [l, r] _ => noIf l && noIf r && chkE C a sc top l && chkE C b sc top r
    | .BoolOp .And (l :: r :: q :: t) p => noIf l && chkE C a sc top l && chkE C b sc top (.BoolOp .And (r :: q :: t) p)
    | _ => false
  | .or a b, sc, top, e => match e with
    | .BoolOp .Or [l, r] _ => noIf l && noIf r && chkE C a sc top l && chkE C b sc top r
    | .BoolOp .Or (l :: r :: q :: t) p => noIf l && chkE C a sc top l && chkE C b sc top (.BoolOp .Or (r :: q :: t) p)
    | _ => false
  | .not a, sc, top, e => match e with
    | .UnaryOp .Not l _ => noIf l && chkE C a sc top l
    | _ => false
  | .ite c a b, sc, top, e => match e with
    | .IfExp t l r _ => noIf t && chkE C c sc top t && chkE C a sc top l && chkE C b sc top r
    | _ => false
  | .tup es, sc, top, e => match e with
    | .Tuple l _ _ => chkEs C es sc top l
    | _ => false
  | .lst es, sc, top, e => match e with
    | .List l _ => chkEs C es sc top l
    | _ => false
  | .dct es, sc, top, e => match e with
    | .Dict ks vs _ => decide (ks.length ≤ 15) && chkP C es sc top ks vs
    | _ => false
  | .idx a i, sc, top, e => match e with
    | .Subscript l r _ => noSlice r && chkE C a sc top l && chkE C i sc top r
    | _ => false
  | .slc a lo hi, sc, top, e => match e with
    | .Subscript l (.Slice lo' hi' none _) _ => chkE C a sc top l && chkOp C lo sc top lo' && chkOp C hi sc top hi'
    | _ => false
  | .rev a, sc, top, e => match e with
    | .Subscript l (.Slice none none (some (.UnaryOp .USub (.Constant (.int 1) _ _) _)) _) _ => chkE C a sc top l
    | _ => false
  | .call f es ks kes ord, sc, top, e => match e with
    | .Call (.Name x _) args kws _ => glB sc x && nameOk x && shB C f x args.length ks ord && chkEs C es sc top args && chkKs C kes sc top ks kws
    | _ => false
  | .bi b es, sc, top, e => match e with
    | .Call (.Name x _) args [] _ => decide (x = b.name) && hidB C sc x && !args.isEmpty && chkEs C es sc top args
    | _ => false
  | .op k es, sc, top, e => match opPat k e with
    | some l => ((opHid k).all fun x => hidB C sc x) && chkEs C es sc top l
    | none => false
  | .stuck, _, _, _ => true
  | .isi t a, sc, top, e => match e with
    | .Call (.Name x _) [l, .Name y _] [] _ => decide (x = ("isinstance" : Str)) && decide (y = Str.ofString t.name) && hidB C sc x && hidB C sc y && noStar l && chkE C a sc top l
    | _ => false
  | .mut m i es, sc, top, e => match e with
    | .Call (.Attribute (.Name x _) nm ap) args [] pos => decide (nm = m.name) && varB C sc i x && (ap.endLine == pos.line) && chkEs C es sc top args && (if mu0 m then args.isEmpty else if mu2 m then decide (args.length = 2) else decide (args.length = 1))
    | _ => false
  | .comp elt tg sr cs vs, sc, top, e => match e with
    | .ListComp el [⟨tgE, it, ifs, a⟩] scope _ => decide (a = 0) && blkC C.N sc scope (ownB C vs) && noSet it && chkSrc C sr sc top tgE it && chkTg C (cellB scope) (relS scope sc) tg tgE && (tg.vars.all fun j => vs.contains j) && chkC C cs (relS scope sc) ifs && chkE C elt (relS scope sc) false el
    | _ => false
def chkEs (C : Ck) : Es → Scope → Bool → List Expr → Bool
  | .nil, _, _, l => l.isEmpty
  | .cons x es, sc, top, l => match l with
    | e :: l => noStar e && chkE C x sc top e && chkEs C es sc top l
    | [] => false
def chkKs (C : Ck) : Es → Scope → Bool → List Str → List Keyword → Bool
  | .nil, _, _, ks, l => ks.isEmpty && l.isEmpty
  | .cons x es, sc, top, ks, l => match ks, l with
    | k :: ks, ⟨some k', e, _⟩ :: l => decide (k = k') && chkE C x sc top e && chkKs C es sc top ks l
    | _, _ => false
/-- a slice's part -/
def chkOp (C : Ck) : Es → Scope → Bool → Option Expr → Bool
  | .nil, _, _, o => o.isNone
  | .cons x es, sc, top, o => match o, es with
    | some e, .nil => chkE C x sc top e
    | _, _ => false
/-- a display's pairs -/
def chkP (C : Ck) : Es → Scope → Bool → List (Option Expr) → List Expr → Bool
  | .nil, _, _, ks, vs => ks.isEmpty && vs.isEmpty
  | .cons x (.cons y es), sc, top, ks, vs => match ks, vs with
    | some k :: ks, v :: vs => chkE C x sc top k && chkE C y sc top v && chkP C es sc top ks vs
    | _, _ => false
  | .cons _ .nil, _, _, _, _ => false
/-- a comprehension's tests -/
def chkC (C : Ck) : Es → Scope → List Expr → Bool
  | .nil, _, l => l.isEmpty
  | .cons x es, sc, l => match l, es with
    | [e], .nil => noIf e && chkE C x sc false e
    | _, _ => false
def chkSrc (C : Ck) : Src → Scope → Bool → Expr → Expr → Bool
  | .lst x, sc, top, _, e => chkE C x sc top e
  | .tup x, sc, top, _, e => chkE C x sc top e
  | .range es, sc, top, _, e => match e with
    | .Call (.Name x _) args [] _ => decide (x = ("range" : Str)) && hidB C sc x && chkEs C es sc top args && (decide (args.length = 1) || decide (args.length = 2))
    | _ => false
  | .enum x, sc, top, tg, e => match e with
    | .Call (.Name y _) [l] [] _ => isTupE tg && decide (y = ("enumerate" : Str)) && hidB C sc y && noStar l && chkE C x sc top l
    | _ => false
  | .zip a b, sc, top, tg, e => match e with
    | .Call (.Name y _) [l, m] [] _ => isTupE tg && decide (y = ("zip" : Str)) && hidB C sc y && noStar l && noStar m && chkE C a sc top l && chkE C b sc top m
    | _ => false
  | .items x, sc, top, tg, e => match e with
    | .Call (.Attribute o m ap) [] [] cp => isTupE tg && decide (m = ("items" : Str)) && noSup o && (ap.endLine == cp.line) && chkE C x sc top o
    | _ => false
  | .keys x, sc, top, _, e => chkE C x sc top e
  | .vals x, sc, top, _, e => match e with
    | .Call (.Attribute o m ap) [] [] cp => decide (m = ("values" : Str)) && noSup o && (ap.endLine == cp.line) && chkE C x sc top o
    | _ => false
end
/-- name = [..] on one line: the value goes by another road -/
def swB (sc : Scope) (x : Str) (p : Pos) (e : Expr) : Bool := match e with
  | .ListComp _ _ s q => lclB sc x && (p.line == q.line) && !(s.names.any fun (n, k) => n == x && (k == .local || k == .cell))
  | _ => false
/-- a, b = x, y by stores from the right -/
def parB (sc : Scope) (ts vs : List Expr) : Bool := match ts, vs with
  | [.Name x px, .Name y py], [a, b] => lclB sc x && lclB sc y && (py.line == px.line) && !decide (x = y) && noStar a && noStar b && !([a, b].all (foldedForSure 8)) && !([a, b].all (constantsAlone 8))
  | [.Name x px, .Name y py, .Name z pz], [a, b, c] => lclB sc x && lclB sc y && lclB sc z && (py.line == px.line) && (pz.line == px.line) && !decide (x = y) && !decide (x = z) && !decide (y = z) && noStar a && noStar b && noStar c && !([a, b, c].all (foldedForSure 8)) && !([a, b, c].all (constantsAlone 8))
  | _, _ => false
def parE (sc : Scope) (ts : List Expr) (e : Expr) : Bool := match e with
  | .Tuple vs _ _ => parB sc ts vs
  | _ => true
mutual
def chkS (C : Ck) (sc : Scope) : S → Stmt → Bool
  | .ex x, s => match s with
    | .Expr e _ => noComp e && chkE C x sc true e
    | _ => false
  | .asg i x, s => match s with
    | .Assign [.Name y _] e _ => tgB C allB sc i y && (noComp e || isLC e) && chkE C x sc true e
    | _ => false
  | .asgT is x, s => match s with
    | .Assign [.Tuple ts _ _] e _ => tgNames C allB sc is ts && chkE C x sc true e && noComp e && parE sc ts e
    | _ => false
  | .asgP ps x, s => match s with
    | .Assign [.Tuple ts _ _] e _ => tgPts C allB sc ps ts && chkE C x sc true e && noComp e && noTup e
    | _ => false
  | .aug i o x, s => match s with
    | .AugAssign (.Name y _) p e _ => tgB C allB sc i y && opB o p && chkE C x sc true e
    | _ => false
  | .setI i k x, s => match s with
    | .Assign [.Subscript (.Name y _) ke _] e _ => varB C sc i y && noSlice ke && noComp e && chkE C k sc true ke && chkE C x sc true e
    | _ => false
  | .setI2 i k j l x, s => match s with
    | .Assign [.Tuple [.Subscript (.Name y _) ke _, .Subscript (.Name z _) le _] _ _] e _ => varB C sc i y && varB C sc j z && noSlice ke && noSlice le && noComp e && chkE C k sc true ke && chkE C l sc true le && chkE C x sc true e
    | _ => false
  | .whl c b, s => match s with
    | .While t body [] _ => noIf t && chkE C c sc true t && chkSs C sc b body
    | _ => false
  | .stuck, _ => true
  | .ifs c a b, s => match s with
    | .If t l r _ => noIf t && chkE C c sc true t && chkSs C sc a l && chkSs C sc b r
    | _ => false
  | .for_ tg sr b, s => match s with
    | .For tgE it body [] _ => noSet it && chkSrc C sr sc true tgE it && chkTg C allB sc tg tgE && chkSs C sc b body
    | _ => false
  | .ret x, s => match s with
    | .Return (some e) _ => chkE C x sc true e
    | _ => false
  | .retN, s => match s with
    | .Return none _ => true
    | _ => false
  | .brk, s => match s with
    | .Break _ => true
    | _ => false
  | .cont, s => match s with
    | .Continue _ => true
    | _ => false
  | .pass, s => match s with
    | .Pass _ => true
    | .Expr (.Constant (.str _) _ _) _ => true
    | _ => false
def chkSs (C : Ck) (sc : Scope) : Ss → List Stmt → Bool
  | .nil, l => l.isEmpty
  | .cons x xs, l => match l with
    | s :: l => chkS C sc x s && chkSs C sc xs l
    | [] => false
end
end Vi

namespace Vi
open PySem PySem.Spec L2
/-! ### what the checker's tests say -/
theorem nameOk_of {x : Str} (h : nameOk x = true) : (x == ("__debug__" : Str)) = false ∧ (x == ("__classdict__" : Str)) = false := by
  obtain ⟨a, b⟩ := Bool.and_eq_true_iff.mp h
  exact ⟨by simpa using a, by simpa using b⟩
theorem vis_of {sc : Scope} {x : Str} (h : visB sc x = true) : Vis sc x := by
  unfold visB at h
  split at h
  · exact .inl (by assumption)
  · exact .inr (.inl (by assumption))
  · exact .inr (.inr (by assumption))
  · cases h
theorem lcl_of {sc : Scope} {x : Str} (h : lclB sc x = true) : sc.names.lookup x = some .local := by
  unfold lclB at h
  split at h
  · assumption
  · cases h
theorem gl_of {sc : Scope} {x : Str} (h : glB sc x = true) : sc.names.lookup x = some .globalImplicit := by
  unfold glB at h
  split at h
  · assumption
  · cases h
theorem loc_of {tp : Str → Bool} {sc : Scope} {x : Str} (h : locB tp sc x = true) : Loc sc x ∧ (sc.names.lookup x = some .local ∨ tp x = true) := by
  unfold locB at h
  split at h
  · exact ⟨.inl (by assumption), .inl (by assumption)⟩
  · exact ⟨.inr (by assumption), .inr h⟩
  · cases h
theorem op_of {o : Op} {p : Operator} (h : opB o p = true) : p = o.op := by
  cases o <;> cases p <;> first
    | rfl
    | cases h
theorem cm_of {o : Cm} {p : CmpOp} (h : cmB o p = true) : p = o.op := by
  cases o <;> cases p <;> first
    | rfl
    | cases h
theorem noSet_of {e : Expr} (h : noSet e = true) (p : CmpOp) : behindInMarks p e = false := by
  cases e <;> first
    | rfl
    | cases h
theorem fold_of {e : Expr} (h : noSet e = true) (env : Env) (x : Value) : foldedSetIterable e env x = pure x := by
  cases e <;> first
    | rfl
    | cases h
theorem ix_of {e : Expr} (h : noSlice e = true) : PlainIx e := by
  intro o i
  cases e <;> first
    | rfl
    | cases h
theorem star_of {e : Expr} {es : List Expr} {env : Env} (h : noStar e = true) : starEach (e :: es) env = (false, eval e env) :: starEach es env := by
  cases e <;> first
    | rfl
    | cases h
theorem swap_of {e : Expr} {t : Option Expr} {l : Nat} {env : Env} (h : noComp e = true) : swapsWith e t l env = pure false := by
  cases e <;> first
    | rfl
    | cases h
def stars : List Expr → Bool
  | [] => true
  | e :: l => noStar e && stars l
theorem back_of {pos : Pos} {env : Env} : ∀ {l : List Expr}, stars l = true → (backTo pos (starEach l env)).any (·.1) = false
  | [], _ => rfl
  | e :: l, h => by
    obtain ⟨a, b⟩ := Bool.and_eq_true_iff.mp h
    rw [star_of a]
    show (false || _) = false
    rw [Bool.false_or]
    exact back_of b
def kwNames : List Keyword → List Str
  | [] => []
  | ⟨some k, _, _⟩ :: l => k :: kwNames l
  | ⟨none, _, _⟩ :: l => kwNames l
def kwAll : List Keyword → Bool
  | [] => true
  | ⟨some _, _, _⟩ :: l => kwAll l
  | ⟨none, _, _⟩ :: _ => false
theorem kw_of {pos : Pos} {env : Env} : ∀ {l : List Keyword}, kwAll l = true → (backToKw pos (keywordEach l env)).all (·.1.isSome) = true ∧ (backToKw pos (keywordEach l env)).filterMap (·.1) = kwNames l ∧ (backToKw pos (keywordEach l env)).any (·.1.isNone) = false
  | [], _ => ⟨rfl, rfl, rfl⟩
  | ⟨some k, e, p⟩ :: l, h => by
    obtain ⟨a, b, c⟩ := kw_of (pos := pos) (env := env) (l := l) h
    refine ⟨?_, ?_, ?_⟩
    · show (true && (backToKw pos (keywordEach l env)).all (·.1.isSome)) = true
      rw [a]; rfl
    · show k :: (backToKw pos (keywordEach l env)).filterMap (·.1) = _
      rw [b]; rfl
    · show (false || (backToKw pos (keywordEach l env)).any (·.1.isNone)) = false
      rw [c]; rfl
  | ⟨none, e, p⟩ :: l, h => by cases h
theorem asgEach_of {env : Env} : ∀ {es : List Expr}, stars es = true → (assignEach es env).length = es.length ∧ (assignEach es env).findIdx? (·.1) = none
  | [], _ => ⟨rfl, rfl⟩
  | e :: l, h => by
    obtain ⟨a, b⟩ := Bool.and_eq_true_iff.mp h
    obtain ⟨q1, q2⟩ := asgEach_of (env := env) (es := l) b
    have he : assignEach (e :: l) env = (false, assign e env) :: assignEach l env := by
      cases e <;> first
        | rfl
        | cases a
    rw [he]
    refine ⟨by simp [q1], ?_⟩
    rw [List.findIdx?_cons]
    simp [q2]
/-! ### the contexts -/
structure GX (C : Ck) (xr : XR) (gc : Gc) (X : Cx) (W : WX) (sc : Scope) (top : Bool) : Prop where
  N : X.N = C.N
  nd : C.N.Nodup
  calm : X.calm = true
  scq : X.env.scope = sc
  knd : sc.kind = .function
  un : X.A.units + 200 < cLine
  shy : Shy X.A
  tk : Takes X W
  fn : top = true → ∀ x, X.fn x = true
  hid : ∀ x ∈ C.hid, X.mg x = none
  gl : ∀ x c, (x, c) ∈ C.gl → ∃ u, X.mg x = some u ∧ RelV c.v u
  fs : ∀ f fi, C.fs[f]? = some fi → ∃ np fa fd ps k, FnG X.prog X.w X.K X.mg X.base (L2.CX X.prog X.w) k fa fd ps (spOf X.K xr np (gc f)) ∧ Room k X.A ∧ ps.length = np ∧ X.mg fi.name = some (.ref fa) ∧ PySem.W.keepIn X.K (.ref fa) = true ∧
    ∀ sh ∈ fi.shapes, BindSh X.K fd ps sh.1 sh.2.1 sh.2.2
theorem takesF {X : Cx} : Takes X WF := fun u s' ⟨a, B, sI, pins, σ, H, cls, d, _, _, _, _, _, _, _, _, w⟩ => w.elim
theorem GX.blk {C : Ck} {xr : XR} {gc : Gc} {X : Cx} {W : WX} {sc scope : Scope} {top : Bool} (G : GX C xr gc X W sc top) (hk : scope.kind = .function) (s : Shared) (H : Hp) (A : Addr) (cl : List (Str × Addr)) (fp : List Addr) :
    GX C xr gc (X.blk s H scope (compEnvC scope cl A X.env) fp) WF (relS scope sc) false where
  N := G.N
  nd := G.nd
  calm := G.calm
  scq := by
    show relS scope X.env.scope = _
    rw [G.scq]
  knd := hk
  un := G.un
  shy := G.shy
  tk := takesF
  fn := fun h => nomatch h
  hid := G.hid
  gl := G.gl
  fs := G.fs
structure EOk (X : Cx) (xr : XR) (W : WX) (e : Expr) (m : List Sl → List C → Res Rv) : Prop where
  ev : PE X e (tM X.K xr W m)
  t : noIf e = true → PT X e (tTM X.K xr W fun r cs => boolOf (m r cs))
  w : ∀ op l pos, e = .BoolOp op l pos → PW X e (tTM X.K xr W fun r cs => boolOf (m r cs))
section
variable {C : Ck} {xr : XR} {gc : Gc} {X : Cx} {W : WX} {sc : Scope} {top : Bool} {e : Expr} {m : List Sl → List Vi.C → Res Rv}
theorem EOk.val (h : PE X e (tM X.K xr W m)) (he : ∀ whole, isTrue e X.env whole = (do let v ← whole; standAt e.pos; holding [v] (truthy v))) (hb : ∀ op l pos, e ≠ .BoolOp op l pos) : EOk X xr W e m :=
  ⟨h, fun _ => pt_weak (pt_val h he) (tB_of m), fun op l pos q => absurd q (hb op l pos)⟩
theorem GX.var (G : GX C xr gc X W sc top) {i : Nat} {x : Str} (h : varB C sc i x = true) : X.N[i]? = some x ∧ Vis X.env.scope x ∧ (x == ("__debug__" : Str)) = false ∧ (x == ("__classdict__" : Str)) = false := by
  obtain ⟨a, b⟩ := Bool.and_eq_true_iff.mp h
  obtain ⟨c, d⟩ := Bool.and_eq_true_iff.mp a
  rw [G.N, G.scq]
  exact ⟨of_decide_eq_true c, vis_of d, nameOk_of b⟩
theorem GX.tgt (G : GX C xr gc X W sc top) {tp : Str → Bool} (hf : ∀ x, tp x = true → X.fn x = true) {i : Nat} {x : Str} (h : tgB C tp sc i x = true) : X.N.Nodup ∧ X.N[i]? = some x ∧ Loc X.env.scope x ∧ (X.fn x = true ∨ X.env.scope.names.lookup x = some .local) := by
  obtain ⟨a, b⟩ := Bool.and_eq_true_iff.mp h
  obtain ⟨c, d⟩ := loc_of b
  rw [G.N, G.scq]
  refine ⟨G.nd, of_decide_eq_true a, c, ?_⟩
  rcases d with d | d
  · exact .inr d
  · exact .inl (hf x d)
theorem GX.glb (G : GX C xr gc X W sc top) {x : Str} (h : glB sc x = true) : Gl X x := by
  show X.env.scope.names.lookup x = _
  rw [G.scq]
  exact gl_of h
theorem GX.hidn (G : GX C xr gc X W sc top) {x : Str} (h : hidB C sc x = true) : Gl X x ∧ X.mg x = none := by
  obtain ⟨a, b⟩ := Bool.and_eq_true_iff.mp h
  exact ⟨G.glb a, G.hid x (List.contains_iff_mem.mp b)⟩
theorem tgNames_stars {tp : Str → Bool} : ∀ {is : List Nat} {es : List Expr}, tgNames C tp sc is es = true → stars es = true ∧ es.length = is.length
  | [], [], _ => ⟨rfl, rfl⟩
  | [], _ :: _, h => by cases h
  | i :: is, [], h => by cases h
  | i :: is, e :: es, h => by
    cases e <;> first
      | (cases h; done)
      | skip
    obtain ⟨a, b⟩ := Bool.and_eq_true_iff.mp h
    obtain ⟨c, d⟩ := tgNames_stars b
    exact ⟨by simp [stars, noStar, c], by simp [d]⟩
theorem tgNames_ok (G : GX C xr gc X W sc top) {tp : Str → Bool} (hf : ∀ x, tp x = true → X.fn x = true) : ∀ {is : List Nat} {es : List Expr}, tgNames C tp sc is es = true → PGs X es (gNames is)
  | [], [], _ => pgs_nil
  | [], _ :: _, h => by cases h
  | i :: is, [], h => by cases h
  | i :: is, e :: es, h => by
    cases e <;> first
      | (cases h; done)
      | skip
    rename_i x p
    obtain ⟨a, b⟩ := Bool.and_eq_true_iff.mp h
    obtain ⟨h1, h2, h3, h4⟩ := G.tgt hf a
    exact pgs_cons (pg_name h1 h2 h3 h4) (tgNames_ok G hf b) rfl
theorem tgPts_stars {tp : Str → Bool} : ∀ {ps : List Pt} {es : List Expr}, tgPts C tp sc ps es = true → stars es = true ∧ es.length = ps.length
  | [], [], _ => ⟨rfl, rfl⟩
  | [], _ :: _, h => by cases h
  | .n _ :: _, [], h => by cases h
  | .t _ :: _, [], h => by cases h
  | .n i :: ps, e :: es, h => by
    cases e <;> first
      | (cases h; done)
      | skip
    obtain ⟨a, b⟩ := Bool.and_eq_true_iff.mp h
    obtain ⟨c, d⟩ := tgPts_stars b
    exact ⟨by simp [stars, noStar, c], by simp [d]⟩
  | .t is :: ps, e :: es, h => by
    cases e <;> first
      | (cases h; done)
      | skip
    obtain ⟨a, b⟩ := Bool.and_eq_true_iff.mp h
    obtain ⟨c, d⟩ := tgPts_stars b
    exact ⟨by simp [stars, noStar, c], by simp [d]⟩
theorem tgPts_ok (G : GX C xr gc X W sc top) {tp : Str → Bool} (hf : ∀ x, tp x = true → X.fn x = true) : ∀ {ps : List Pt} {es : List Expr}, tgPts C tp sc ps es = true → PGs X es (gPts X.K ps)
  | [], [], _ => pgs_nil
  | [], _ :: _, h => by cases h
  | .n _ :: _, [], h => by cases h
  | .t _ :: _, [], h => by cases h
  | .n i :: ps, e :: es, h => by
    cases e <;> first
      | (cases h; done)
      | skip
    rename_i x p
    obtain ⟨a, b⟩ := Bool.and_eq_true_iff.mp h
    obtain ⟨h1, h2, h3, h4⟩ := G.tgt hf a
    exact pgs_cons (pg_name h1 h2 h3 h4) (tgPts_ok G hf b) rfl
  | .t is :: ps, e :: es, h => by
    cases e <;> first
      | (cases h; done)
      | skip
    rename_i ts k p
    obtain ⟨a, b⟩ := Bool.and_eq_true_iff.mp h
    obtain ⟨a1, a2⟩ := tgNames_stars a
    obtain ⟨c, d⟩ := asgEach_of (env := X.env) a1
    exact pgs_cons (pg_tup (n := is.length) G.calm (tgNames_ok G hf a) (by rw [c, a2]) d) (tgPts_ok G hf b) rfl
theorem chkTg_ok (G : GX C xr gc X W sc top) {tp : Str → Bool} (hf : ∀ x, tp x = true → X.fn x = true) {tg : Tg} (h : chkTg C tp sc tg e = true) : PG X e (gOf X.K tg) := by
  cases tg with
  | name i =>
    cases e <;> first
      | (cases h; done)
      | skip
    obtain ⟨h1, h2, h3, h4⟩ := G.tgt hf h
    exact pg_name h1 h2 h3 h4
  | tup is =>
    cases e <;> first
      | (cases h; done)
      | skip
    rename_i es k p
    have h : tgNames C tp sc is es = true := h
    obtain ⟨a, b⟩ := tgNames_stars h
    obtain ⟨c, d⟩ := asgEach_of (env := X.env) a
    exact pg_tup (n := is.length) G.calm (tgNames_ok G hf h) (by rw [c, b]) d
  | pat ps =>
    cases e <;> first
      | (cases h; done)
      | skip
    rename_i es k p
    have h : tgPts C tp sc ps es = true := h
    obtain ⟨a, b⟩ := tgPts_stars h
    obtain ⟨c, d⟩ := asgEach_of (env := X.env) a
    exact pg_tup (n := ps.length) G.calm (tgPts_ok G hf h) (by rw [c, b]) d
end
theorem Res.bind_assoc {α β γ : Type} (m : Res α) (f : α → List Sl → List C → Res β) (k : β → List Sl → List C → Res γ) : (m.bind f).bind k = m.bind fun a r cs => (f a r cs).bind k := by cases m <;> rfl
theorem ownB_vars {C : Ck} {vs : List Nat} : (ownB C vs).map (·.2) = vs := by
  unfold ownB
  rw [List.map_map]
  show vs.map (fun i => i) = vs
  simp
end Vi

namespace Vi
open PySem PySem.Spec L2
section
variable {C : Ck} {xr : XR} {gc : Gc}
theorem opdOk {X : Cx} {W : WX} {sc : Scope} {top : Bool} (G : GX C xr gc X W sc top) {ex : E} {e : Expr} (h : chkE C ex sc top e = true) (k : EOk X xr W e (evE gc ex)) : PE X e (tOm X.K xr W fun r cs => opd ex r cs (evE gc ex r cs)) := by
  cases ex with
  | var i =>
    cases e <;> first
      | (cases h; done)
      | skip
    obtain ⟨h1, h2, h3, h4⟩ := G.var h
    exact pe_opv h1 h2 h3 h4
  | _ => exact pe_opd (fun i z => nomatch z) k.ev
theorem evAs_var {b : Bool} {i : Nat} {es : Es} : evAs gc b (.cons (.var i) es) = fun r cs => (argVar i r cs).bind fun a r cs => (evAs gc b es r cs).bind fun as r cs => .ok (a :: as) r cs := by
  cases b <;> rfl
theorem evAs_last {e : E} (h : ∀ i, e ≠ .var i) : evAs gc true (.cons e .nil) = fun r cs => (evE gc e r cs).bind fun v r cs => .ok [.val v] r cs := by
  cases e <;> first
    | rfl
    | exact absurd rfl (h _)
theorem evAs_more {b : Bool} {e : E} {es : Es} (h : ∀ i, e ≠ .var i) (hb : b = false ∨ es ≠ .nil) : evAs gc b (.cons e es) = fun r cs => ((evE gc e r cs).d.bind fun d r cs => .ok (.val (.val d)) r cs).bind fun a r cs => (evAs gc b es r cs).bind fun as r cs => .ok (a :: as) r cs := by
  have q : ∀ m : Res Vi.D, ∀ k : Am → List Sl → List Vi.C → Res (List Am), (m.bind fun d r cs => .ok (.val (.val d)) r cs).bind k = m.bind fun d r cs => k (.val (.val d)) r cs := fun m k => by cases m <;> rfl
  funext r cs
  rw [q]
  cases b with
  | false =>
    cases e <;> first
      | rfl
      | (cases es <;> rfl)
      | exact absurd rfl (h _)
  | true =>
    cases es with
    | nil =>
      rcases hb with z | z
      · cases z
      · exact absurd rfl z
    | cons e2 es2 =>
      cases e <;> first
        | rfl
        | exact absurd rfl (h _)
theorem chkEs_stars {sc : Scope} {top : Bool} : ∀ {es : Es} {l : List Expr}, chkEs C es sc top l = true → stars l = true
  | .nil, l, h => by
    cases l with
    | nil => rfl
    | cons _ _ => cases h
  | .cons x es, l, h => by
    cases l with
    | nil => cases h
    | cons e l =>
      obtain ⟨a, b⟩ := Bool.and_eq_true_iff.mp (show (noStar e && chkE C x sc top e && chkEs C es sc top l) = true from h)
      obtain ⟨c, d⟩ := Bool.and_eq_true_iff.mp a
      show (noStar e && stars l) = true
      rw [c, chkEs_stars b]
      rfl
theorem evDs_len {X : Nat} : ∀ {es : Es} {l : List Expr} {sc : Scope} {top : Bool}, chkEs C es sc top l = true → ∀ r cs ds r' cs', evDs gc es r cs = .ok ds r' cs' → ds.length = l.length
  | .nil, l, sc, top, h, r, cs, ds, r', cs', q => by
    cases l with
    | nil =>
      cases (show Res.ok [] r cs = Res.ok ds r' cs' from q)
      rfl
    | cons _ _ => cases h
  | .cons x es, l, sc, top, h, r, cs, ds, r', cs', q => by
    cases l with
    | nil => cases h
    | cons e l =>
      obtain ⟨a, b⟩ := Bool.and_eq_true_iff.mp (show (noStar e && chkE C x sc top e && chkEs C es sc top l) = true from h)
      have q : ((evE gc x r cs).d.bind fun d r cs => (evDs gc es r cs).bind fun ds r cs => .ok (d :: ds) r cs) = Res.ok ds r' cs' := q
      cases z : (evE gc x r cs).d with
      | no => rw [z] at q; cases q
      | ex _ _ _ => rw [z] at q; cases q
      | ok d r1 cs1 =>
        rw [z] at q
        have q : ((evDs gc es r1 cs1).bind fun ds r cs => .ok (d :: ds) r cs) = Res.ok ds r' cs' := q
        cases z2 : evDs gc es r1 cs1 with
        | no => rw [z2] at q; cases q
        | ex _ _ _ => rw [z2] at q; cases q
        | ok ds2 r2 cs2 =>
          rw [z2] at q
          cases (show Res.ok (d :: ds2) r2 cs2 = Res.ok ds r' cs' from q)
          simp [evDs_len (X := X) b r1 cs1 ds2 _ _ z2]
def osOf : Es → List (List Sl → List Vi.C → Res Od)
  | .nil => []
  | .cons x es => (fun r cs => opd x r cs (evE gc x r cs)) :: osOf es
theorem evLo_eq : ∀ {es : Es}, evOs gc es = evLo (osOf (gc := gc) es)
  | .nil => rfl
  | .cons x es => by
    funext r cs
    show ((opd x r cs (evE gc x r cs)).bind fun d r cs => (evOs gc es r cs).bind fun ds r cs => .ok (d :: ds) r cs) = ((opd x r cs (evE gc x r cs)).bind fun d r cs => (evLo (osOf es) r cs).bind fun ds r cs => .ok (d :: ds) r cs)
    rw [evLo_eq (es := es)]
theorem evL1_eq {k : Ok} : ∀ {es : Es}, evOp gc k es = evL1 k (osOf (gc := gc) es)
  | .nil => by funext r cs; cases k <;> rfl
  | .cons x es => by
    funext r cs
    show ((opd x r cs (evE gc x r cs)).bind fun d r cs => (liftO ((rd r d).bind (preD k)) r cs).bind fun _ r cs => (evOs gc es r cs).bind fun ds r cs => .ok (d :: ds) r cs) = ((opd x r cs (evE gc x r cs)).bind fun d r cs => (liftO ((rd r d).bind (preD k)) r cs).bind fun _ r cs => (evLo (osOf es) r cs).bind fun ds r cs => .ok (d :: ds) r cs)
    rw [evLo_eq (es := es)]
theorem mOp_eq {k : Ok} {es : Es} : evE gc (.op k es) = mOp k (osOf (gc := gc) es) := by
  funext r cs
  show ((evOp gc k es r cs).bind fun os r cs => (liftO (rds r os) r cs).bind fun ds r cs => liftO (opD k ds) r cs) = ((evL1 k (osOf es) r cs).bind fun os r cs => (liftO (rds r os) r cs).bind fun ds r cs => liftO (opD k ds) r cs)
  rw [evL1_eq]
theorem noStarE_of {a : Expr} (h : noStar a = true) : noStarE a = true := by
  cases a <;> first
    | rfl
    | cases h
theorem stars_mem : ∀ {l : List Expr}, stars l = true → ∀ a ∈ l, noStarE a = true
  | e :: l, h, a, ha => by
    obtain ⟨p, q⟩ := Bool.and_eq_true_iff.mp (show (noStar e && stars l) = true from h)
    rcases List.mem_cons.mp ha with rfl | ha
    · exact noStarE_of p
    · exact stars_mem q a ha
theorem pe_no {X : Cx} {W : WX} {e : Expr} {m : List Sl → List Vi.C → Res Rv} (h : ∀ r cs, m r cs = .no) : PE X e (tM X.K xr W m) := ⟨fun pins s σ H Q I ⟨g, w, r, cs, _, z⟩ => by rw [h] at z; exact z.elim⟩
theorem pt_no {X : Cx} {W : WX} {e : Expr} {m : List Sl → List Vi.C → Res Bool} (h : ∀ r cs, m r cs = .no) : PT X e (tTM X.K xr W m) := ⟨fun pins s σ H Q I ⟨g, w, r, cs, _, z⟩ => by rw [h] at z; exact z.elim⟩
theorem pw_no {X : Cx} {W : WX} {e : Expr} {m : List Sl → List Vi.C → Res Bool} (h : ∀ r cs, m r cs = .no) : PW X e (tTM X.K xr W m) := ⟨fun whole pins s σ H Q I ⟨g, w, r, cs, _, z⟩ => by rw [h] at z; exact z.elim⟩
theorem ps_no {X : Cx} {W : WX} {e : Stmt} {m : List Sl → List Vi.C → Res Fl} (h : ∀ r cs, m r cs = .no) : PS X e (tS X.K xr W m) := ⟨fun pins s σ H Q I ⟨g, w, r, cs, _, _, z⟩ => by rw [h] at z; exact z.elim⟩
theorem nosup_of {e : Expr} {env : Env} {m : Str} (h : noSup e = true) : attributeBase e m env (eval e env) = eval e env := nosup h
def msOf : Es → List (List Sl → List Vi.C → Res Rv)
  | .nil => []
  | .cons x es => evE gc x :: msOf es
theorem evL_eq : ∀ {es : Es}, evDs gc es = evL (msOf (gc := gc) es)
  | .nil => rfl
  | .cons x es => by
    funext r cs
    show ((evE gc x r cs).d.bind fun d r cs => (evDs gc es r cs).bind fun ds r cs => .ok (d :: ds) r cs) = ((evE gc x r cs).d.bind fun d r cs => (evL (msOf es) r cs).bind fun ds r cs => .ok (d :: ds) r cs)
    rw [evL_eq (es := es)]
def trsOf (K : PySem.W.Frag) (xr : XR) (W : WX) : List (List Sl → List Vi.C → Res Rv) → List (TE × TE)
  | m :: m2 :: ms => (tDm K xr W fun r cs => (m r cs).d, tDm K xr W fun r cs => (m2 r cs).d) :: trsOf K xr W ms
  | _ => []
theorem trsOf_ok {K : PySem.W.Frag} {W : WX} : ∀ {ms : List (List Sl → List Vi.C → Res Rv)} {n : Nat}, ms.length = 2 * n → (∀ i m, ms[i]? = some m → ∃ p, (trsOf K xr W ms)[i / 2]? = some p ∧ (if i % 2 = 0 then p.1 else p.2) = tDm K xr W fun r cs => (m r cs).d) ∧ (trsOf K xr W ms).length = n
  | [], n, h => ⟨fun i m e => by simp at e, by simp at h; show 0 = n; omega⟩
  | [m], n, h => by simp at h; omega
  | m :: m2 :: ms, n, h => by
    obtain ⟨a, b⟩ := trsOf_ok (K := K) (W := W) (ms := ms) (n := n - 1) (by simp at h; omega)
    refine ⟨fun i q e => ?_, ?_⟩
    · match i, e with
      | 0, e => cases e; exact ⟨_, rfl, rfl⟩
      | 1, e => cases e; exact ⟨_, rfl, rfl⟩
      | i + 2, e =>
        obtain ⟨p, e1, e2⟩ := a i q (by simpa using e)
        refine ⟨p, ?_, by rw [show (i + 2) % 2 = i % 2 by omega]; exact e2⟩
        have : (i + 2) / 2 = i / 2 + 1 := by omega
        rw [this]
        exact e1
    · show (trsOf K xr W ms).length + 1 = n
      simp at h
      omega
end
end Vi

namespace Vi
open PySem PySem.Spec L2
variable {C : Ck} {xr : XR} {gc : Gc}
theorem pe_glo {X : Cx} {W : WX} {sc : Scope} {top : Bool} (G : GX C xr gc X W sc top) {x : Str} {c : Cst} {p : Pos} (h1 : glB sc x = true) (h2 : nameOk x = true) (h3 : (x, c) ∈ C.gl) : PE X (.Name x p) (tM X.K xr W fun r cs => .ok (.val c.d) r cs) := by
  obtain ⟨u, e1, e2⟩ := G.gl x c h3
  exact pe_con (pe_glob (G.glb h1) e1 e2 (nameOk_of h2).1) fun w => Cst.rep c
/-- a call of the program's own -/
theorem call_ok {X : Cx} {W : WX} {sc : Scope} {top : Bool} (G : GX C xr gc X W sc top) {f : Nat} {x : Str} {ks : List Str} {ord : List A0} {args : List Expr} {kws : List Keyword} {p pos : Pos} {ms ms2 : List Sl → List Vi.C → Res (List Am)}
    (h1 : glB sc x = true) (h2 : nameOk x = true) (h3 : shB C f x args.length ks ord = true) (hst : stars args = true) (ha : PA X args (tAn X.K xr W args.length ks.isEmpty ms)) (hk : kwAll kws = true) (hkn : kwNames kws = ks) (hkw : PK X kws (tAn X.K xr W ks.length false ms2))
    (hnil : ks = [] → kws = [] ∧ ms2 = fun r cs => .ok [] r cs) :
    PE X (.Call (.Name x p) args kws pos) (tM X.K xr W fun r cs => (ms r cs).bind fun as r cs => (ms2 r cs).bind fun bs r cs => (liftO (ordA (as ++ bs) ord) r cs).bind fun as r cs => doCall gc f as r cs) := by
  unfold shB at h3
  split at h3
  · rename_i fi hf
    obtain ⟨q1, q2⟩ := Bool.and_eq_true_iff.mp h3
    have q1 : fi.name = x := of_decide_eq_true q1
    have q2 : (args.length, ks, ord) ∈ fi.shapes := of_decide_eq_true q2
    subst q1
    obtain ⟨np, fa, fd, ps, k, F, hr, hnp, hm, hkp, hsh⟩ := G.fs f fi hf
    have B := hsh _ q2
    cases ks with
    | nil =>
      obtain ⟨rfl, rfl⟩ := hnil rfl
      refine pe_callP G.tk F G.shy hr B hnp (G.glb h1) hm hkp (nameOk_of h2).1 ha ?_
      cases args with
      | nil => exact .inl rfl
      | cons a as =>
        obtain ⟨s1, s2⟩ := Bool.and_eq_true_iff.mp (show (noStar a && stars as) = true from hst)
        exact .inr ⟨a, as, rfl, star_of s1, back_of s2⟩
    | cons k0 ks =>
      obtain ⟨a1, a2, a3⟩ := kw_of (pos := pos) (env := X.env) hk
      refine pe_callKM G.tk F G.shy hr B hnp rfl (G.glb h1) hm hkp (nameOk_of h2).1 ha hkw ?_ a1 (by rw [a2, hkn]) (by rw [a3, back_of hst]; rfl)
      cases args with
      | nil => exact .inl rfl
      | cons a as =>
        obtain ⟨s1, s2⟩ := Bool.and_eq_true_iff.mp (show (noStar a && stars as) = true from hst)
        exact .inr ⟨a, as, rfl, star_of s1⟩
  · cases h3
theorem chkKs_names {sc : Scope} {top : Bool} : ∀ {es : Es} {ks : List Str} {l : List Keyword}, chkKs C es sc top ks l = true → kwAll l = true ∧ kwNames l = ks
  | .nil, ks, l, h => by
    cases ks with
    | cons _ _ => cases h
    | nil =>
      cases l with
      | nil => exact ⟨rfl, rfl⟩
      | cons _ _ => cases h
  | .cons x es, ks, l, h => by
    cases ks with
    | nil => cases h
    | cons k ks =>
      cases l with
      | nil => cases h
      | cons q l =>
        obtain ⟨nm, e, p⟩ := q
        cases nm with
        | none => cases h
        | some k' =>
          obtain ⟨a, b⟩ := Bool.and_eq_true_iff.mp (show (decide (k = k') && chkE C x sc top e && chkKs C es sc top ks l) = true from h)
          obtain ⟨c, d⟩ := Bool.and_eq_true_iff.mp a
          have c : k = k' := of_decide_eq_true c
          subst c
          obtain ⟨q1, q2⟩ := chkKs_names b
          exact ⟨q1, by show k :: kwNames l = _; rw [q2]⟩
mutual
theorem chkE_ok : ∀ (ex : E) {X : Cx} {W : WX} {sc : Scope} {top : Bool} {e : Expr}, GX C xr gc X W sc top → chkE C ex sc top e = true → EOk X xr W e (evE gc ex)
  | .var i, X, W, sc, top, e, G, h => by
    cases e <;> first
      | (cases h; done)
      | skip
    obtain ⟨h1, h2, h3, h4⟩ := G.var h
    exact .val (pe_read h1 h2 h3 h4) (fun _ => rfl) fun _ _ _ z => nomatch z
  | .non, X, W, sc, top, e, G, h => by
    cases e <;> first
      | (cases h; done)
      | skip
    rename_i v _ _
    cases v <;> first
      | (cases h; done)
      | skip
    exact .val (pe_con pe_non fun _ => rfl) (fun _ => rfl) fun _ _ _ z => nomatch z
  | .bl b, X, W, sc, top, e, G, h => by
    cases e <;> first
      | (cases h; done)
      | skip
    rename_i v _ _
    cases v <;> first
      | (cases h; done)
      | skip
    rename_i c
    obtain rfl : b = c := eq_of_beq h
    exact .val (pe_con pe_bl fun _ => rfl) (fun _ => rfl) fun _ _ _ z => nomatch z
  | .int i, X, W, sc, top, e, G, h => by
    cases e <;> first
      | (cases h; done)
      | skip
    rename_i v _ _
    cases v <;> first
      | (cases h; done)
      | skip
    rename_i c
    obtain rfl : i = c := of_decide_eq_true h
    exact .val (pe_con pe_int fun _ => rfl) (fun _ => rfl) fun _ _ _ z => nomatch z
  | .str s, X, W, sc, top, e, G, h => by
    cases e <;> first
      | (cases h; done)
      | skip
    rename_i v _ _
    cases v <;> first
      | (cases h; done)
      | skip
    rename_i c
    obtain rfl : s = c := of_decide_eq_true h
    exact .val (pe_con pe_str fun _ => rfl) (fun _ => rfl) fun _ _ _ z => nomatch z
  | .glo x c, X, W, sc, top, e, G, h => by
    cases e <;> first
      | (cases h; done)
      | skip
    rename_i y _
    have h : (decide (x = y) && glB sc x && nameOk x && decide ((x, c) ∈ C.gl)) = true := h
    simp only [Bool.and_eq_true, decide_eq_true_eq] at h
    obtain ⟨⟨⟨rfl, h1⟩, h2⟩, h3⟩ := h
    exact .val (pe_glo G h1 h2 h3) (fun _ => rfl) fun _ _ _ z => nomatch z
  | .bin o a b, X, W, sc, top, e, G, h => by
    cases e <;> first
      | (cases h; done)
      | skip
    rename_i l p r _
    have h : (opB o p && chkE C a sc top l && chkE C b sc top r) = true := h
    simp only [Bool.and_eq_true] at h
    obtain ⟨⟨h1, h2⟩, h3⟩ := h
    obtain rfl := op_of h1
    exact .val (pe_bin (op_allD o) (opdOk G h2 (chkE_ok a G h2)) (opdOk G h3 (chkE_ok b G h3))) (fun _ => rfl) fun _ _ _ z => nomatch z
  | .neg a, X, W, sc, top, e, G, h => by
    cases e <;> first
      | (cases h; done)
      | skip
    rename_i p l _
    cases p <;> first
      | (cases h; done)
      | skip
    have h : chkE C a sc top l = true := h
    exact .val (pe_negM (chkE_ok a G h).ev) (fun _ => rfl) fun _ _ _ z => nomatch z
  | .cmp c a b, X, W, sc, top, e, G, h => by
    simp only [chkE] at h
    split at h
    · rename_i l p r pos
      simp only [Bool.and_eq_true] at h
      obtain ⟨⟨⟨h1, h2⟩, h3⟩, h4⟩ := h
      obtain rfl := cm_of h1
      have oa := opdOk G h3 (chkE_ok a G h3)
      have ob := opdOk G h4 (chkE_ok b G h4)
      have hu : X.A.units + 65 < cLine := by have := G.un; omega
      exact ⟨pe_cmpM (op_cmpD hu c) oa ob (noSet_of h2 _), fun _ => pt_cmpM (op_cmpD hu c) oa ob (noSet_of h2 _), fun _ _ _ z => nomatch z⟩
    · cases h
  | .cmp2 c c2 a b d, X, W, sc, top, e, G, h => by
    simp only [chkE] at h
    split at h
    · rename_i l p p2 m r pos
      simp only [Bool.and_eq_true] at h
      obtain ⟨⟨⟨⟨⟨⟨h1, h2⟩, h3⟩, h4⟩, h5⟩, h6⟩, h7⟩ := h
      obtain rfl := cm_of h1
      obtain rfl := cm_of h2
      have oa := (chkE_ok a G h5).ev
      have ob := (chkE_ok b G h6).ev
      have od := (chkE_ok d G h7).ev
      have hu : X.A.units + 65 < cLine := by have := G.un; omega
      have hm : lastMarks [c.op, c2.op] [m, r] = false := noSet_of h4 _
      exact ⟨pe_cmp2M (op_cmpD hu c) (op_cmpD hu c2) oa ob od hm, fun _ => pt_cmp2M (op_cmpD hu c) (op_cmpD hu c2) oa ob od hm, fun _ _ _ z => nomatch z⟩
    · cases h
  | .and a b, X, W, sc, top, e, G, h => by
    simp only [chkE] at h
    split at h
    · rename_i l r pos
      simp only [Bool.and_eq_true] at h
      obtain ⟨⟨⟨h1, h2⟩, h3⟩, h4⟩ := h
      have ka := chkE_ok a G h3
      have kb := chkE_ok b G h4
      have pw := pt_andM (ka.t h1) (pw_and1 (pos := pos) (kb.t h2))
      exact ⟨pe_andM ka.ev (pe_one kb.ev), fun _ => pw.pt, fun _ _ _ _ => pw⟩
    · rename_i l r q t pos
      simp only [Bool.and_eq_true] at h
      obtain ⟨⟨h1, h3⟩, h4⟩ := h
      have ka := chkE_ok a G h3
      have kb := chkE_ok b G h4
      have pw := pt_andM (ka.t h1) (kb.w _ _ _ rfl)
      exact ⟨pe_andM ka.ev kb.ev, fun _ => pw.pt, fun _ _ _ _ => pw⟩
    · cases h
  | .or a b, X, W, sc, top, e, G, h => by
    simp only [chkE] at h
    split at h
    · rename_i l r pos
      simp only [Bool.and_eq_true] at h
      obtain ⟨⟨⟨h1, h2⟩, h3⟩, h4⟩ := h
      have ka := chkE_ok a G h3
      have kb := chkE_ok b G h4
      have pw := pt_orM (ka.t h1) (pw_or1 (pos := pos) (kb.t h2))
      exact ⟨pe_orM ka.ev (pe_one kb.ev), fun _ => pw.pt, fun _ _ _ _ => pw⟩
    · rename_i l r q t pos
      simp only [Bool.and_eq_true] at h
      obtain ⟨⟨h1, h3⟩, h4⟩ := h
      have ka := chkE_ok a G h3
      have kb := chkE_ok b G h4
      have pw := pt_orM (ka.t h1) (kb.w _ _ _ rfl)
      exact ⟨pe_orM ka.ev kb.ev, fun _ => pw.pt, fun _ _ _ _ => pw⟩
    · cases h
  | .not a, X, W, sc, top, e, G, h => by
    simp only [chkE] at h
    split at h
    · simp only [Bool.and_eq_true] at h
      have ka := chkE_ok a G h.2
      exact ⟨pe_notM ka.ev, fun _ => pt_notM (ka.t h.1), fun _ _ _ z => nomatch z⟩
    · cases h
  | .ite c a b, X, W, sc, top, e, G, h => by
    simp only [chkE] at h
    split at h
    · simp only [Bool.and_eq_true] at h
      obtain ⟨⟨⟨h1, h2⟩, h3⟩, h4⟩ := h
      exact ⟨pe_iteM ((chkE_ok c G h2).t h1) (chkE_ok a G h3).ev (chkE_ok b G h4).ev, fun z => (nomatch z), fun _ _ _ z => nomatch z⟩
    · cases h
  | .tup es, X, W, sc, top, e, G, h => by
    simp only [chkE] at h
    split at h
    · exact .val (pe_tupM (chkDs_ok es G h)) (fun _ => rfl) fun _ _ _ z => nomatch z
    · cases h
  | .lst es, X, W, sc, top, e, G, h => by
    simp only [chkE] at h
    split at h
    · exact .val (pe_lstM (chkDs_ok es G h)) (fun _ => rfl) fun _ _ _ z => nomatch z
    · cases h
  | .dct es, X, W, sc, top, e, G, h => by
    simp only [chkE] at h
    split at h
    · rename_i ks vs pos
      simp only [Bool.and_eq_true, decide_eq_true_eq] at h
      obtain ⟨h1, h2⟩ := h
      obtain ⟨hp, hl, hk, hm⟩ := chkP_ok es G (pos := pos) h2
      cases ks with
      | nil =>
        cases es with
        | nil =>
          cases vs with
          | nil => exact .val pe_dct0M (fun _ => rfl) fun _ _ _ z => nomatch z
          | cons _ _ => cases h2
        | cons x es => cases es <;> cases h2
      | cons k ks =>
        obtain ⟨t1, t2⟩ := trsOf_ok (K := X.K) (xr := xr) (W := W) hm
        have := pe_dctM (pos := pos) hp t1 (by rw [t2, hm]) hk hl (by simp) h1
        have e2 : evE gc (.dct es) = fun r cs => (evL (msOf (gc := gc) es) r cs).bind fun ds r cs => liftO (dctD ds) r cs := by rw [← evL_eq]; rfl
        rw [e2]
        exact .val this (fun _ => rfl) fun _ _ _ z => nomatch z
    · cases h
  | .idx a i, X, W, sc, top, e, G, h => by
    simp only [chkE] at h
    split at h
    · simp only [Bool.and_eq_true] at h
      obtain ⟨⟨h1, h2⟩, h3⟩ := h
      exact .val (pe_idxM (by have := G.un; omega) (opdOk G h2 (chkE_ok a G h2)) (opdOk G h3 (chkE_ok i G h3)) (ix_of h1)) (fun _ => rfl) fun _ _ _ z => nomatch z
    · cases h
  | .slc a lo hi, X, W, sc, top, e, G, h => by
    simp only [chkE] at h
    split at h
    · simp only [Bool.and_eq_true] at h
      obtain ⟨⟨h1, h2⟩, h3⟩ := h
      exact .val (pe_slcM (opdOk G h1 (chkE_ok a G h1)) (chkOp_ok lo G h2) (chkOp_ok hi G h3)) (fun _ => rfl) fun _ _ _ z => nomatch z
    · cases h
  | .rev a, X, W, sc, top, e, G, h => by
    simp only [chkE] at h
    split at h
    · exact .val (pe_revM (opdOk G h (chkE_ok a G h))) (fun _ => rfl) fun _ _ _ z => nomatch z
    · cases h
  | .call f es ks kes ord, X, W, sc, top, e, G, h => by
    simp only [chkE] at h
    split at h
    · rename_i x p args kws pos
      simp only [Bool.and_eq_true] at h
      obtain ⟨⟨⟨⟨h1, h2⟩, h3⟩, h4⟩, h5⟩ := h
      obtain ⟨k1, k2⟩ := chkKs_names h5
      refine .val (call_ok G h1 h2 h3 (chkEs_stars h4) (chkAs_ok es _ G h4) k1 k2 (chkKs_ok kes G h5) fun z => ?_) (fun _ => rfl) fun _ _ _ z => nomatch z
      subst z
      cases kes with
      | nil =>
        cases kws with
        | nil => exact ⟨rfl, rfl⟩
        | cons _ _ => cases h5
      | cons _ _ => cases h5
    · cases h
  | .bi b es, X, W, sc, top, e, G, h => by
    simp only [chkE] at h
    split at h
    · rename_i x p args pos
      simp only [Bool.and_eq_true, decide_eq_true_eq] at h
      obtain ⟨⟨⟨h1, h2⟩, h3⟩, h4⟩ := h
      obtain ⟨g1, g2⟩ := G.hidn h2
      cases args with
      | nil => cases h3
      | cons a as =>
        obtain ⟨s1, s2⟩ := Bool.and_eq_true_iff.mp (show (noStar a && stars as) = true from chkEs_stars h4)
        exact .val (pe_biM b G.calm h1 g1 g2 (chkOs_ok es G h4) (star_of s1) (back_of s2)) (fun _ => rfl) fun _ _ _ z => nomatch z
    · cases h
  | .op k es, X, W, sc, top, e, G, h => by
    simp only [chkE] at h
    split at h
    · rename_i l hp
      simp only [Bool.and_eq_true] at h
      obtain ⟨h1, h2⟩ := h
      have hh : ∀ x ∈ opHid k, Gl X x ∧ X.mg x = none := fun x hx => G.hidn (List.all_eq_true.mp h1 x hx)
      obtain ⟨p1, p2, p3⟩ := op_ok hp hh G.calm G.shy G.un (stars_mem (chkEs_stars h2)) (chkOpds_ok es G h2)
      rw [mOp_eq]
      exact ⟨p1, fun _ => p2, fun op l pos q => absurd q (p3 op l pos)⟩
    · cases h
  | .stuck, X, W, sc, top, e, G, h => ⟨pe_no fun _ _ => rfl, fun _ => pt_no fun _ _ => rfl, fun _ _ _ _ => pw_no fun _ _ => rfl⟩
  | .isi t a, X, W, sc, top, e, G, h => by
    simp only [chkE] at h
    split at h
    · rename_i x p l y p1 pos
      simp only [Bool.and_eq_true, decide_eq_true_eq] at h
      obtain ⟨⟨⟨⟨⟨h1, h2⟩, h3⟩, h4⟩, h5⟩, h6⟩ := h
      subst h1
      subst h2
      obtain ⟨g1, g2⟩ := G.hidn h3
      obtain ⟨g3, g4⟩ := G.hidn h4
      exact .val (pe_isiM t g1 g2 g3 g4 (opdOk G h6 (chkE_ok a G h6)) (star_of h5)) (fun _ => rfl) fun _ _ _ z => nomatch z
    · cases h
  | .mut m i es, X, W, sc, top, e, G, h => by
    simp only [chkE] at h
    split at h
    · rename_i x p nm ap args pos
      simp only [Bool.and_eq_true, decide_eq_true_eq] at h
      obtain ⟨⟨⟨⟨h1, h2⟩, h3⟩, h4⟩, h5⟩ := h
      obtain ⟨g1, g2, g3, g4⟩ := G.var h2
      cases hm : mu0 m with
      | true =>
        rw [hm] at h5
        cases args with
        | cons _ _ => cases h5
        | nil =>
          cases es with
          | cons _ _ => cases h4
          | nil => exact .val (pe_mut0 m (by cases m <;> first | (cases hm; done) | exact .inl rfl | exact .inr (.inl rfl) | exact .inr (.inr rfl)) h1 g1 g2 g3 g4 h3) (fun _ => rfl) fun _ _ _ z => nomatch z
      | false =>
        rw [hm] at h5
        cases hm2 : mu2 m with
        | true =>
          rw [hm2] at h5
          cases m <;> first
            | (cases hm2; done)
            | skip
          match args, es, h4, h5 with
          | [a, b], .cons y (.cons z .nil), h4, _ =>
            obtain ⟨q1, q2⟩ := Bool.and_eq_true_iff.mp (show (noStar a && chkE C y sc top a && chkEs C (.cons z .nil) sc top [b]) = true from h4)
            obtain ⟨q3, q4⟩ := Bool.and_eq_true_iff.mp q1
            obtain ⟨q5, q6⟩ := Bool.and_eq_true_iff.mp (show (noStar b && chkE C z sc top b && chkEs C .nil sc top []) = true from q2)
            obtain ⟨q7, q8⟩ := Bool.and_eq_true_iff.mp q5
            subst h1
            exact .val (pe_mut2 g1 g2 g3 g4 (chkE_ok y G q4).ev (chkE_ok z G q8).ev (star_of q3) (star_of q7) h3) (fun _ => rfl) fun _ _ _ z => nomatch z
          | [a, b], .nil, h4, _ => cases h4
          | [a, b], .cons y .nil, h4, _ =>
            obtain ⟨_, q2⟩ := Bool.and_eq_true_iff.mp (show (noStar a && chkE C y sc top a && chkEs C .nil sc top [b]) = true from h4)
            cases q2
          | [a, b], .cons y (.cons z (.cons _ _)), h4, _ =>
            obtain ⟨_, q2⟩ := Bool.and_eq_true_iff.mp (show (noStar a && chkE C y sc top a && chkEs C (.cons z (.cons _ _)) sc top [b]) = true from h4)
            obtain ⟨_, q3⟩ := Bool.and_eq_true_iff.mp (show (noStar b && chkE C z sc top b && chkEs C (.cons _ _) sc top []) = true from q2)
            cases q3
          | [], _, _, h5 => simp at h5
          | [_], _, _, h5 => simp at h5
          | _ :: _ :: _ :: _, _, _, h5 => simp at h5
        | false =>
        rw [hm2] at h5
        match args, es, h4, h5 with
        | [a], .cons y .nil, h4, _ =>
          obtain ⟨q1, q2⟩ := Bool.and_eq_true_iff.mp (show (noStar a && chkE C y sc top a && chkEs C .nil sc top []) = true from h4)
          obtain ⟨q3, q4⟩ := Bool.and_eq_true_iff.mp q1
          have e2 : evE gc (.mut m i (.cons y .nil)) = fun r cs => (liftO ((ownAt i r).bind fun p => if p.2.isLst then some () else none) r cs).bind fun _ r cs => (evE gc y r cs).d.bind fun d r cs => (liftO (ownAt i r) r cs).bind fun p r cs => (liftO (muC m p.2 [d]) r cs).bind fun q r cs =>
            .ok (.val q.1) (r.set i (.own p.1 false q.2)) cs := by
            funext r cs
            show ((liftO ((ownAt i r).bind fun p => if p.2.isLst then some () else none) r cs).bind fun _ r cs => ((evE gc y r cs).d.bind fun d r cs => Res.ok [d] r cs).bind fun ds r cs => (liftO (ownAt i r) r cs).bind fun p r cs => (liftO (muC m p.2 ds) r cs).bind fun q r cs =>
              Res.ok (Rv.val q.1) (r.set i (.own p.1 false q.2)) cs) = _
            congr 1
            funext _ r cs
            rw [Res.bind_assoc]
            rfl
          rw [e2]
          exact .val (pe_mut1 m (by cases m <;> first | (cases hm; done) | (cases hm2; done) | exact .inl rfl | exact .inr (.inl rfl) | exact .inr (.inr rfl)) h1 g1 g2 g3 g4 (chkE_ok y G q4).ev (star_of q3) h3) (fun _ => rfl) fun _ _ _ z => nomatch z
        | [a], .nil, h4, _ => cases h4
        | [a], .cons y (.cons z zs), h4, _ =>
          obtain ⟨_, q2⟩ := Bool.and_eq_true_iff.mp (show (noStar a && chkE C y sc top a && chkEs C (.cons z zs) sc top []) = true from h4)
          cases q2
        | [], _, _, h5 => cases h5
        | _ :: _ :: _, _, _, h5 => simp at h5
    · cases h
  | .comp elt tg sr cs vs, X, W, sc, top, e, G, h => by
    simp only [chkE] at h
    split at h
    · rename_i el tgE it ifs a scope pos
      simp only [Bool.and_eq_true, decide_eq_true_eq] at h
      obtain ⟨⟨⟨⟨⟨⟨⟨h1, h2⟩, h3⟩, h4⟩, h5⟩, h6⟩, h7⟩, h8⟩ := h
      subst h1
      have ok := blkOk_by h2
      have bk : BlkRd X xr el tgE ifs scope tg (fun r c => evConds gc cs r c) (fun r c => (evE gc elt r c).d) :=
        ⟨fun s H A cl fp => chkTg_ok (G.blk ok.kind s H A cl fp) (fun _ z => z) h5, fun s H A cl fp => chkC_ok cs (G.blk ok.kind s H A cl fp) h7, fun s H A cl fp => pe_frz (chkE_ok elt (G.blk ok.kind s H A cl fp) h8).ev⟩
      have := pe_lcM (pos := pos) G.calm (by rw [G.N]; exact G.nd) (chkSrc_ok sr G h4) (own := ownB C vs) (by rw [G.N, G.scq]; exact ok) bk (fun j hj => by
        rw [ownB_vars]
        exact List.contains_iff_mem.mp (List.all_eq_true.mp h6 j hj)) (fold_of h3 X.env)
      rw [ownB_vars] at this
      exact .val this (fun _ => rfl) fun _ _ _ z => nomatch z
    · cases h
theorem chkC_ok : ∀ (cs : Es) {X : Cx} {W : WX} {sc : Scope} {ifs : List Expr}, GX C xr gc X W sc false → chkC C cs sc ifs = true → PTs X ifs (tTM X.K xr W fun r c => evConds gc cs r c)
  | .nil, X, W, sc, ifs, G, h => by
    cases ifs with
    | nil => exact pts0M
    | cons _ _ => cases h
  | .cons x es, X, W, sc, ifs, G, h => by
    simp only [chkC] at h
    split at h
    · simp only [Bool.and_eq_true] at h
      exact pts_one ((chkE_ok x G h.2).t h.1)
    · cases h
theorem chkDs_ok : ∀ (es : Es) {X : Cx} {W : WX} {sc : Scope} {top : Bool} {l : List Expr}, GX C xr gc X W sc top → chkEs C es sc top l = true → PA X l (tAD X.K xr W (evDs gc es))
  | .nil, X, W, sc, top, l, G, h => by
    cases l with
    | nil => exact pa_ds0
    | cons _ _ => cases h
  | .cons x es, X, W, sc, top, l, G, h => by
    cases l with
    | nil => cases h
    | cons e l =>
      have h : (noStar e && chkE C x sc top e && chkEs C es sc top l) = true := h
      simp only [Bool.and_eq_true] at h
      exact pa_ds1 (chkE_ok x G h.1.2).ev (chkDs_ok es G h.2) (star_of h.1.1)
theorem chkOs_ok : ∀ (es : Es) {X : Cx} {W : WX} {sc : Scope} {top : Bool} {l : List Expr}, GX C xr gc X W sc top → chkEs C es sc top l = true → PA X l (tAO X.K xr W (evOs gc es))
  | .nil, X, W, sc, top, l, G, h => by
    cases l with
    | nil => exact pa_os0
    | cons _ _ => cases h
  | .cons x es, X, W, sc, top, l, G, h => by
    cases l with
    | nil => cases h
    | cons e l =>
      have h : (noStar e && chkE C x sc top e && chkEs C es sc top l) = true := h
      simp only [Bool.and_eq_true] at h
      exact pa_os1 (opdOk G h.1.2 (chkE_ok x G h.1.2)) (chkOs_ok es G h.2) (star_of h.1.1)
theorem chkOpds_ok : ∀ (es : Es) {X : Cx} {W : WX} {sc : Scope} {top : Bool} {l : List Expr}, GX C xr gc X W sc top → chkEs C es sc top l = true → Paired (fun a m => PE X a (tOm X.K xr W m)) l (osOf (gc := gc) es)
  | .nil, X, W, sc, top, l, G, h => by
    cases l with
    | nil => exact .nil
    | cons _ _ => cases h
  | .cons x es, X, W, sc, top, l, G, h => by
    cases l with
    | nil => cases h
    | cons e l =>
      have h : (noStar e && chkE C x sc top e && chkEs C es sc top l) = true := h
      simp only [Bool.and_eq_true] at h
      exact .cons (opdOk G h.1.2 (chkE_ok x G h.1.2)) (chkOpds_ok es G h.2)
theorem chkAs_ok : ∀ (es : Es) (b : Bool) {X : Cx} {W : WX} {sc : Scope} {top : Bool} {l : List Expr}, GX C xr gc X W sc top → chkEs C es sc top l = true → PA X l (tAn X.K xr W l.length b (evAs gc b es))
  | .nil, b, X, W, sc, top, l, G, h => by
    cases l with
    | nil => cases b <;> exact pa_an0
    | cons _ _ => cases h
  | .cons x es, b, X, W, sc, top, l, G, h => by
    cases l with
    | nil => cases h
    | cons e l =>
      have h : (noStar e && chkE C x sc top e && chkEs C es sc top l) = true := h
      simp only [Bool.and_eq_true] at h
      have kx := chkE_ok x G h.1.2
      have ks := chkAs_ok es b G h.2
      have st := star_of (es := l) (env := X.env) h.1.1
      by_cases hv : ∃ i, x = .var i
      · obtain ⟨i, rfl⟩ := hv
        rw [evAs_var]
        have h12 := h.1.2
        cases e <;> first
          | (cases h12; done)
          | skip
        obtain ⟨h1, h2, h3, h4⟩ := G.var h12
        exact pa_an1 (pe_avar h1 h2 h3 h4) ks st
      · have hv : ∀ i, x ≠ .var i := fun i z => hv ⟨i, z⟩
        by_cases hb : b = false ∨ es ≠ .nil
        · rw [evAs_more hv hb]
          exact pa_an1 (pe_aval kx.ev) ks st
        · have hb1 : b = true := by
            cases b with
            | true => rfl
            | false => exact absurd (.inl rfl) hb
          have hes : es = .nil := Classical.byContradiction fun z => hb (.inr z)
          subst hb1
          subst hes
          have h2 := h.2
          cases l with
          | cons _ _ => cases h2
          | nil =>
            rw [evAs_last hv]
            exact pa_anL kx.ev st
theorem chkKs_ok : ∀ (es : Es) {X : Cx} {W : WX} {sc : Scope} {top : Bool} {ks : List Str} {l : List Keyword}, GX C xr gc X W sc top → chkKs C es sc top ks l = true → PK X l (tAn X.K xr W ks.length false (evAs gc false es))
  | .nil, X, W, sc, top, ks, l, G, h => by
    cases ks with
    | cons _ _ => cases h
    | nil =>
      cases l with
      | nil => exact pk_an0
      | cons _ _ => cases h
  | .cons x es, X, W, sc, top, ks, l, G, h => by
    cases ks with
    | nil => cases h
    | cons k ks =>
      cases l with
      | nil => cases h
      | cons q l =>
        obtain ⟨nm, e, p⟩ := q
        cases nm with
        | none => cases h
        | some k' =>
          have h : (decide (k = k') && chkE C x sc top e && chkKs C es sc top ks l) = true := h
          simp only [Bool.and_eq_true] at h
          have kx := chkE_ok x G h.1.2
          have kk := chkKs_ok es G h.2
          by_cases hv : ∃ i, x = .var i
          · obtain ⟨i, rfl⟩ := hv
            rw [evAs_var]
            have h12 := h.1.2
            cases e <;> first
              | (cases h12; done)
              | skip
            obtain ⟨h1, h2, h3, h4⟩ := G.var h12
            exact pk_an1 (pe_avar h1 h2 h3 h4) kk
          · have hv : ∀ i, x ≠ .var i := fun i z => hv ⟨i, z⟩
            rw [evAs_more hv (.inl rfl)]
            exact pk_an1 (pe_aval kx.ev) kk
theorem chkOp_ok : ∀ (es : Es) {X : Cx} {W : WX} {sc : Scope} {top : Bool} {o : Option Expr}, GX C xr gc X W sc top → chkOp C es sc top o = true → PO X o (tPM X.K xr W fun r cs => (evDs gc es r cs).bind fun l r cs => liftO (partD l) r cs)
  | .nil, X, W, sc, top, o, G, h => by
    cases o with
    | none => exact po0M
    | some _ => cases h
  | .cons x es, X, W, sc, top, o, G, h => by
    simp only [chkOp] at h
    split at h
    · have e2 : (fun r cs => (evDs gc (.cons x .nil) r cs).bind fun l r cs => liftO (partD l) r cs) = fun r cs => (evE gc x r cs).d.bind fun d r cs => liftO (partD [d]) r cs := by
        funext r cs
        show ((evE gc x r cs).d.bind fun d r cs => Res.ok [d] r cs).bind _ = _
        rw [Res.bind_assoc]
        rfl
      rw [e2]
      exact po1M (chkE_ok x G h).ev
    · cases h
theorem chkP_ok : ∀ (es : Es) {X : Cx} {W : WX} {sc : Scope} {top : Bool} {ks : List (Option Expr)} {vs : List Expr} {pos : Pos}, GX C xr gc X W sc top → chkP C es sc top ks vs = true → PPs X pos ks vs (trsOf X.K xr W (msOf (gc := gc) es)) ∧ ks.length = vs.length ∧ ks.all (·.isSome) = true ∧ (msOf (gc := gc) es).length = 2 * ks.length
  | .nil, X, W, sc, top, ks, vs, pos, G, h => by
    cases ks with
    | cons _ _ => cases h
    | nil =>
      cases vs with
      | nil => exact ⟨pps_nil, rfl, rfl, rfl⟩
      | cons _ _ => cases h
  | .cons x .nil, X, W, sc, top, ks, vs, pos, G, h => by cases h
  | .cons x (.cons y es), X, W, sc, top, ks, vs, pos, G, h => by
    simp only [chkP] at h
    split at h
    · simp only [Bool.and_eq_true] at h
      obtain ⟨⟨h1, h2⟩, h3⟩ := h
      obtain ⟨a, b, c, d⟩ := chkP_ok es G (pos := pos) h3
      refine ⟨pps_cons (pe_frz (chkE_ok x G h1).ev) (pe_frz (chkE_ok y G h2).ev) a, by simp [b], by simpa using c, ?_⟩
      show (msOf (gc := gc) es).length + 1 + 1 = _
      rw [d, List.length_cons]
      omega
    · cases h
theorem chkSrc_ok : ∀ (sr : Src) {X : Cx} {W : WX} {sc : Scope} {top : Bool} {tgE e : Expr}, GX C xr gc X W sc top → chkSrc C sr sc top tgE e = true → PI X tgE e (tJ X.K xr W (evSrc gc sr))
  | .lst x, X, W, sc, top, tgE, e, G, h => by
    have h : chkE C x sc top e = true := h
    exact pi_lstM (opdOk G h (chkE_ok x G h))
  | .tup x, X, W, sc, top, tgE, e, G, h => by
    have h : chkE C x sc top e = true := h
    exact pi_tupM (opdOk G h (chkE_ok x G h))
  | .range es, X, W, sc, top, tgE, e, G, h => by
    simp only [chkSrc] at h
    split at h
    · rename_i x p args pos
      simp only [Bool.and_eq_true, decide_eq_true_eq] at h
      obtain ⟨⟨⟨h1, h2⟩, h3⟩, h4⟩ := h
      subst h1
      obtain ⟨g1, g2⟩ := G.hidn h2
      have kd := chkDs_ok es G h3
      have hl := evDs_len (gc := gc) (X := 0) h3
      have hs := chkEs_stars h3
      match args, h4 with
      | [a], _ =>
        obtain ⟨s1, _⟩ := Bool.and_eq_true_iff.mp (show (noStar a && stars []) = true from hs)
        exact pi_rng1M g1 g2 kd hl (star_of s1)
      | [a, b], _ =>
        obtain ⟨s1, s2⟩ := Bool.and_eq_true_iff.mp (show (noStar a && stars [b]) = true from hs)
        obtain ⟨s3, _⟩ := Bool.and_eq_true_iff.mp (show (noStar b && stars []) = true from s2)
        have e2 : starEach [b] X.env = [(false, eval b X.env)] := star_of s3
        exact pi_rng2M g1 g2 kd hl (by rw [star_of s1, e2]) e2
      | [], h => simp at h
      | _ :: _ :: _ :: _, h => simp at h
    · cases h
  | .enum x, X, W, sc, top, tgE, e, G, h => by
    simp only [chkSrc] at h
    split at h
    · rename_i y p l pos
      simp only [Bool.and_eq_true, decide_eq_true_eq] at h
      obtain ⟨⟨⟨⟨h1, h2⟩, h3⟩, h4⟩, h5⟩ := h
      subst h2
      obtain ⟨g1, g2⟩ := G.hidn h3
      cases tgE <;> first
        | (cases h1; done)
        | skip
      exact pi_enumM g1 g2 (opdOk G h5 (chkE_ok x G h5)) (star_of h4)
    · cases h
  | .zip a b, X, W, sc, top, tgE, e, G, h => by
    simp only [chkSrc] at h
    split at h
    · rename_i y p l m pos
      simp only [Bool.and_eq_true, decide_eq_true_eq] at h
      obtain ⟨⟨⟨⟨⟨⟨h1, h2⟩, h3⟩, h4⟩, h5⟩, h6⟩, h7⟩ := h
      subst h2
      obtain ⟨g1, g2⟩ := G.hidn h3
      cases tgE <;> first
        | (cases h1; done)
        | skip
      have e2 : starEach [m] X.env = [(false, eval m X.env)] := star_of h5
      exact pi_zipM g1 g2 (opdOk G h6 (chkE_ok a G h6)) (opdOk G h7 (chkE_ok b G h7)) (star_of h4) e2 (by rw [e2]; rfl)
    · cases h
  | .items x, X, W, sc, top, tgE, e, G, h => by
    simp only [chkSrc] at h
    split at h
    · simp only [Bool.and_eq_true, decide_eq_true_eq] at h
      obtain ⟨⟨⟨⟨h1, h2⟩, h3⟩, h4⟩, h5⟩ := h
      subst h2
      cases tgE <;> first
        | (cases h1; done)
        | skip
      exact pi_itemsM (chkE_ok x G h5).ev (nosup_of h3) h4
    · cases h
  | .keys x, X, W, sc, top, tgE, e, G, h => by
    have h : chkE C x sc top e = true := h
    exact pi_keysDM (chkE_ok x G h).ev
  | .vals x, X, W, sc, top, tgE, e, G, h => by
    simp only [chkSrc] at h
    split at h
    · simp only [Bool.and_eq_true, decide_eq_true_eq] at h
      obtain ⟨⟨⟨h2, h3⟩, h4⟩, h5⟩ := h
      subst h2
      exact pi_valsM (chkE_ok x G h5).ev (nosup_of h3) h4
    · cases h
end
end Vi

namespace Vi
open PySem PySem.Spec L2
/-! ### x op= e -/
section
variable {X : Cx} {xr : XR} {W : WX} {e : Expr} {pos : Pos}
/-- what op= does with an int, a text -/
def rAug (o : Op) : TIp := fun x y H Q => (∃ a b c, x = .int a ∧ y = .int b ∧ augI o a b = some c ∧ Q (.int c) H) ∨ ∃ a b, x = .str a ∧ y = .str b ∧ o = .add ∧ a.length + b.length ≤ sizeLine ∧ Q (.str (a ++ b)) H
theorem ip_aug : ∀ o : Op, PIp X o.op (rAug o) := by
  intro o pins s σ H x y v u Q I rx ry h
  rcases h with ⟨a, b, c, rfl, rfl, hc, q⟩ | ⟨a, b, rfl, rfl, rfl, hl, q⟩
  · cases o with
    | add =>
      cases hc
      exact iop_add pins s σ H _ _ v u Q I rx ry ⟨a, b, rfl, rfl, q⟩
    | sub =>
      cases hc
      exact iop_sub pins s σ H _ _ v u Q I rx ry ⟨a, b, rfl, rfl, q⟩
    | mul =>
      simp only [augI] at hc
      split at hc
      · rename_i hs
        cases hc
        refine iop_mul pins s σ H _ _ v u Q I rx ry ⟨a, b, rfl, rfl, ?_, q⟩
        rcases Bool.or_eq_true_iff.mp hs with z | z
        · exact .inl (small64_ok z)
        · exact .inr (small64_ok z)
      · cases hc
    | fdiv =>
      simp only [augI] at hc
      split at hc
      · rename_i hs
        cases hc
        exact iop_fdiv pins s σ H _ _ v u Q I rx ry ⟨a, b, rfl, rfl, by simpa [CDiv] using hs, q⟩
      · cases hc
    | mod =>
      simp only [augI] at hc
      split at hc
      · rename_i hs
        cases hc
        exact iop_mod pins s σ H _ _ v u Q I rx ry ⟨a, b, rfl, rfl, by simpa using hs, q⟩
      · cases hc
    | pow => cases hc
  · exact iop_add_str pins s σ H _ _ v u Q I rx ry ⟨a, b, rfl, rfl, hl, q⟩
theorem ps_augM {i : Nat} {x : Str} {o : Op} {m : List Sl → List C → Res Rv} {pos' : Pos} (hN : X.N.Nodup) (hi : X.N[i]? = some x) (hx : Loc X.env.scope x) (he : PE X e (tM X.K xr W m)) (hf : X.fn x = true ∨ X.env.scope.names.lookup x = some .local) :
    PS X (.AugAssign (.Name x pos') o.op e pos) (tS X.K xr W fun r cs => match r[i]? with
      | some (.val _ (.int a)) => (m r cs).d.bind fun d r cs => match d with
        | .int b => (liftO (augI o a b) r cs).bind fun c r cs => (liftO (setS i (.val false (.int c)) r) r cs).bind fun r _ _ => .ok .nx r cs
        | _ => .no
      | some (.val _ (.str a)) => (m r cs).d.bind fun d r cs => match o, d with
        | .add, .str b => if a.length + b.length ≤ sizeLine then (liftO (setS i (.val false (.str (a ++ b))) r) r cs).bind fun r _ _ => .ok .nx r cs else .no
        | _, _ => .no
      | _ => .no) := by
  refine ps_weak (ps_aug hN hi hx (pe_frz he) (ip_aug o) hf) fun D σ H ⟨g, w, r, cs, g0, R, hp⟩ => ?_
  dsimp only at hp
  split at hp
  · rename_i io a er
    obtain ⟨v, e1, e2⟩ := R.sl i _ er
    cases (show v = .int a from e2)
    refine ⟨_, e1, ?_⟩
    refine tG.mono (R.stepS (rep := repD X.K) hp) fun y H1 ⟨w1, r1, cs1, d, R1, e1, q1, k1⟩ => ?_
    have q1 : Rep X.K w1 d y := q1
    cases d <;> first
      | exact k1.elim
      | skip
    case int b _ =>
      cases (show y = .int b from q1)
      obtain ⟨c, ec, k2⟩ := liftO_P k1.bind
      obtain ⟨r2, e2, k3⟩ := liftO_P k2.bind
      exact .inl ⟨a, b, c, rfl, rfl, ec, k3 w1 _ H1 (R1.setD e2 rfl) (Ext.refl _)⟩
  · rename_i io a er
    obtain ⟨v, e1, e2⟩ := R.sl i _ er
    cases (show v = .str a from e2)
    refine ⟨_, e1, ?_⟩
    refine tG.mono (R.stepS (rep := repD X.K) hp) fun y H1 ⟨w1, r1, cs1, d, R1, e1, q1, k1⟩ => ?_
    have q1 : Rep X.K w1 d y := q1
    cases d <;> first
      | (cases o <;> exact k1.elim; done)
      | skip
    case str b q0 =>
      cases o <;> first
        | (exact k1.elim; done)
        | skip
      cases (show y = .str b from q1)
      dsimp only at k1
      split at k1
      · rename_i hl
        obtain ⟨r2, e2, k3⟩ := liftO_P k1.bind
        exact .inr ⟨a, b, rfl, rfl, rfl, hl, k3 w1 _ H1 (R1.setD e2 rfl) (Ext.refl _)⟩
      · exact k1.elim
  · exact hp.elim
end
/-! ### stores from the right -/
theorem par2_of {sc : Scope} {env : Env} {x y : Str} {px py pt pt2 : Pos} {kt k2 : Nat} {a b : Expr} (hs : env.scope = sc) (hk : sc.kind = .function) (h : parB sc [.Name x px, .Name y py] [a, b] = true) :
    swappedStores [.Tuple [.Name x px, .Name y py] kt pt] (.Tuple [a, b] k2 pt2) env = pure (some [x, y]) ∧ x ≠ y ∧ sc.names.lookup x = some .local ∧ sc.names.lookup y = some .local ∧ noStar a = true ∧ noStar b = true := by
  simp only [parB, Bool.and_eq_true, Bool.not_eq_true', decide_eq_false_iff_not] at h
  obtain ⟨⟨⟨⟨⟨⟨⟨h1, h2⟩, h3⟩, h4⟩, h5⟩, h6⟩, h7⟩, h8⟩ := h
  have kx : env.kindOf x = some .local := by show env.scope.names.lookup x = _; rw [hs]; exact lcl_of h1
  have ky : env.kindOf y = some .local := by show env.scope.names.lookup y = _; rw [hs]; exact lcl_of h2
  have hb : env.blockKind = .function := by unfold Env.blockKind; rw [hs, hk]; rfl
  have hst : ([a, b].any fun | .Starred .. => true | _ => false) = false := by
    cases a <;> cases b <;> first
      | rfl
      | (cases h5; done)
      | (cases h6; done)
  refine ⟨?_, h4, lcl_of h1, lcl_of h2, h5, h6⟩
  unfold swappedStores
  simp only [List.length_cons, List.length_nil, hb, List.filterMap_cons, List.filterMap_nil, kx, ky, List.head?_cons, Option.map_some, Option.getD_some, Expr.pos, h3]
  simp only [hst, h7, h8]
  have hd : [x, y].eraseDups.length = 2 := by
    have : (y == x) = false := by simpa using fun z => h4 z.symm
    simp [List.eraseDups_cons, this]
  simp [hd]
  intro q
  rcases q with q | q
  · cases a <;> first
      | (cases q; done)
      | (cases h5; done)
  · cases b <;> first
      | (cases q; done)
      | (cases h6; done)
theorem par3_of {sc : Scope} {env : Env} {x y z : Str} {px py pz pt pt2 : Pos} {kt k2 : Nat} {a b c : Expr} (hs : env.scope = sc) (hk : sc.kind = .function) (h : parB sc [.Name x px, .Name y py, .Name z pz] [a, b, c] = true) :
    swappedStores [.Tuple [.Name x px, .Name y py, .Name z pz] kt pt] (.Tuple [a, b, c] k2 pt2) env = pure (some [x, y, z]) ∧ (x ≠ y ∧ x ≠ z ∧ y ≠ z) ∧ (sc.names.lookup x = some .local ∧ sc.names.lookup y = some .local ∧ sc.names.lookup z = some .local) ∧ noStar a = true ∧ noStar b = true ∧ noStar c = true := by
  simp only [parB, Bool.and_eq_true, Bool.not_eq_true', decide_eq_false_iff_not] at h
  obtain ⟨⟨⟨⟨⟨⟨⟨⟨⟨⟨⟨⟨h1, h2⟩, hz⟩, h3⟩, h3'⟩, h4⟩, h4'⟩, h4''⟩, h5⟩, h6⟩, h6'⟩, h7⟩, h8⟩ := h
  have kx : env.kindOf x = some .local := by show env.scope.names.lookup x = _; rw [hs]; exact lcl_of h1
  have ky : env.kindOf y = some .local := by show env.scope.names.lookup y = _; rw [hs]; exact lcl_of h2
  have kz : env.kindOf z = some .local := by show env.scope.names.lookup z = _; rw [hs]; exact lcl_of hz
  have hb : env.blockKind = .function := by unfold Env.blockKind; rw [hs, hk]; rfl
  refine ⟨?_, ⟨h4, h4', h4''⟩, ⟨lcl_of h1, lcl_of h2, lcl_of hz⟩, h5, h6, h6'⟩
  unfold swappedStores
  simp only [List.length_cons, List.length_nil, hb, List.filterMap_cons, List.filterMap_nil, kx, ky, kz, List.head?_cons, Option.map_some, Option.getD_some, Expr.pos, h3, h3']
  simp only [h7, h8]
  have hd : [x, y, z].eraseDups.length = 3 := by
    have q1 : (y == x) = false := by simpa using fun z => h4 z.symm
    have q2 : (z == x) = false := by simpa using fun z => h4' z.symm
    have q3 : (z == y) = false := by simpa using fun z => h4'' z.symm
    simp [List.eraseDups_cons, q1, q2, q3]
  simp [hd]
  intro q
  rcases q with q | q | q
  · cases a <;> first
      | (cases q; done)
      | (cases h5; done)
  · cases b <;> first
      | (cases q; done)
      | (cases h6; done)
  · cases c <;> first
      | (cases q; done)
      | (cases h6'; done)
theorem swT_of {ts : List Expr} {e : Expr} {kt : Nat} {pt : Pos} {env : Env} (h : noTup e = true) : swappedStores [.Tuple ts kt pt] e env = pure none := by
  cases e <;> first
    | rfl
    | cases h
theorem sub_asg {x : Str} {p0 p1 : Pos} {k : Expr} {env : Env} (h : noSlice k = true) : ∀ v, assign (.Subscript (.Name x p0) k p1) env v = (do
      let ov ← holding [v] (eval (.Name x p0) env)
      let iv ← holding [v, ov] (eval k env)
      standAt p1
      holding [v, ov, iv] (setItem ov iv v)
      release [v, ov, iv] []) := by
  intro v
  cases k <;> first
    | rfl
    | cases h
theorem sw_of {sc : Scope} {env : Env} {x : Str} {py : Pos} {e : Expr} {l : Nat} (hs : env.scope = sc) (hk : sc.kind = .function) (h : noComp e = true ∨ ∃ el gs s q, e = .ListComp el gs s q ∧ swB sc x py e = false) : swapsWith e (some (.Name x py)) l env = pure false := by
  rcases h with h | ⟨el, gs, s, q, rfl, h⟩
  · exact swap_of h
  · have hb : env.blockKind = .function := by unfold Env.blockKind; rw [hs, hk]; rfl
    have kx : env.kindOf x = sc.names.lookup x := by show env.scope.names.lookup x = _; rw [hs]
    have e0 : (env.kindOf x == some .local) = lclB sc x := by
      rw [kx]
      unfold lclB
      cases sc.names.lookup x with
      | none => rfl
      | some k => cases k <;> rfl
    unfold swapsWith
    simp only [hb, e0, Expr.pos]
    have h : (lclB sc x && (py.line == q.line) && !(s.names.any fun (n, k) => n == x && (k == .local || k == .cell))) = false := h
    simp only [beq_self_eq_true, Bool.true_and, h]
end Vi

namespace Vi
open PySem PySem.Spec L2
variable {C : Ck} {xr : XR} {gc : Gc}
theorem swapS_of {e t : Expr} {l : Nat} {env : Env} (h : noComp e = true) : swapsWithSole [t] e l env = pure false := by
  show swapsWith e (some t) l env = _
  exact swap_of h
theorem asg_ok {X : Cx} {W : WX} {sc : Scope} (G : GX C xr gc X W sc true) {i : Nat} {y : Str} {py pos : Pos} {e : Expr} {x : E} (h1 : tgB C allB sc i y = true) (h2 : (noComp e || isLC e) = true) (h3 : chkE C x sc true e = true) :
    PS X (.Assign [.Name y py] e pos) (tS X.K xr W (evS gc (.asg i x))) := by
  obtain ⟨t1, t2, t3, t4⟩ := G.tgt (fun x _ => G.fn rfl x) h1
  have gen : swapsWith e (some (.Name y py)) pos.line X.env = pure false → PS X (.Assign [.Name y py] e pos) (tS X.K xr W (evS gc (.asg i x))) := fun hs => ps_asgM t1 t2 t3 (chkE_ok x G h3).ev hs t4
  by_cases hn : noComp e = true
  · exact gen (sw_of G.scq G.knd (.inl hn))
  · cases e <;> first
      | (exact absurd rfl hn; done)
      | (cases h2; done)
      | skip
    rename_i el gs s q
    by_cases hw : swB sc y py (.ListComp el gs s q) = true
    · cases x <;> first
        | (cases h3; done)
        | (exact ps_no fun _ _ => rfl)
        | (rename_i k _; cases k <;> cases h3; done)
        | skip
      rename_i elt tg sr cs vs
      simp only [chkE] at h3
      split at h3
      · rename_i el2 tgE it ifs a scope2 pos2 heq
        cases heq
        simp only [Bool.and_eq_true, decide_eq_true_eq] at h3
        obtain ⟨⟨⟨⟨⟨⟨⟨q1, q2⟩, q3⟩, q4⟩, q5⟩, q6⟩, q7⟩, q8⟩ := h3
        subst q1
        have ok := blkOk_by q2
        have bk : BlkRd X xr el tgE ifs s tg (fun r c => evConds gc cs r c) (fun r c => (evE gc elt r c).d) :=
          ⟨fun s H A cl fp => chkTg_ok (G.blk ok.kind s H A cl fp) (fun _ z => z) q5, fun s H A cl fp => chkC_ok cs (G.blk ok.kind s H A cl fp) q7, fun s H A cl fp => pe_frz (chkE_ok elt (G.blk ok.kind s H A cl fp) q8).ev⟩
        have hw : (lclB sc y && (py.line == q.line) && !(s.names.any fun (n, k) => n == y && (k == .local || k == .cell))) = true := hw
        simp only [Bool.and_eq_true, Bool.not_eq_true'] at hw
        obtain ⟨⟨w1, w2⟩, w3⟩ := hw
        have yl : X.env.scope.names.lookup y = some .local := by rw [G.scq]; exact lcl_of w1
        have := ps_setLcM (pos := q) (spos := pos) (W := W) G.calm t1 t2 yl (sw_true (by rw [G.scq]; exact G.knd) yl w2 w3) (chkSrc_ok sr G q4) (own := ownB C vs) (by rw [G.N, G.scq]; exact ok) bk (fun j hj => by
          rw [ownB_vars]
          exact List.contains_iff_mem.mp (List.all_eq_true.mp q6 j hj)) (fold_of q3 X.env)
        rw [ownB_vars] at this
        exact this
      · cases h3
    · exact gen (sw_of G.scq G.knd (.inr ⟨_, _, _, _, rfl, by simpa using hw⟩))
theorem asgT_ok {X : Cx} {W : WX} {sc : Scope} (G : GX C xr gc X W sc true) {is : List Nat} {ts : List Expr} {kt : Nat} {pt pos : Pos} {e : Expr} {x : E} (h1 : tgNames C allB sc is ts = true) (h2 : chkE C x sc true e = true) (h3 : noComp e = true)
    (h4 : parE sc ts e = true) : PS X (.Assign [.Tuple ts kt pt] e pos) (tS X.K xr W (evS gc (.asgT is x))) := by
  obtain ⟨a1, a2⟩ := tgNames_stars h1
  obtain ⟨b1, b2⟩ := asgEach_of (env := X.env) a1
  by_cases ht : noTup e = true
  · exact ps_asgTM G.calm (chkE_ok x G h2).ev (tgNames_ok G (fun x _ => G.fn rfl x) h1) (by rw [b1, a2]) b2 (swapS_of h3) (swT_of ht)
  · cases e <;> first
      | (exact absurd rfl ht; done)
      | skip
    rename_i vs k2 pt2
    have h4 : parB sc ts vs = true := h4
    cases x <;> first
      | (cases h2; done)
      | (exact ps_no fun _ _ => rfl)
      | (rename_i k _; cases k <;> cases h2; done)
      | skip
    rename_i es
    have h2 : chkEs C es sc true vs = true := h2
    have kd := chkDs_ok (W := W) es G h2
    unfold parB at h4
    split at h4
    · rename_i y py z pz a b _ _
      have h5 : parB sc [.Name y py, .Name z pz] [a, b] = true := h4
      obtain ⟨s1, ne, l1, l2, n1, n2⟩ := par2_of (px := py) (py := pz) (pt := pt) (pt2 := pt2) (kt := kt) (k2 := k2) G.scq G.knd h5
      match is, h1 with
      | [i, j], h1 =>
        obtain ⟨q1, q2⟩ := Bool.and_eq_true_iff.mp (show (tgB C allB sc i y && tgNames C allB sc [j] [.Name z pz]) = true from h1)
        obtain ⟨q2, _⟩ := Bool.and_eq_true_iff.mp (show (tgB C allB sc j z && tgNames C allB sc [] []) = true from q2)
        obtain ⟨t1, t2, t3, t4⟩ := G.tgt (fun x _ => G.fn rfl x) q1
        obtain ⟨_, u2, _, _⟩ := G.tgt (fun x _ => G.fn rfl x) q2
        exact ps_parM G.calm t1 t2 u2 (fun z => by subst z; rw [t2] at u2; exact ne (Option.some.inj u2)) (by rw [G.scq]; exact l1) (by rw [G.scq]; exact l2) kd s1 rfl
      | [], h1 => cases h1
      | [_], h1 => simp [tgNames] at h1
      | _ :: _ :: _ :: _, h1 => simp [tgNames] at h1
    · rename_i y py z pz v pv a b c _ _
      have h5 : parB sc [.Name y py, .Name z pz, .Name v pv] [a, b, c] = true := h4
      obtain ⟨s1, ⟨ne1, ne2, ne3⟩, ⟨l1, l2, l3⟩, n1, n2, n3⟩ := par3_of (px := py) (py := pz) (pz := pv) (pt := pt) (pt2 := pt2) (kt := kt) (k2 := k2) G.scq G.knd h5
      match is, h1 with
      | [i, j, l], h1 =>
        obtain ⟨q1, q2⟩ := Bool.and_eq_true_iff.mp (show (tgB C allB sc i y && tgNames C allB sc [j, l] [.Name z pz, .Name v pv]) = true from h1)
        obtain ⟨q2, q3⟩ := Bool.and_eq_true_iff.mp (show (tgB C allB sc j z && tgNames C allB sc [l] [.Name v pv]) = true from q2)
        obtain ⟨q3, _⟩ := Bool.and_eq_true_iff.mp (show (tgB C allB sc l v && tgNames C allB sc [] []) = true from q3)
        obtain ⟨t1, t2, t3, t4⟩ := G.tgt (fun x _ => G.fn rfl x) q1
        obtain ⟨_, u2, _, _⟩ := G.tgt (fun x _ => G.fn rfl x) q2
        obtain ⟨_, u3, _, _⟩ := G.tgt (fun x _ => G.fn rfl x) q3
        exact ps_par3M G.calm t1 t2 u2 u3 (fun z => by subst z; rw [t2] at u2; exact ne1 (Option.some.inj u2)) (fun z => by subst z; rw [t2] at u3; exact ne2 (Option.some.inj u3)) (fun z => by subst z; rw [u2] at u3; exact ne3 (Option.some.inj u3))
          (by rw [G.scq]; exact l1) (by rw [G.scq]; exact l2) (by rw [G.scq]; exact l3) kd s1 rfl
      | [], h1 => cases h1
      | [_], h1 => simp [tgNames] at h1
      | [_, _], h1 => simp [tgNames] at h1
      | _ :: _ :: _ :: _ :: _, h1 => simp [tgNames] at h1
    · cases h4
mutual
theorem chkS_ok : ∀ (sx : S) {X : Cx} {W : WX} {sc : Scope} {st : Stmt}, GX C xr gc X W sc true → PassesOwn (model X.prog X.w) X.A X.env X.xe → chkS C sc sx st = true → PS X st (tS X.K xr W (evS gc sx))
  | .ex x, X, W, sc, st, G, hp, h => by
    simp only [chkS] at h
    split at h
    · simp only [Bool.and_eq_true] at h
      exact ps_exM (chkE_ok x G h.2).ev (swap_of h.1)
    · cases h
  | .asg i x, X, W, sc, st, G, hp, h => by
    simp only [chkS] at h
    split at h
    · simp only [Bool.and_eq_true] at h
      exact asg_ok G h.1.1 h.1.2 h.2
    · cases h
  | .asgT is x, X, W, sc, st, G, hp, h => by
    simp only [chkS] at h
    split at h
    · rename_i ts kt pt e pos
      obtain ⟨h, h4⟩ := Bool.and_eq_true_iff.mp h
      obtain ⟨h, h3⟩ := Bool.and_eq_true_iff.mp h
      obtain ⟨h1, h2⟩ := Bool.and_eq_true_iff.mp h
      exact asgT_ok G h1 h2 h3 h4
    · cases h
  | .asgP ps x, X, W, sc, st, G, hp, h => by
    simp only [chkS] at h
    split at h
    · rename_i ts kt pt e pos
      obtain ⟨h, h4⟩ := Bool.and_eq_true_iff.mp h
      obtain ⟨h, h3⟩ := Bool.and_eq_true_iff.mp h
      obtain ⟨h1, h2⟩ := Bool.and_eq_true_iff.mp h
      obtain ⟨a1, a2⟩ := tgPts_stars h1
      obtain ⟨b1, b2⟩ := asgEach_of (env := X.env) a1
      exact ps_asgPM G.calm (chkE_ok x G h2).ev (tgPts_ok G (fun x _ => G.fn rfl x) h1) (by rw [b1, a2]) b2 (swapS_of h3) (swT_of h4)
    · cases h
  | .aug i o x, X, W, sc, st, G, hp, h => by
    simp only [chkS] at h
    split at h
    · simp only [Bool.and_eq_true] at h
      obtain ⟨⟨h1, h2⟩, h3⟩ := h
      obtain rfl := op_of h2
      obtain ⟨t1, t2, t3, t4⟩ := G.tgt (fun x _ => G.fn rfl x) h1
      exact ps_augM t1 t2 t3 (chkE_ok x G h3).ev t4
    · cases h
  | .setI i k x, X, W, sc, st, G, hp, h => by
    simp only [chkS] at h
    split at h
    · simp only [Bool.and_eq_true] at h
      obtain ⟨⟨⟨⟨h1, h2⟩, h3⟩, h4⟩, h5⟩ := h
      obtain ⟨g1, g2, g3, g4⟩ := G.var h1
      exact ps_setIM (by have := G.un; omega) g1 g2 g3 g4 (chkE_ok x G h5).ev (chkE_ok k G h4).ev (sub_asg h2) (swapS_of h3) rfl
    · cases h
  | .setI2 i k j l x, X, W, sc, st, G, hp, h => by
    simp only [chkS] at h
    split at h
    · simp only [Bool.and_eq_true] at h
      obtain ⟨⟨⟨⟨⟨⟨⟨h1, h2⟩, h3⟩, h4⟩, h5⟩, h6⟩, h7⟩, h8⟩ := h
      obtain ⟨a1, a2, a3, a4⟩ := G.var h1
      obtain ⟨b1, b2, b3, b4⟩ := G.var h2
      exact ps_setI2M G.calm (by have := G.un; omega) a1 a2 a3 a4 b1 b2 b3 b4 (chkE_ok x G h8).ev (chkE_ok k G h6).ev (chkE_ok l G h7).ev (sub_asg h3) (sub_asg h4) (swapS_of h5)
    · cases h
  | .whl c b, X, W, sc, st, G, hp, h => by
    simp only [chkS] at h
    split at h
    · simp only [Bool.and_eq_true] at h
      obtain ⟨⟨h1, h2⟩, h3⟩ := h
      exact ps_whlM hp ((chkE_ok c G h2).t h1) (chkSs_ok b G hp h3)
    · cases h
  | .stuck, X, W, sc, st, G, hp, h => ps_no fun _ _ => rfl
  | .ifs c a b, X, W, sc, st, G, hp, h => by
    simp only [chkS] at h
    split at h
    · simp only [Bool.and_eq_true] at h
      obtain ⟨⟨⟨h1, h2⟩, h3⟩, h4⟩ := h
      exact ps_ifM ((chkE_ok c G h2).t h1) (chkSs_ok a G hp h3) (chkSs_ok b G hp h4)
    · cases h
  | .for_ tg sr b, X, W, sc, st, G, hp, h => by
    simp only [chkS] at h
    split at h
    · simp only [Bool.and_eq_true] at h
      obtain ⟨⟨⟨h1, h2⟩, h3⟩, h4⟩ := h
      exact ps_forM hp G.calm (chkSrc_ok sr G h2) (chkTg_ok G (fun x _ => G.fn rfl x) h3) (chkSs_ok b G hp h4) (fold_of h1 X.env)
    · cases h
  | .ret x, X, W, sc, st, G, hp, h => by
    simp only [chkS] at h
    split at h
    · rename_i e pos
      by_cases hv : ∃ i, x = .var i
      · obtain ⟨i, rfl⟩ := hv
        cases e <;> first
          | (cases h; done)
          | skip
        obtain ⟨g1, g2, g3, g4⟩ := G.var h
        exact ps_retV g1 g2 g3 g4
      · have e2 : evS gc (.ret x) = fun r cs => (evE gc x r cs).bind fun v r cs => .ok (.rt v) r cs := by
          cases x <;> first
            | rfl
            | exact absurd ⟨_, rfl⟩ hv
        rw [e2]
        exact ps_retM (chkE_ok x G h).ev
    · cases h
  | .retN, X, W, sc, st, G, hp, h => by
    simp only [chkS] at h
    split at h
    · exact ps_retNM
    · cases h
  | .brk, X, W, sc, st, G, hp, h => by
    simp only [chkS] at h
    split at h
    · exact ps_brkM
    · cases h
  | .cont, X, W, sc, st, G, hp, h => by
    simp only [chkS] at h
    split at h
    · exact ps_contM
    · cases h
  | .pass, X, W, sc, st, G, hp, h => by
    simp only [chkS] at h
    split at h
    · exact ps_passM
    · exact ps_docM
    · cases h
theorem chkSs_ok : ∀ (ss : Ss) {X : Cx} {W : WX} {sc : Scope} {l : List Stmt}, GX C xr gc X W sc true → PassesOwn (model X.prog X.w) X.A X.env X.xe → chkSs C sc ss l = true → PSs X l (tS X.K xr W (evSs gc ss))
  | .nil, X, W, sc, l, G, hp, h => by
    cases l with
    | nil => exact pss_nilM
    | cons _ _ => cases h
  | .cons s ss, X, W, sc, l, G, hp, h => by
    cases l with
    | nil => cases h
    | cons st l =>
      obtain ⟨a, b⟩ := Bool.and_eq_true_iff.mp (show (chkS C sc s st && chkSs C sc ss l) = true from h)
      exact pss_consM (chkS_ok s G hp a) (chkSs_ok ss G hp b)
end
/-! ### the table of a law's defs -/
structure Fd where
  fi : Fi
  qual : Str
  args : Arguments
  body : List Stmt
  scope : Scope
  N : List Str
  fn : Fn
/-- what is known of a def of the table in a program that has begun -/
structure FdOk (K : PySem.W.Frag) (mg : Str → Option Value) (d : Fd) : Prop where
  sc : FnScope d.N (d.N.take d.fn.np) d.scope
  ns : d.fn.ns = d.N.length
  np : d.fn.np ≤ d.N.length
  ex : ∃ fa fd dvs, FunD K d.fi.name d.qual d.args d.body d.scope dvs [] fa fd ∧ mg d.fi.name = some (.ref fa) ∧ ∀ sh ∈ d.fi.shapes, BindSh K fd (d.N.take d.fn.np) sh.1 sh.2.1 sh.2.2
def ckOf (T : List Fd) (gl : List (Str × Cst)) (hid : List Str) (d : Fd) : Ck := ⟨d.N, T.map (·.fi), gl, hid⟩
/-- the main fact: what the small form computes, the def does -/
theorem sound {P : Program} {wd : World} {K : PySem.W.Frag} {mg : Str → Option Value} {base : Heap} {T : List Fd} {gl : List (Str × Cst)} {hid : List Str} (hT : ∀ d ∈ T, FdOk K mg d) (hh : ∀ x ∈ hid, mg x = none) (hg : ∀ x c, (x, c) ∈ gl → ∃ u, mg x = some u ∧ RelV c.v u)
    (hc : ∀ d ∈ T, chkSs (ckOf T gl hid d) d.scope d.fn.body d.body = true) :
    ∀ n f d, T[f]? = some d → ∀ fa fd dvs, FunD K d.fi.name d.qual d.args d.body d.scope dvs [] fa fd → FnG P wd K mg base (L2.CX P wd) n fa fd (d.N.take d.fn.np) (spOf K xr d.fn.np (dCall (fun i => (T[i]?).map (·.fn)) n f)) := by
  intro n
  induction n with
  | zero =>
    intro f d hf fa fd dvs F
    have hd := hT d (List.mem_of_getElem? hf)
    rw [dCall_0]
    exact ⟨fun vs H Q E ⟨w, as, cs, hl, _, _, _, hm⟩ => hm.elim, fun A outer s H args us vs Q E _ _ _ _ _ ⟨w, as, cs, hl, _, _, _, hm⟩ => hm.elim⟩
  | succ n ih =>
    intro f d hf fa fd dvs F
    have hd := hT d (List.mem_of_getElem? hf)
    have e : dCall (fun i => (T[i]?).map (·.fn)) (n + 1) f = fun vs cs => runF (dCall (fun i => (T[i]?).map (·.fn)) n) d.fn vs cs := by
      funext vs cs
      rw [dCall_s]
      show (match (T[f]?).map (·.fn) with | some fn => runF (dCall _ n) fn vs cs | none => .no) = _
      rw [hf]
      rfl
    rw [e]
    refine fn_ok (N := d.N) F hd.sc (by rw [List.length_take]; exact Nat.min_eq_left hd.np) hd.ns fun X x1 x2 x3 x4 x5 x6 x7 x8 hy hr hfn hp W tk => ?_
    subst x1 x2 x3 x4 x5
    refine chkSs_ok (C := ckOf T gl hid d) (sc := d.scope) d.fn.body ⟨x6, hd.sc.nd, x7, x8, hd.sc.kind, ?_, hy, tk, fun _ => hfn, hh, hg, fun g fi hg => ?_⟩ hp (hc d (List.mem_of_getElem? hf))
    · have := hr.un
      omega
    · have hg : (T.map (·.fi))[g]? = some fi := hg
      rw [List.getElem?_map] at hg
      cases q : T[g]? with
      | none => rw [q] at hg; cases hg
      | some d2 =>
        rw [q] at hg
        cases hg
        have hd2 := hT d2 (List.mem_of_getElem? q)
        obtain ⟨fa2, fd2, dvs2, F2, hm, hb⟩ := hd2.ex
        exact ⟨d2.fn.np, fa2, fd2, _, n, ih g d2 q fa2 fd2 dvs2 F2, hr, by rw [List.length_take]; exact Nat.min_eq_left hd2.np, hm, F2.kp, hb⟩
end Vi

namespace Vi
open PySem PySem.Spec PyProof.Rows L2
/-! ### how calls bind, def by def -/
/-- for all values of a list of n -/
def FA : Nat → (List Value → Prop) → Prop
  | 0, P => P []
  | n + 1, P => ∀ a, FA n fun l => P (a :: l)
theorem FA.use : ∀ {n : Nat} {P : List Value → Prop}, FA n P → ∀ l, l.length = n → P l
  | 0, P, h, l, e => by
    cases l with
    | nil => exact h
    | cons _ _ => cases e
  | n + 1, P, h, l, e => by
    cases l with
    | nil => cases e
    | cons a l => exact FA.use (h a) l (by simpa using e)
def ordW (us its : List Value) (off : Nat) : Nat → List A0 → List Value
  | _, [] => []
  | i, .at k :: os => us.getD k .none :: ordW us its off (i + 1) os
  | i, .df c :: os => its.getD (i - off) .none :: ordW us its off (i + 1) os
def ordB (n : Nat) (dvs : List V) (off : Nat) : Nat → List A0 → Bool
  | _, [] => true
  | i, .at k :: os => decide (k < n) && ordB n dvs off (i + 1) os
  | i, .df c :: os => decide (dvs[i - off]? = some c.v) && ordB n dvs off (i + 1) os
theorem ord_vals {us its : List Value} {vs dvs : List V} (r : Vals vs us) (rd : Vals dvs its) {off : Nat} : ∀ {os : List A0} {i : Nat}, ordB us.length dvs off i os = true → Vals (ordV vs os) (ordW us its off i os)
  | [], _, _ => .nil
  | .at k :: os, i, h => by
    obtain ⟨a, b⟩ := Bool.and_eq_true_iff.mp h
    have a : k < us.length := of_decide_eq_true a
    have hv : k < vs.length := by rw [r.length]; exact a
    obtain ⟨u, e1, e2⟩ := r.get (List.getElem?_eq_getElem hv)
    refine .cons ?_ (ord_vals r rd b)
    rw [List.getD_eq_getElem?_getD, List.getD_eq_getElem?_getD, e1, List.getElem?_eq_getElem hv]
    exact e2
  | .df c :: os, i, h => by
    obtain ⟨a, b⟩ := Bool.and_eq_true_iff.mp h
    have a : dvs[i - off]? = some c.v := of_decide_eq_true a
    obtain ⟨u, e1, e2⟩ := rd.get a
    refine .cons ?_ (ord_vals r rd b)
    rw [List.getD_eq_getElem?_getD, e1]
    exact e2
theorem ordW_len {us its : List Value} {off : Nat} : ∀ {os : List A0} {i : Nat}, (ordW us its off i os).length = os.length
  | [], _ => rfl
  | .at k :: os, i => congrArg Nat.succ ordW_len
  | .df c :: os, i => congrArg Nat.succ ordW_len
section
variable {K : PySem.W.Frag} {x qual : Str} {params : Arguments} {body : List Stmt} {scope : Scope} {dvs : List V} {f : Addr} {fd : FuncData} {ps ks : List Str} {n : Nat} {ord : List A0}
/-- no defaults -/
theorem BindSh.ofA (F : FunD K x qual params body scope [] [] f fd) (nd : ordNd ord = true) (hl : ord.length = ps.length) (ho : ordB (n + ks.length) [] 0 0 ord = true)
    (h : ∀ (kV doc pm : Value) (an : Option Addr) (cdv ct : Value), FA n fun us => FA ks.length fun ws => bindArgs (PySem.W.fnOf x qual params body scope .none kV doc pm an cdv ct) ⟨us, ks.zip ws⟩ = pure (ps.zip (ordW (us ++ ws) [] 0 0 ord))) : BindSh K fd ps n ks ord := by
  obtain ⟨oc, od, dV, kV, doc, pm, an, cdv, ct, osl, rfl, lk, hcd, hD, hK⟩ := F.ex
  rcases hD with ⟨_, rfl⟩ | ⟨e, _⟩
  · refine ⟨nd, fun s us ws X h1 h2 => ⟨ordW (us ++ ws) [] 0 0 ord, .of_eq (((h kV doc pm an cdv ct).use us h1).use ws h2), by rw [ordW_len, hl], fun vs ds r1 r2 => ?_⟩⟩
    exact ord_vals (r1.append r2) (.nil : Vals [] []) (by rw [List.length_append, h1, h2]; exact ho)
  · exact absurd rfl e
/-- with defaults, the last ones of the parameters -/
theorem BindSh.ofB (F : FunD K x qual params body scope dvs [] f fd) (hd : dvs ≠ []) (nd : ordNd ord = true) (hl : ord.length = ps.length) (off : Nat) (ho : ordB (n + ks.length) dvs off 0 ord = true)
    (h : ∀ (T : Addr) (kV doc pm : Value) (an : Option Addr) (cdv ct : Value), FA n fun us => FA ks.length fun ws => FA dvs.length fun its =>
      ∃ k, bindArgs (PySem.W.fnOf x qual params body scope (.ref T) kV doc pm an cdv ct) ⟨us, ks.zip ws⟩ = seqItems? (.ref T) >>= k ∧ k (some its.toArray) = pure (ps.zip (ordW (us ++ ws) its off 0 ord))) : BindSh K fd ps n ks ord := by
  obtain ⟨oc, od, dV, kV, doc, pm, an, cdv, ct, osl, rfl, lk, hcd, hD, hK⟩ := F.ex
  rcases hD with ⟨e, _⟩ | ⟨_, T, o, its, m, rfl, lT, oT, rT⟩
  · exact absurd e hd
  · refine ⟨nd, fun s us ws X h1 h2 => ⟨ordW (us ++ ws) its off 0 ord, ?_, by rw [ordW_len, hl], fun vs ds r1 r2 => ?_⟩⟩
    · obtain ⟨k, e1, e2⟩ := (((h T kV doc pm an cdv ct).use us h1).use ws h2).use its rT.length.symm
      refine BindsTo.of_looks fun M => ?_
      rw [e1]
      exact looks_items X lT oT (.of_pure e2)
    · exact ord_vals (r1.append r2) rT (by rw [List.length_append, h1, h2]; exact ho)
end
/-! ### a law -/
/-- a def of a law: its defaults too -/
structure Ld where
  d : Fd
  dv : List He.Dv
def Ld.defD (l : Ld) : He.DefD := ⟨(l.d.fi.name, none), l.d.fi.name, l.d.qual, l.d.args, l.d.body, l.d.scope, l.dv, []⟩
def Ld.ps (l : Ld) : List Str := l.d.N.take l.d.fn.np
/-- what is to be seen of a def of the text -/
structure LdOk (l : Ld) : Prop where
  sc : FnScope l.d.N l.ps l.d.scope
  ns : l.d.fn.ns = l.d.N.length
  np : l.d.fn.np ≤ l.d.N.length
  sh : ∀ (K : PySem.W.Frag) (fa : Addr) (fd : FuncData), FunD K l.d.fi.name l.d.qual l.d.args l.d.body l.d.scope (l.defD.dvs K) [] fa fd → ∀ sh ∈ l.d.fi.shapes, BindSh K fd l.ps sh.1 sh.2.1 sh.2.2
/-- a constant of the module -/
def cfa : Str × Cst → He.Fa
  | (x, .int i) => .int x i
  | (x, .str s) => .str x s
  | (x, _) => .free x
structure Lw where
  ls : List Ld
  gl : List (Str × Cst)
  hid : List Str
def Lw.fa (L : Lw) : List He.Fa := L.ls.map (fun l => .glo l.d.fi.name) ++ (L.gl.map cfa ++ L.hid.map .free)
def Lw.fn (L : Lw) : List He.DefD := L.ls.map Ld.defD
def Lw.T (L : Lw) : List Fd := L.ls.map (·.d)
def Lw.tab (L : Lw) : Nat → Option Fn := fun i => (L.T[i]?).map (·.fn)
def glOk : Str × Cst → Bool
  | (_, .int _) => true
  | (_, .str _) => true
  | _ => false
def xr0 : XR := fun _ _ _ _ _ => False
theorem Lw.facts {P : Program} {w : World} {K : PySem.W.Frag} {h : Heap} {mg : Str → Option Value} {L : Lw} (hl : ∀ l ∈ L.ls, LdOk l) (hg : L.gl.all glOk = true) (hc : ∀ l ∈ L.ls, chkSs (ckOf L.T L.gl L.hid l.d) l.d.scope l.d.fn.body l.d.body = true)
    (X : K.In h) (G : h.Ns mainGlobals mg) (c : He.SaysD L.fa L.fn K) (n i : Nat) (l : Ld) (hi : L.ls[i]? = some l) {f : Addr} (hf : mg l.d.fi.name = some (.ref f)) :
    ∃ fd : FuncData, FunD K l.d.fi.name l.d.qual l.d.args l.d.body l.d.scope (l.defD.dvs K) [] f fd ∧ ∀ base : Heap, FnG P w K mg base (L2.CX P w) n f fd l.ps (spOf K xr0 l.d.fn.np (dCall L.tab n i)) := by
  have fact : ∀ f ∈ L.fa, f.ok K = true := fun f hf => by
    obtain ⟨i, hi, e⟩ := List.mem_iff_getElem.mp hf
    exact c.fact i (f := f) (by rw [List.getElem?_eq_getElem hi, e])
  have defs : ∀ l ∈ L.ls, ∃ fd, FunD K l.d.fi.name l.d.qual l.d.args l.d.body l.d.scope (l.defD.dvs K) [] (He.fAd K (l.d.fi.name, none)) fd ∧ mg l.d.fi.name = some (.ref (He.fAd K (l.d.fi.name, none))) := fun l hl => by
    obtain ⟨i, hi, e⟩ := List.mem_iff_getElem.mp hl
    obtain ⟨fd, F⟩ := c.def_ i (d := l.defD) (by
      show (L.ls.map Ld.defD)[i]? = _
      rw [List.getElem?_map, List.getElem?_eq_getElem hi, e]
      rfl)
    exact ⟨fd, F, He.glo_ok X G (fact _ (List.mem_append_left _ (List.mem_map.mpr ⟨l, hl, rfl⟩)))⟩
  have hT : ∀ d ∈ L.T, FdOk K mg d := fun d hd => by
    obtain ⟨l, hm, rfl⟩ := List.mem_map.mp hd
    obtain ⟨fd, F, hmg⟩ := defs l hm
    have q := hl l hm
    exact ⟨q.sc, q.ns, q.np, _, fd, _, F, hmg, q.sh K _ fd F⟩
  have hm := List.mem_of_getElem? hi
  obtain ⟨fd, F, hmg⟩ := defs l hm
  rw [hmg] at hf
  cases hf
  refine ⟨fd, F, fun base => ?_⟩
  have := sound (xr := xr0) (P := P) (wd := w) (K := K) (mg := mg) (base := base) (T := L.T) (gl := L.gl) (hid := L.hid) hT (fun x hx => He.free_ok X G (fact _ (List.mem_append_right _ (List.mem_append_right _ (List.mem_map.mpr ⟨x, hx, rfl⟩)))))
    (fun x cc hx => by
      have hcf := fact (cfa (x, cc)) (List.mem_append_right _ (List.mem_append_left _ (List.mem_map.mpr ⟨_, hx, rfl⟩)))
      have hgo := List.all_eq_true.mp hg _ hx
      cases cc with
      | non => cases hgo
      | bl _ => cases hgo
      | int i =>
        obtain ⟨t, e⟩ := He.int_ok X G (x := x) (i := i) hcf
        exact ⟨_, e, t, rfl⟩
      | str s =>
        obtain ⟨t, e⟩ := He.str_ok X G (x := x) (z := s) hcf
        exact ⟨_, e, t, rfl⟩)
    (fun d hd => by
      obtain ⟨l, hm, rfl⟩ := List.mem_map.mp hd
      exact hc l hm) n i l.d (by show (L.ls.map (·.d))[i]? = _; rw [List.getElem?_map, hi]; rfl) _ fd _ F
  exact this
/-- exceptions, whatever the world -/
def CXA (P : Program) : CXT := fun outer H s E e s' => ∃ w, L2.CX P w outer H s E e s'
theorem FnG.any {P : Program} {w : World} {K : PySem.W.Frag} {mg : Str → Option Value} {base : Heap} {k : Nat} {f : Addr} {fd : FuncData} {ps : List Str} {sp : Sp} (F : FnG P w K mg base (L2.CX P w) k f fd ps sp) : FnG P w K mg base (CXA P) k f fd ps sp := F.weak fun _ _ _ _ _ _ h => ⟨w, h⟩
theorem CXA.no {P : Program} (H : Hp) (s : Shared) (e : Value) (s' : Shared) (h : CXA P [] H s (fun _ _ _ => False) e s') : False := by
  obtain ⟨w, a, B, H', cls, d, _, _, _, _, _, _, _, z⟩ := h
  exact z
/-- what the small form is to come to -/
def Tells (T : Nat → Option Fn) (n i : Nat) : Prop := ∀ ns : List Int, ns.length ≤ 63 → ∃ outs cs, dCall T n i [.val (.scr (ns.map .int))] [] = .ok (.val (.bl true)) outs cs
theorem reps_script {K : PySem.W.Frag} {w : Wd} : ∀ {ns : List Int}, Reps K w (ns.map .int) (ns.map V.int)
  | [] => rfl
  | n :: ns => ⟨_, _, rfl, rfl, reps_script⟩
theorem Tells.sp {T : Nat → Option Fn} {n i : Nat} (h : Tells T n i) {K : PySem.W.Frag} {H : Hp} {a : Addr} {ns : List Int} (hl : ns.length ≤ 63) (hs : SqL K H a (ns.map V.int)) : spOf K xr0 1 (dCall T n i) [.ref a] H (fun v _ => v = .bl true) fun _ _ _ => False := by
  obtain ⟨outs, cs, e⟩ := h ns hl
  refine ⟨⟨H, []⟩, [.val (.scr (ns.map .int))], [], rfl, ⟨rfl, fun i d e => ?_, fun i c e => ?_, fun i j c c' p e => ?_⟩, Same.refl _, ⟨rfl, List.nodup_nil, fun n c p e => by simp at e⟩, ?_⟩
  · match i, e with
    | 0, e =>
      cases e
      exact ⟨_, rfl, a, _, rfl, hs, reps_script⟩
    | i + 1, e => simp at e
  · match i, e with
    | 0, e => cases e
    | i + 1, e => simp at e
  · match i, e with
    | 0, e => cases e
    | i + 1, e => simp at e
  · rw [e]
    exact fun w' H' x _ hx => hx
end Vi

namespace Vi
open PySem L2
/-! ### reading the small form: what is wanted of an end, backwards -/
def Rc.Q (m : Rc) (k : Rv → List Rv → List C → Prop) : Prop := match m with
  | .ok v o cs => k v o cs
  | _ => False
theorem Rc.Q.mono {m : Rc} {k k' : Rv → List Rv → List C → Prop} (h : m.Q k) (hk : ∀ v o cs, k v o cs → k' v o cs) : m.Q k' := by
  cases m <;> first
    | exact hk _ _ _ h
    | exact h
def PF : Ex → List Sl → List C → Prop := fun _ _ _ => False
section
variable {α β : Type} {k : α → List Sl → List C → Prop} {e : Ex → List Sl → List C → Prop} {r : List Sl} {cs : List C}
theorem P_bind {m : Res β} {f : β → List Sl → List C → Res α} : (m.bind f).P k e = m.P (fun a r cs => (f a r cs).P k e) e := by cases m <;> rfl
theorem P_ok {a : α} : (Res.ok a r cs).P k e = k a r cs := rfl
theorem P_no : (Res.no : Res α).P k e = False := rfl
theorem b_ok {a : β} {f : β → List Sl → List C → Res α} : (Res.ok a r cs).bind f = f a r cs := rfl
theorem b_no {f : β → List Sl → List C → Res α} : (Res.no : Res β).bind f = .no := rfl
theorem l_some {a : α} : liftO (some a) r cs = .ok a r cs := rfl
theorem l_none : (liftO (none : Option α) r cs) = .no := rfl
theorem P_lift {o : Option α} (a : α) (h : o = some a) (hk : k a r cs) : (liftO o r cs).P k e := by
  rw [h]; exact hk
theorem P_ite {c : Prop} [Decidable c] {a b : Res α} : (if c then a else b).P k e = if c then a.P k e else b.P k e := by split <;> rfl
theorem frz_val {d : D} : (Rv.val d).frz r cs = .ok d r cs := rfl
theorem frz_lst {ds : List D} : (Rv.own (.lst ds)).frz r cs = .ok (.lst ds) r cs := rfl
theorem frz_dct {ks : List Key} {ds : List D} : (Rv.own (.dct ks ds)).frz r cs = .ok (.dct ks ds) r cs := rfl
end
theorem run_Q {g : Gc} {fn : Fn} {vs : List Rv} {cs : List C} {k : Rv → List Rv → List C → Prop} (hl : vs.length = fn.np) (h : (evSs g fn.body (vs.map inOf ++ List.replicate (fn.ns - fn.np) .no) cs).P (fun fl r cs => match fl with
    | .rt v => k v ((r.take fn.np).map outOf) cs
    | .nx => k (.val .non) ((r.take fn.np).map outOf) cs
    | _ => False) PF) : (runF g fn vs cs).Q k := by
  unfold runF
  rw [if_pos hl]
  cases q : evSs g fn.body (vs.map inOf ++ List.replicate (fn.ns - fn.np) .no) cs with
  | no => rw [q] at h; exact h
  | ex _ _ _ => rw [q] at h; exact h
  | ok fl r cs =>
    rw [q] at h
    cases fl <;> exact h
theorem call_Q {T : Nat → Option Fn} {n f : Nat} {fn : Fn} {vs : List Rv} {cs : List C} {k : Rv → List Rv → List C → Prop} (hf : T f = some fn) (hl : vs.length = fn.np) (h : (evSs (dCall T n) fn.body (vs.map inOf ++ List.replicate (fn.ns - fn.np) .no) cs).P (fun fl r cs => match fl with
    | .rt v => k v ((r.take fn.np).map outOf) cs
    | .nx => k (.val .non) ((r.take fn.np).map outOf) cs
    | _ => False) PF) : (dCall T (n + 1) f vs cs).Q k := by
  rw [dCall_s]
  show (match T f with | some fn => runF (dCall T n) fn vs cs | none => .no).Q k
  rw [hf]
  exact run_Q hl h
theorem do_P {g : Gc} {f : Nat} {as : List Am} {r : List Sl} {cs : List C} {vs : List Rv} {k : Rv → List Sl → List C → Prop} {e : Ex → List Sl → List C → Prop} (hn : nodupN (amSlots as) = true) (ha : amArgs r as = some vs) (h : (g f vs cs).Q fun v outs cs => k v (putBack as outs r) cs) : (doCall g f as r cs).P k e := by
  unfold doCall
  rw [if_pos hn, ha]
  dsimp only
  cases q : g f vs cs with
  | ok v o cs => rw [q] at h; exact h
  | ex _ _ _ => rw [q] at h; exact h.elim
  | no => rw [q] at h; exact h.elim
/-- statements, one by one -/
theorem ss_cons {g : Gc} {s : S} {ss : Ss} {r : List Sl} {cs : List C} {k : Fl → List Sl → List C → Prop} {e : Ex → List Sl → List C → Prop} (h : (evS g s r cs).P (fun fl r cs => match fl with
    | .nx => (evSs g ss r cs).P k e
    | fl => k fl r cs) e) : (evSs g (.cons s ss) r cs).P k e := by
  show ((evS g s r cs).bind fun fl r cs => match fl with | .nx => evSs g ss r cs | fl => .ok fl r cs).P k e
  rw [P_bind]
  exact h.mono (fun fl r cs z => by cases fl <;> exact z) fun _ _ _ z => z
theorem ss_nil {g : Gc} {r : List Sl} {cs : List C} {k : Fl → List Sl → List C → Prop} {e : Ex → List Sl → List C → Prop} (h : k .nx r cs) : (evSs g .nil r cs).P k e := h
/-- a loop with a word -/
theorem for_P {bd : D → List Sl → Option (List Sl)} {body : List Sl → List C → Res Fl} {e : Ex → List Sl → List C → Prop} {k : Fl → List Sl → List C → Prop} (I : Nat → List Sl → List C → Prop) : ∀ {ds : List D} {i : Nat} {r : List Sl} {cs : List C}, I i r cs →
    (∀ j d r cs, ds[j]? = some d → I (i + j) r cs → ∃ r1, bd d r = some r1 ∧ (body r1 cs).P (fun fl r cs => match fl with
      | .nx => I (i + j + 1) r cs
      | .ct => I (i + j + 1) r cs
      | .bk => k .nx r cs
      | .rt v => k (.rt v) r cs) e) → (∀ r cs, I (i + ds.length) r cs → k .nx r cs) → (forL bd body ds r cs).P k e
  | [], i, r, cs, h0, hs, hd => hd r cs h0
  | d :: ds, i, r, cs, h0, hs, hd => by
    obtain ⟨r1, e1, e2⟩ := hs 0 d r cs rfl h0
    show ((liftO (bd d r) r cs).bind fun r _ _ => (body r cs).bind fun fl r cs => match fl with
      | .nx => forL bd body ds r cs
      | .ct => forL bd body ds r cs
      | .bk => .ok .nx r cs
      | .rt v => .ok (.rt v) r cs).P k e
    rw [e1, l_some, b_ok, P_bind]
    refine e2.mono (fun fl r cs z => ?_) fun _ _ _ z => z
    have rec_ : I (i + 1) r cs → (forL bd body ds r cs).P k e := fun z => for_P I (i := i + 1) z (fun j d r cs q z => by
      have := hs (j + 1) d r cs (by simpa using q) (by rw [show i + (j + 1) = i + 1 + j by omega]; exact z)
      rw [show i + (j + 1) + 1 = i + 1 + j + 1 by omega] at this
      exact this) fun r cs z => hd r cs (by rw [List.length_cons, show i + (ds.length + 1) = i + 1 + ds.length by omega]; exact z)
    cases fl with
    | nx => exact rec_ z
    | ct => exact rec_ z
    | bk => exact z
    | rt v => exact z
def forB (tg : Tg) (m : List Sl → List C → Res Fl) (p : List D × List Nat) (r : List Sl) (cs : List C) : Res Fl := unlockR p.2 (forL (bindT tg) m p.1 (lockAll true p.2 r) cs)
/-- for, over what nothing locks -/
theorem for0_P {tg : Tg} {m : List Sl → List C → Res Fl} {ds : List D} {r : List Sl} {cs : List C} {k : Fl → List Sl → List C → Prop} (I : Nat → List Sl → List C → Prop) (h0 : I 0 r cs)
    (hs : ∀ j d r cs, ds[j]? = some d → I j r cs → ∃ r1, bindT tg d r = some r1 ∧ (m r1 cs).P (fun fl r cs => match fl with
      | .nx => I (j + 1) r cs
      | .ct => I (j + 1) r cs
      | .bk => k .nx r cs
      | .rt v => k (.rt v) r cs) PF) (hd : ∀ r cs, I ds.length r cs → k .nx r cs) : (forB tg m (ds, []) r cs).P k PF := by
  have h : (forL (bindT tg) m ds r cs).P k PF := for_P I (i := 0) h0 (fun j d r cs q hi => by
    rw [Nat.zero_add] at hi ⊢
    exact hs j d r cs q hi) fun r cs hi => hd r cs (by rw [Nat.zero_add] at hi; exact hi)
  show (unlockR [] (forL (bindT tg) m ds r cs)).P k PF
  cases q : forL (bindT tg) m ds r cs <;> rw [q] at h <;> exact h
/-! ### comprehensions -/
def lcB (tg : Tg) (mt : List Sl → List C → Res Bool) (me : List Sl → List C → Res D) (vs : List Nat) (p : List D × List Nat) (r : List Sl) (cs : List C) : Res Rv :=
  if noOwn vs r then unlockR p.2 ((noEx (compL (fun d r => bindT tg d (wipeS vs r)) mt me p.1 (lockAll true p.2 r) cs [])).bind fun ds r' cs => .ok (.own (.lst ds)) (restS vs r r') cs) else .no
theorem lc_P {src : List Sl → List C → Res (List D × List Nat)} {tg : Tg} {mt : List Sl → List C → Res Bool} {me : List Sl → List C → Res D} {vs : List Nat} {r : List Sl} {cs : List C} {k : Rv → List Sl → List C → Prop} {e : Ex → List Sl → List C → Prop} :
    (lcM src tg mt me vs r cs).P k e = (src r cs).P (fun p r cs => (lcB tg mt me vs p r cs).P k e) e := P_bind
theorem comp_P {tg : Tg} {cd : List Sl → List C → Res Bool} {el : List Sl → List C → Res D} {vs : List Nat} {wr : List Sl} {cs0 : List C} (I : List D → List D → Prop) {all : List D} : ∀ {ds : List D} {r : List Sl} {acc dn : List D}, all = dn ++ ds → wipeS vs r = wr → I dn acc →
    (∀ d dn acc rest, all = dn ++ d :: rest → I dn acc → ∃ r1, bindT tg d wr = some r1 ∧ (cd r1 cs0).P (fun b r2 cs => cs = cs0 ∧ if b = true then (el r2 cs0).P (fun x r3 cs => cs = cs0 ∧ wipeS vs r3 = wr ∧ acc.length < 16777216 ∧ I (dn ++ [d]) (acc ++ [x])) PF else wipeS vs r2 = wr ∧ I (dn ++ [d]) acc) PF) →
    (compL (fun d r => bindT tg d (wipeS vs r)) cd el ds r cs0 acc).P (fun a r' cs => cs = cs0 ∧ wipeS vs r' = wr ∧ I (dn ++ ds) a) PF
  | [], r, acc, dn, ha, hw, h0, hs => ⟨rfl, hw, by rw [List.append_nil]; exact h0⟩
  | d :: ds, r, acc, dn, ha, hw, h0, hs => by
    obtain ⟨r1, e1, e2⟩ := hs d dn acc ds ha h0
    show ((liftO (bindT tg d (wipeS vs r)) r cs0).bind fun r _ _ => (cd r cs0).bind fun b r cs => match b with
      | true => (el r cs).bind fun x r cs => if acc.length < sizeLine then compL (fun d r => bindT tg d (wipeS vs r)) cd el ds r cs (acc ++ [x]) else .no
      | false => compL (fun d r => bindT tg d (wipeS vs r)) cd el ds r cs acc).P _ PF
    rw [hw, e1, l_some, b_ok, P_bind]
    refine e2.mono (fun b r2 cs z => ?_) fun _ _ _ z => z
    obtain ⟨rfl, z⟩ := z
    have ea : ∀ l, dn ++ [d] ++ l = dn ++ d :: l := fun l => by simp
    cases b with
    | false =>
      obtain ⟨z1, z2⟩ := z
      have := comp_P I (ds := ds) (dn := dn ++ [d]) (by rw [ea]; exact ha) z1 z2 hs
      rw [ea] at this
      exact this
    | true =>
      have z : (el r2 cs).P _ PF := z
      show ((el r2 cs).bind _).P _ PF
      rw [P_bind]
      refine z.mono (fun x r3 cs' z => ?_) fun _ _ _ z => z
      obtain ⟨rfl, z1, z2, z3⟩ := z
      rw [if_pos (show acc.length < sizeLine from z2)]
      have := comp_P I (ds := ds) (dn := dn ++ [d]) (by rw [ea]; exact ha) z1 z3 hs
      rw [ea] at this
      exact this
theorem lcB_P {tg : Tg} {cd : List Sl → List C → Res Bool} {el : List Sl → List C → Res D} {vs : List Nat} {p : List D × List Nat} {r wr : List Sl} {cs : List C} {k : Rv → List Sl → List C → Prop} {e : Ex → List Sl → List C → Prop} (I : List D → List D → Prop) (hv : noOwn vs r = true)
    (hfr : ∀ j ∈ p.2, ∃ io c, r[j]? = some (.own io false c)) (hw : wipeS vs (lockAll true p.2 r) = wr) (h0 : I [] [])
    (hs : ∀ d dn acc rest, p.1 = dn ++ d :: rest → I dn acc → ∃ r1, bindT tg d wr = some r1 ∧ (cd r1 cs).P (fun b r2 cs' => cs' = cs ∧ if b = true then (el r2 cs).P (fun x r3 cs' => cs' = cs ∧ wipeS vs r3 = wr ∧ acc.length < 16777216 ∧ I (dn ++ [d]) (acc ++ [x])) PF else wipeS vs r2 = wr ∧ I (dn ++ [d]) acc) PF)
    (hk : ∀ a, I p.1 a → k (.own (.lst a)) r cs) : (lcB tg cd el vs p r cs).P k e := by
  unfold lcB
  rw [if_pos hv]
  have h := comp_P (tg := tg) (cd := cd) (el := el) (cs0 := cs) I (dn := []) rfl hw h0 hs
  cases q : compL (fun d r => bindT tg d (wipeS vs r)) cd el p.1 (lockAll true p.2 r) cs [] with
  | no => rw [q] at h; exact h.elim
  | ex _ _ _ => rw [q] at h; exact h.elim
  | ok a r' cs' =>
    rw [q] at h
    obtain ⟨rfl, h2, h3⟩ := h
    show k (.own (.lst a)) (lockAll false p.2 (restS vs r r')) cs'
    have hl : r.length = r'.length := by
      have := congrArg List.length (hw.trans h2.symm)
      rw [wipeS_len, wipeS_len, lockAll_len] at this
      exact this
    have e1 : restS vs r r' = lockAll true p.2 r := by
      apply List.ext_getElem?
      intro j
      by_cases hj : j ∈ vs
      · rw [restS_in hj hl]
        obtain ⟨x, q1, q2, _⟩ := noOwn_at hv hj
        rw [q1, lockAll_oth q2 q1]
      · rw [restS_out hj, ← wipeS_at (vs := vs) hj, h2, ← hw, wipeS_at hj]
    have e2 : lockAll false p.2 (lockAll true p.2 r) = r := by
      apply List.ext_getElem?
      intro j
      by_cases hl : j < r.length
      · have hj := List.getElem?_eq_getElem hl
        generalize hx : r[j] = x at hj
        cases x with
        | no => rw [lockAll_oth rfl (lockAll_oth rfl hj), hj]
        | val io d => rw [lockAll_oth rfl (lockAll_oth rfl hj), hj]
        | own io lk c =>
          rw [lockAll_own (lockAll_own hj), hj]
          by_cases hm : j ∈ p.2
          · obtain ⟨io', c', q⟩ := hfr j hm
            rw [hj] at q
            cases q
            rw [if_pos hm]
          · rw [if_neg hm, if_neg hm]
      · rw [List.getElem?_eq_none (by rw [lockAll_len, lockAll_len]; omega), List.getElem?_eq_none (by omega)]
    rw [e1, e2]
    exact hk a (by simpa using h3)
theorem restS_wipe {vs : List Nat} {r r' : List Sl} (hl : r.length = r'.length) : restS vs r r' = restS vs r (wipeS vs r') := by
  apply List.ext_getElem?
  intro j
  by_cases hj : j ∈ vs
  · rw [restS_in hj hl, restS_in hj (by rw [wipeS_len]; exact hl)]
  · rw [restS_out hj, restS_out hj, wipeS_at hj]
/-- .. the state may turn -/
theorem compG_P {tg : Tg} {cd : List Sl → List C → Res Bool} {el : List Sl → List C → Res D} {vs : List Nat} (I : Nat → List D → List Sl → List C → Prop) : ∀ {ds : List D} {i : Nat} {r : List Sl} {cs : List C} {acc : List D}, I i acc (wipeS vs r) cs →
    (∀ j d acc wr cs, ds[j]? = some d → I (i + j) acc wr cs → ∃ r1, bindT tg d wr = some r1 ∧ (cd r1 cs).P (fun b r2 cs => if b = true then (el r2 cs).P (fun x r3 cs => acc.length < 16777216 ∧ I (i + j + 1) (acc ++ [x]) (wipeS vs r3) cs) PF else I (i + j + 1) acc (wipeS vs r2) cs) PF) →
    (compL (fun d r => bindT tg d (wipeS vs r)) cd el ds r cs acc).P (fun a r' cs => I (i + ds.length) a (wipeS vs r') cs) PF
  | [], i, r, cs, acc, h0, hs => h0
  | d :: ds, i, r, cs, acc, h0, hs => by
    obtain ⟨r1, e1, e2⟩ := hs 0 d acc _ cs rfl h0
    show ((liftO (bindT tg d (wipeS vs r)) r cs).bind fun r _ _ => (cd r cs).bind fun b r cs => match b with
      | true => (el r cs).bind fun x r cs => if acc.length < sizeLine then compL (fun d r => bindT tg d (wipeS vs r)) cd el ds r cs (acc ++ [x]) else .no
      | false => compL (fun d r => bindT tg d (wipeS vs r)) cd el ds r cs acc).P _ PF
    rw [e1, l_some, b_ok, P_bind]
    refine e2.mono (fun b r2 cs z => ?_) fun _ _ _ z => z
    have hs' : ∀ j d acc wr cs, ds[j]? = some d → I (i + 1 + j) acc wr cs → ∃ r1, bindT tg d wr = some r1 ∧ (cd r1 cs).P (fun b r2 cs => if b = true then (el r2 cs).P (fun x r3 cs => acc.length < 16777216 ∧ I (i + 1 + j + 1) (acc ++ [x]) (wipeS vs r3) cs) PF else I (i + 1 + j + 1) acc (wipeS vs r2) cs) PF := fun j d acc wr cs hj hi => by
      have := hs (j + 1) d acc wr cs (by simpa using hj) (by rw [show i + (j + 1) = i + 1 + j by omega]; exact hi)
      rw [show i + (j + 1) + 1 = i + 1 + j + 1 by omega] at this
      exact this
    have el : ∀ n, i + (n + 1) = i + 1 + n := fun n => by omega
    cases b with
    | false =>
      have := compG_P I (ds := ds) (i := i + 1) (acc := acc) (r := r2) (cs := cs) z hs'
      rw [List.length_cons, el]
      exact this
    | true =>
      have z := z
      rw [if_pos rfl] at z
      show ((_ : Res D).bind _).P _ PF
      rw [P_bind]
      refine z.mono (fun x r3 cs' z => ?_) fun _ _ _ z => z
      obtain ⟨z2, z3⟩ := z
      rw [if_pos (show acc.length < sizeLine from z2)]
      have := compG_P I (ds := ds) (i := i + 1) (acc := acc ++ [x]) (r := r3) (cs := cs') z3 hs'
      rw [List.length_cons, el]
      exact this
theorem lcG_P {tg : Tg} {cd : List Sl → List C → Res Bool} {el : List Sl → List C → Res D} {vs : List Nat} {ds : List D} {r : List Sl} {cs : List C} {k : Rv → List Sl → List C → Prop} {e : Ex → List Sl → List C → Prop} (I : Nat → List D → List Sl → List C → Prop) (hv : noOwn vs r = true) (h0 : I 0 [] (wipeS vs r) cs)
    (hs : ∀ j d acc wr cs, ds[j]? = some d → I j acc wr cs → ∃ r1, bindT tg d wr = some r1 ∧ (cd r1 cs).P (fun b r2 cs => if b = true then (el r2 cs).P (fun x r3 cs => acc.length < 16777216 ∧ I (j + 1) (acc ++ [x]) (wipeS vs r3) cs) PF else I (j + 1) acc (wipeS vs r2) cs) PF)
    (hk : ∀ a wr cs, wr.length = r.length → I ds.length a wr cs → k (.own (.lst a)) (restS vs r wr) cs) (hlen : ∀ j a wr cs, I j a wr cs → wr.length = r.length) : (lcB tg cd el vs (ds, []) r cs).P k e := by
  unfold lcB
  rw [if_pos hv]
  have h := compG_P (tg := tg) (cd := cd) (el := el) I (ds := ds) (i := 0) (r := r) (cs := cs) (acc := []) h0 (fun j d acc wr cs hj hi => by
    rw [Nat.zero_add] at hi ⊢
    exact hs j d acc wr cs hj hi)
  show (unlockR [] ((noEx (compL (fun d r => bindT tg d (wipeS vs r)) cd el ds r cs [])).bind fun ds r' cs => .ok (.own (.lst ds)) (restS vs r r') cs)).P k e
  cases q : compL (fun d r => bindT tg d (wipeS vs r)) cd el ds r cs [] with
  | no => rw [q] at h; exact h.elim
  | ex _ _ _ => rw [q] at h; exact h.elim
  | ok a r' cs' =>
    rw [q] at h
    have h : I (0 + ds.length) a (wipeS vs r') cs' := h
    rw [Nat.zero_add] at h
    have hl := hlen _ _ _ _ h
    show k (.own (.lst a)) (restS vs r r') cs'
    rw [restS_wipe (by rw [wipeS_len] at hl; exact hl.symm)]
    exact hk a _ cs' hl h
/-! ### facts of data -/
theorem plains_ints (n : Nat) : ∀ ns : List Int, D.plains (n + 1) (ns.map .int) = true
  | [] => rfl
  | i :: ns => by
    show (true && D.plains (n + 1) (ns.map .int)) = true
    rw [plains_ints n ns]; rfl
theorem sz (n : Nat) (h : n ≤ 16777216) : n ≤ sizeLine := h


























/-! ### the equations at a state that is known -/
def br {α : Type} (k : Bool) (a b : Res α) : Res α := match k with
  | true => a
  | false => b
def bk (v : Rv) (K : Bool → Prop) : Prop := match v with
  | .val (.bl b) => K b
  | _ => False
def sq (fl : Fl) (m : Res Fl) (r : List Sl) (cs : List C) : Res Fl := match fl with
  | .nx => m
  | fl => .ok fl r cs
def bin2 (o : Op) (ds : List D) (r : List Sl) (cs : List C) : Res Rv := match ds with
  | [d, e] => liftO (binD o d e) r cs
  | _ => .no
def cmp2 (c : Cm) (ds : List D) (r : List Sl) (cs : List C) : Res Rv := match ds with
  | [d, e] => (liftO (cmpD c d e) r cs).bind fun b r cs => .ok (.val (.bl b)) r cs
  | _ => .no
def idx2 (ds : List D) (r : List Sl) (cs : List C) : Res Rv := match ds with
  | [d, e] => (liftO (idxD d e) r cs).bind fun v r cs => .ok (.val v) r cs
  | _ => .no
def neg1 (v : Rv) (r : List Sl) (cs : List C) : Res Rv := match v with
  | .val (.int i) => .ok (.val (.int (-i))) r cs
  | _ => .no
def rev1 (d : D) (r : List Sl) (cs : List C) : Res Rv := match d with
  | .lst ds => .ok (.own (.lst ds.reverse)) r cs
  | _ => .no
def mkT (ds : List D) (r : List Sl) (cs : List C) : Res Rv := if ds.length ≤ sizeLine then .ok (.val (.tup ds)) r cs else .no
def mkL (ds : List D) (r : List Sl) (cs : List C) : Res Rv := if ds.length ≤ sizeLine then .ok (.own (.lst ds)) r cs else .no
def rvO (o : Option Sl) (i : Nat) (r : List Sl) (cs : List C) : Res Rv := match o with
  | some (.val _ d) => .ok (.val d) r cs
  | some (.own io false c) => match c.toD with
    | some d => .ok (.val d) (r.set i (.val io d)) cs
    | none => .no
  | _ => .no
def rtO (o : Option Sl) (i : Nat) (r : List Sl) (cs : List C) : Res Fl := match o with
  | some (.own false false c) => .ok (.rt (.own c)) (r.set i .no) cs
  | o => (rvO o i r cs).bind fun v r cs => .ok (.rt v) r cs
def opO (o : Option Sl) (i : Nat) (r : List Sl) (cs : List C) : Res Od := match o with
  | some (.val _ d) => .ok (.val d) r cs
  | some (.own _ _ _) => .ok (.slot i) r cs
  | _ => .no
def avO (o : Option Sl) (i : Nat) (r : List Sl) (cs : List C) : Res Am := match o with
  | some (.own _ false _) => .ok (.slot i) r cs
  | some (.val _ d) => .ok (.val (.val d)) r cs
  | _ => .no
def rdO (o : Option Sl) : Option D := match o with
  | some (.val _ d) => some d
  | some (.own _ _ c) => c.toD
  | _ => none
def stO (o : Option Sl) (i : Nat) (x : Sl) (r : List Sl) : Option (List Sl) := match o with
  | some .no => some (r.set i x)
  | some (.val false _) => some (r.set i x)
  | some (.own false false _) => some (r.set i x)
  | _ => none
def p1O (o : Option Sl) (i : Nat) (v : Rv) (r : List Sl) : List Sl := match o with
  | some (.own io lk _) => match v with
    | .own c => r.set i (.own io lk c)
    | .val d => r.set i (.val io d)
  | _ => r
def loO (o : Option Sl) (i : Nat) : List Nat := match o with
  | some (.own _ false _) => [i]
  | _ => []
def auI (i : Nat) (o : Op) (a : Int) (d : D) (r : List Sl) (cs : List C) : Res Fl := match d with
  | .int b => (liftO (augI o a b) r cs).bind fun c r cs => (liftO (setS i (.val false (.int c)) r) r cs).bind fun r _ _ => .ok .nx r cs
  | _ => .no
def auO (x : Option Sl) (i : Nat) (o : Op) (m : Res Rv) : Res Fl := match x with
  | some (.val _ (.int a)) => m.d.bind fun d r cs => auI i o a d r cs
  | some (.val _ (.str a)) => m.d.bind fun d r cs => match o, d with
    | .add, .str b => if a.length + b.length ≤ sizeLine then (liftO (setS i (.val false (.str (a ++ b))) r) r cs).bind fun r _ _ => .ok .nx r cs else .no
    | _, _ => .no
  | _ => .no
def oaO (o : Option Sl) : Option (Bool × C) := match o with
  | some (.own io false c) => some (io, c)
  | _ => none
def whB (c : List Sl → List C → Res Bool) (body : List Sl → List C → Res Fl) (r : List Sl) (cs : List C) : Res Fl := whileL c body wF r cs
def retV (i : Nat) (r : List Sl) (cs : List C) : Res Fl := match r[i]? with
  | some (.own false false c) => .ok (.rt (.own c)) (r.set i .no) cs
  | _ => (readVar i r cs).bind fun v r cs => .ok (.rt v) r cs
theorem oP_of {ex : E} (h : ∀ i, ex ≠ .var i) {m : Res Rv} {r : List Sl} {cs : List C} {k : Od → List Sl → List C → Prop} {e : Ex → List Sl → List C → Prop} : (opd ex r cs m).P k e = m.P (fun v r cs => (v.frz r cs).P (fun d r cs => k (.val d) r cs) e) e := by
  rw [opd_ne h]
  cases m with
  | ok v r cs =>
    show ((v.frz r cs).bind _).P k e = _
    rw [P_bind]
    rfl
  | ex _ _ _ => rfl
  | no => rfl

theorem q_e_var {g : Gc} {x : Sl} {r : List Sl} {cs : List C} {i : Nat} : evE g (.var i) (x :: r) cs = readVar i (x :: r) cs := rfl
theorem q_e_non {g : Gc} {x : Sl} {r : List Sl} {cs : List C} : evE g .non (x :: r) cs = .ok (.val .non) (x :: r) cs := rfl
theorem q_e_bl {g : Gc} {x : Sl} {r : List Sl} {cs : List C} {b : Bool} : evE g (.bl b) (x :: r) cs = .ok (.val (.bl b)) (x :: r) cs := rfl
theorem q_e_int {g : Gc} {x : Sl} {r : List Sl} {cs : List C} {i : Int} : evE g (.int i) (x :: r) cs = .ok (.val (.int i)) (x :: r) cs := rfl
theorem q_e_str {g : Gc} {x : Sl} {r : List Sl} {cs : List C} {s : Str} : evE g (.str s) (x :: r) cs = .ok (.val (.str s)) (x :: r) cs := rfl
theorem q_e_glo {g : Gc} {x : Sl} {r : List Sl} {cs : List C} {y : Str} {c : Cst} : evE g (.glo y c) (x :: r) cs = .ok (.val c.d) (x :: r) cs := rfl
theorem q_e_bin {g : Gc} {x : Sl} {r : List Sl} {cs : List C} {o : Op} {a b : E} : evE g (.bin o a b) (x :: r) cs = (opd a (x :: r) cs (evE g a (x :: r) cs)).bind fun x r cs => (opd b r cs (evE g b r cs)).bind fun y r cs =>
      (liftO (rds r [x, y]) r cs).bind fun ds r cs => bin2 o ds r cs := rfl
theorem q_e_neg {g : Gc} {x : Sl} {r : List Sl} {cs : List C} {a : E} : evE g (.neg a) (x :: r) cs = (evE g a (x :: r) cs).bind fun v r cs => neg1 v r cs := rfl
theorem q_e_cmp {g : Gc} {x : Sl} {r : List Sl} {cs : List C} {c : Cm} {a b : E} : evE g (.cmp c a b) (x :: r) cs = (opd a (x :: r) cs (evE g a (x :: r) cs)).bind fun x r cs => (opd b r cs (evE g b r cs)).bind fun y r cs =>
      (liftO (rds r [x, y]) r cs).bind fun ds r cs => cmp2 c ds r cs := rfl
theorem q_e_cmp2 {g : Gc} {x : Sl} {r : List Sl} {cs : List C} {c c2 : Cm} {a b e : E} : evE g (.cmp2 c c2 a b e) (x :: r) cs = (evE g a (x :: r) cs).d.bind fun x r cs => (evE g b r cs).d.bind fun y r cs =>
      (liftO (cmpD c x y) r cs).bind fun k r cs => br k ((evE g e r cs).d.bind fun z r cs => (liftO (cmpD c2 y z) r cs).bind fun k r cs => .ok (.val (.bl k)) r cs) (.ok (.val (.bl false)) r cs) := rfl
theorem q_e_and {g : Gc} {x : Sl} {r : List Sl} {cs : List C} {a b : E} : evE g (.and a b) (x :: r) cs = (boolOf (evE g a (x :: r) cs)).bind fun k r cs => br k (evE g b r cs) (.ok (.val (.bl false)) r cs) := rfl
theorem q_e_or {g : Gc} {x : Sl} {r : List Sl} {cs : List C} {a b : E} : evE g (.or a b) (x :: r) cs = (boolOf (evE g a (x :: r) cs)).bind fun k r cs => br k (.ok (.val (.bl true)) r cs) (evE g b r cs) := rfl
theorem q_e_not {g : Gc} {x : Sl} {r : List Sl} {cs : List C} {a : E} : evE g (.not a) (x :: r) cs = (boolOf (evE g a (x :: r) cs)).bind fun k r cs => .ok (.val (.bl (!k))) r cs := rfl
theorem q_e_ite {g : Gc} {x : Sl} {r : List Sl} {cs : List C} {c a b : E} : evE g (.ite c a b) (x :: r) cs = (boolOf (evE g c (x :: r) cs)).bind fun k r cs => br k (evE g a r cs) (evE g b r cs) := rfl
theorem q_e_tup {g : Gc} {x : Sl} {r : List Sl} {cs : List C} {es : Es} : evE g (.tup es) (x :: r) cs = (evDs g es (x :: r) cs).bind fun ds r cs => mkT ds r cs := rfl
theorem q_e_lst {g : Gc} {x : Sl} {r : List Sl} {cs : List C} {es : Es} : evE g (.lst es) (x :: r) cs = (evDs g es (x :: r) cs).bind fun ds r cs => mkL ds r cs := rfl
theorem q_e_dct {g : Gc} {x : Sl} {r : List Sl} {cs : List C} {es : Es} : evE g (.dct es) (x :: r) cs = (evDs g es (x :: r) cs).bind fun ds r cs => liftO (dctD ds) r cs := rfl
theorem q_e_idx {g : Gc} {x : Sl} {r : List Sl} {cs : List C} {a i : E} : evE g (.idx a i) (x :: r) cs = (opd a (x :: r) cs (evE g a (x :: r) cs)).bind fun x r cs => (opd i r cs (evE g i r cs)).bind fun y r cs =>
      (liftO (rds r [x, y]) r cs).bind fun ds r cs => idx2 ds r cs := rfl
theorem q_e_slc {g : Gc} {x : Sl} {r : List Sl} {cs : List C} {a : E} {lo hi : Es} : evE g (.slc a lo hi) (x :: r) cs = (opd a (x :: r) cs (evE g a (x :: r) cs)).bind fun x r cs => ((evDs g lo r cs).bind fun l r cs => liftO (partD l) r cs).bind fun l r cs =>
      ((evDs g hi r cs).bind fun h r cs => liftO (partD h) r cs).bind fun h r cs => liftO ((rd r x).bind fun d => slcD d l h) r cs := rfl
theorem q_e_rev {g : Gc} {x : Sl} {r : List Sl} {cs : List C} {a : E} : evE g (.rev a) (x :: r) cs = (opd a (x :: r) cs (evE g a (x :: r) cs)).bind fun x r cs => (liftO (rd r x) r cs).bind fun d r cs => rev1 d r cs := rfl
theorem q_e_call {g : Gc} {x : Sl} {r : List Sl} {cs : List C} {f : Nat} {es : Es} {ks : List Str} {kes : Es} {ord : List A0} : evE g (.call f es ks kes ord) (x :: r) cs = (evAs g ks.isEmpty es (x :: r) cs).bind fun as r cs => (evAs g false kes r cs).bind fun bs r cs => (liftO (ordA (as ++ bs) ord) r cs).bind fun as r cs => doCall g f as r cs := rfl
theorem q_e_bi {g : Gc} {x : Sl} {r : List Sl} {cs : List C} {b : Bi} {es : Es} : evE g (.bi b es) (x :: r) cs = (evOs g es (x :: r) cs).bind fun os r cs => (liftO (rds r os) r cs).bind fun ds r cs => liftO (biD b ds) r cs := rfl
theorem q_e_op {g : Gc} {x : Sl} {r : List Sl} {cs : List C} {o9 : Ok} {es : Es} : evE g (.op o9 es) (x :: r) cs = (evOp g o9 es (x :: r) cs).bind fun os r cs => (liftO (rds r os) r cs).bind fun ds r cs => liftO (opD o9 ds) r cs := rfl
theorem q_op_cons {g : Gc} {x : Sl} {r : List Sl} {cs : List C} {o9 : Ok} {e : E} {es : Es} : evOp g o9 (.cons e es) (x :: r) cs = (opd e (x :: r) cs (evE g e (x :: r) cs)).bind fun d r cs => (liftO ((rd r d).bind (preD o9)) r cs).bind fun _ r cs => (evOs g es r cs).bind fun ds r cs => .ok (d :: ds) r cs := rfl
theorem q_e_isi {g : Gc} {x : Sl} {r : List Sl} {cs : List C} {t : Ty} {a : E} : evE g (.isi t a) (x :: r) cs = (opd a (x :: r) cs (evE g a (x :: r) cs)).bind fun x r cs => (liftO ((rd r x).bind (isiD t)) r cs).bind fun b r cs => .ok (.val (.bl b)) r cs := rfl
theorem q_e_mut {g : Gc} {x : Sl} {r : List Sl} {cs : List C} {m : Mu} {i : Nat} {es : Es} : evE g (.mut m i es) (x :: r) cs = (liftO ((ownAt i (x :: r)).bind fun p => if p.2.isLst then some () else none) (x :: r) cs).bind fun _ r cs => (evDs g es r cs).bind fun ds r cs => (liftO (ownAt i r) r cs).bind fun p r cs => (liftO (muC m p.2 ds) r cs).bind fun q r cs =>
      .ok (.val q.1) (r.set i (.own p.1 false q.2)) cs := rfl
theorem q_e_comp {g : Gc} {x : Sl} {r : List Sl} {cs : List C} {elt : E} {tg : Tg} {sr : Src} {cn : Es} {vs : List Nat} : evE g (.comp elt tg sr cn vs) (x :: r) cs = lcM (evSrc g sr) tg (evConds g cn) (fun r cs => (evE g elt r cs).d) vs (x :: r) cs := rfl
theorem q_d_nil {g : Gc} {x : Sl} {r : List Sl} {cs : List C} : evDs g .nil (x :: r) cs = .ok [] (x :: r) cs := rfl
theorem q_d_cons {g : Gc} {x : Sl} {r : List Sl} {cs : List C} {e : E} {es : Es} : evDs g (.cons e es) (x :: r) cs = (evE g e (x :: r) cs).d.bind fun d r cs => (evDs g es r cs).bind fun ds r cs => .ok (d :: ds) r cs := rfl
theorem q_o_nil {g : Gc} {x : Sl} {r : List Sl} {cs : List C} : evOs g .nil (x :: r) cs = .ok [] (x :: r) cs := rfl
theorem q_o_cons {g : Gc} {x : Sl} {r : List Sl} {cs : List C} {e : E} {es : Es} : evOs g (.cons e es) (x :: r) cs = (opd e (x :: r) cs (evE g e (x :: r) cs)).bind fun d r cs => (evOs g es r cs).bind fun ds r cs => .ok (d :: ds) r cs := rfl
theorem q_a_nil {g : Gc} {x : Sl} {r : List Sl} {cs : List C} {b : Bool} : evAs g b .nil (x :: r) cs = .ok [] (x :: r) cs := by cases b <;> rfl
theorem q_a_var {g : Gc} {x : Sl} {r : List Sl} {cs : List C} {b : Bool} {i : Nat} {es : Es} : evAs g b (.cons (.var i) es) (x :: r) cs = (argVar i (x :: r) cs).bind fun a r cs => (evAs g b es r cs).bind fun as r cs => .ok (a :: as) r cs := by cases b <;> rfl
theorem q_oP_non {r : List Sl} {cs : List C}  {m9 : Res Rv} {k : Od → List Sl → List C → Prop} {e : Ex → List Sl → List C → Prop}   : (opd (E.non) r cs m9).P k e = m9.P (fun v r cs => (v.frz r cs).P (fun d r cs => k (.val d) r cs) e) e := oP_of (fun i z => by cases z)
theorem q_ob_non {x : Sl} {r : List Sl} {cs : List C}  {v : Rv} {x9 : Sl} {ys : List Sl} {ds : List C} : opd (E.non) (x :: r) cs (.ok v (x9 :: ys) ds) = (v.frz (x9 :: ys) ds).bind fun d r cs => .ok (.val d) r cs := rfl
theorem q_al_non {g : Gc} {x : Sl} {r : List Sl} {cs : List C}  : evAs g true (.cons (E.non) .nil) (x :: r) cs = (evE g (E.non) (x :: r) cs).bind fun v r cs => .ok [.val v] r cs := rfl
theorem q_am_non {g : Gc} {x : Sl} {r : List Sl} {cs : List C}  {e2 : E} {es2 : Es} : evAs g true (.cons (E.non) (.cons e2 es2)) (x :: r) cs = (evE g (E.non) (x :: r) cs).d.bind fun d r cs => (evAs g true (.cons e2 es2) r cs).bind fun as r cs => .ok (.val (.val d) :: as) r cs := rfl
theorem q_af_non {g : Gc} {x : Sl} {r : List Sl} {cs : List C}  {es2 : Es} : evAs g false (.cons (E.non) es2) (x :: r) cs = (evE g (E.non) (x :: r) cs).d.bind fun d r cs => (evAs g false es2 r cs).bind fun as r cs => .ok (.val (.val d) :: as) r cs := by cases es2 <;> rfl
theorem q_oP_bl {r : List Sl} {cs : List C} {b : Bool} {m9 : Res Rv} {k : Od → List Sl → List C → Prop} {e : Ex → List Sl → List C → Prop}   : (opd (E.bl b) r cs m9).P k e = m9.P (fun v r cs => (v.frz r cs).P (fun d r cs => k (.val d) r cs) e) e := oP_of (fun i z => by cases z)
theorem q_ob_bl {x : Sl} {r : List Sl} {cs : List C} {b : Bool} {v : Rv} {x9 : Sl} {ys : List Sl} {ds : List C} : opd (E.bl b) (x :: r) cs (.ok v (x9 :: ys) ds) = (v.frz (x9 :: ys) ds).bind fun d r cs => .ok (.val d) r cs := rfl
theorem q_al_bl {g : Gc} {x : Sl} {r : List Sl} {cs : List C} {b : Bool} : evAs g true (.cons (E.bl b) .nil) (x :: r) cs = (evE g (E.bl b) (x :: r) cs).bind fun v r cs => .ok [.val v] r cs := rfl
theorem q_am_bl {g : Gc} {x : Sl} {r : List Sl} {cs : List C} {b : Bool} {e2 : E} {es2 : Es} : evAs g true (.cons (E.bl b) (.cons e2 es2)) (x :: r) cs = (evE g (E.bl b) (x :: r) cs).d.bind fun d r cs => (evAs g true (.cons e2 es2) r cs).bind fun as r cs => .ok (.val (.val d) :: as) r cs := rfl
theorem q_af_bl {g : Gc} {x : Sl} {r : List Sl} {cs : List C} {b : Bool} {es2 : Es} : evAs g false (.cons (E.bl b) es2) (x :: r) cs = (evE g (E.bl b) (x :: r) cs).d.bind fun d r cs => (evAs g false es2 r cs).bind fun as r cs => .ok (.val (.val d) :: as) r cs := by cases es2 <;> rfl
theorem q_oP_int {r : List Sl} {cs : List C} {i : Int} {m9 : Res Rv} {k : Od → List Sl → List C → Prop} {e : Ex → List Sl → List C → Prop}   : (opd (E.int i) r cs m9).P k e = m9.P (fun v r cs => (v.frz r cs).P (fun d r cs => k (.val d) r cs) e) e := oP_of (fun i z => by cases z)
theorem q_ob_int {x : Sl} {r : List Sl} {cs : List C} {i : Int} {v : Rv} {x9 : Sl} {ys : List Sl} {ds : List C} : opd (E.int i) (x :: r) cs (.ok v (x9 :: ys) ds) = (v.frz (x9 :: ys) ds).bind fun d r cs => .ok (.val d) r cs := rfl
theorem q_al_int {g : Gc} {x : Sl} {r : List Sl} {cs : List C} {i : Int} : evAs g true (.cons (E.int i) .nil) (x :: r) cs = (evE g (E.int i) (x :: r) cs).bind fun v r cs => .ok [.val v] r cs := rfl
theorem q_am_int {g : Gc} {x : Sl} {r : List Sl} {cs : List C} {i : Int} {e2 : E} {es2 : Es} : evAs g true (.cons (E.int i) (.cons e2 es2)) (x :: r) cs = (evE g (E.int i) (x :: r) cs).d.bind fun d r cs => (evAs g true (.cons e2 es2) r cs).bind fun as r cs => .ok (.val (.val d) :: as) r cs := rfl
theorem q_af_int {g : Gc} {x : Sl} {r : List Sl} {cs : List C} {i : Int} {es2 : Es} : evAs g false (.cons (E.int i) es2) (x :: r) cs = (evE g (E.int i) (x :: r) cs).d.bind fun d r cs => (evAs g false es2 r cs).bind fun as r cs => .ok (.val (.val d) :: as) r cs := by cases es2 <;> rfl
theorem q_oP_str {r : List Sl} {cs : List C} {s : Str} {m9 : Res Rv} {k : Od → List Sl → List C → Prop} {e : Ex → List Sl → List C → Prop}   : (opd (E.str s) r cs m9).P k e = m9.P (fun v r cs => (v.frz r cs).P (fun d r cs => k (.val d) r cs) e) e := oP_of (fun i z => by cases z)
theorem q_ob_str {x : Sl} {r : List Sl} {cs : List C} {s : Str} {v : Rv} {x9 : Sl} {ys : List Sl} {ds : List C} : opd (E.str s) (x :: r) cs (.ok v (x9 :: ys) ds) = (v.frz (x9 :: ys) ds).bind fun d r cs => .ok (.val d) r cs := rfl
theorem q_al_str {g : Gc} {x : Sl} {r : List Sl} {cs : List C} {s : Str} : evAs g true (.cons (E.str s) .nil) (x :: r) cs = (evE g (E.str s) (x :: r) cs).bind fun v r cs => .ok [.val v] r cs := rfl
theorem q_am_str {g : Gc} {x : Sl} {r : List Sl} {cs : List C} {s : Str} {e2 : E} {es2 : Es} : evAs g true (.cons (E.str s) (.cons e2 es2)) (x :: r) cs = (evE g (E.str s) (x :: r) cs).d.bind fun d r cs => (evAs g true (.cons e2 es2) r cs).bind fun as r cs => .ok (.val (.val d) :: as) r cs := rfl
theorem q_af_str {g : Gc} {x : Sl} {r : List Sl} {cs : List C} {s : Str} {es2 : Es} : evAs g false (.cons (E.str s) es2) (x :: r) cs = (evE g (E.str s) (x :: r) cs).d.bind fun d r cs => (evAs g false es2 r cs).bind fun as r cs => .ok (.val (.val d) :: as) r cs := by cases es2 <;> rfl
theorem q_oP_glo {r : List Sl} {cs : List C} {y : Str} {c : Cst} {m9 : Res Rv} {k : Od → List Sl → List C → Prop} {e : Ex → List Sl → List C → Prop}   : (opd (E.glo y c) r cs m9).P k e = m9.P (fun v r cs => (v.frz r cs).P (fun d r cs => k (.val d) r cs) e) e := oP_of (fun i z => by cases z)
theorem q_ob_glo {x : Sl} {r : List Sl} {cs : List C} {y : Str} {c : Cst} {v : Rv} {x9 : Sl} {ys : List Sl} {ds : List C} : opd (E.glo y c) (x :: r) cs (.ok v (x9 :: ys) ds) = (v.frz (x9 :: ys) ds).bind fun d r cs => .ok (.val d) r cs := rfl
theorem q_al_glo {g : Gc} {x : Sl} {r : List Sl} {cs : List C} {y : Str} {c : Cst} : evAs g true (.cons (E.glo y c) .nil) (x :: r) cs = (evE g (E.glo y c) (x :: r) cs).bind fun v r cs => .ok [.val v] r cs := rfl
theorem q_am_glo {g : Gc} {x : Sl} {r : List Sl} {cs : List C} {y : Str} {c : Cst} {e2 : E} {es2 : Es} : evAs g true (.cons (E.glo y c) (.cons e2 es2)) (x :: r) cs = (evE g (E.glo y c) (x :: r) cs).d.bind fun d r cs => (evAs g true (.cons e2 es2) r cs).bind fun as r cs => .ok (.val (.val d) :: as) r cs := rfl
theorem q_af_glo {g : Gc} {x : Sl} {r : List Sl} {cs : List C} {y : Str} {c : Cst} {es2 : Es} : evAs g false (.cons (E.glo y c) es2) (x :: r) cs = (evE g (E.glo y c) (x :: r) cs).d.bind fun d r cs => (evAs g false es2 r cs).bind fun as r cs => .ok (.val (.val d) :: as) r cs := by cases es2 <;> rfl
theorem q_oP_bin {r : List Sl} {cs : List C} {o : Op} {a b : E} {m9 : Res Rv} {k : Od → List Sl → List C → Prop} {e : Ex → List Sl → List C → Prop}   : (opd (E.bin o a b) r cs m9).P k e = m9.P (fun v r cs => (v.frz r cs).P (fun d r cs => k (.val d) r cs) e) e := oP_of (fun i z => by cases z)
theorem q_ob_bin {x : Sl} {r : List Sl} {cs : List C} {o : Op} {a b : E} {v : Rv} {x9 : Sl} {ys : List Sl} {ds : List C} : opd (E.bin o a b) (x :: r) cs (.ok v (x9 :: ys) ds) = (v.frz (x9 :: ys) ds).bind fun d r cs => .ok (.val d) r cs := rfl
theorem q_al_bin {g : Gc} {x : Sl} {r : List Sl} {cs : List C} {o : Op} {a b : E} : evAs g true (.cons (E.bin o a b) .nil) (x :: r) cs = (evE g (E.bin o a b) (x :: r) cs).bind fun v r cs => .ok [.val v] r cs := rfl
theorem q_am_bin {g : Gc} {x : Sl} {r : List Sl} {cs : List C} {o : Op} {a b : E} {e2 : E} {es2 : Es} : evAs g true (.cons (E.bin o a b) (.cons e2 es2)) (x :: r) cs = (evE g (E.bin o a b) (x :: r) cs).d.bind fun d r cs => (evAs g true (.cons e2 es2) r cs).bind fun as r cs => .ok (.val (.val d) :: as) r cs := rfl
theorem q_af_bin {g : Gc} {x : Sl} {r : List Sl} {cs : List C} {o : Op} {a b : E} {es2 : Es} : evAs g false (.cons (E.bin o a b) es2) (x :: r) cs = (evE g (E.bin o a b) (x :: r) cs).d.bind fun d r cs => (evAs g false es2 r cs).bind fun as r cs => .ok (.val (.val d) :: as) r cs := by cases es2 <;> rfl
theorem q_oP_neg {r : List Sl} {cs : List C} {a : E} {m9 : Res Rv} {k : Od → List Sl → List C → Prop} {e : Ex → List Sl → List C → Prop}   : (opd (E.neg a) r cs m9).P k e = m9.P (fun v r cs => (v.frz r cs).P (fun d r cs => k (.val d) r cs) e) e := oP_of (fun i z => by cases z)
theorem q_ob_neg {x : Sl} {r : List Sl} {cs : List C} {a : E} {v : Rv} {x9 : Sl} {ys : List Sl} {ds : List C} : opd (E.neg a) (x :: r) cs (.ok v (x9 :: ys) ds) = (v.frz (x9 :: ys) ds).bind fun d r cs => .ok (.val d) r cs := rfl
theorem q_al_neg {g : Gc} {x : Sl} {r : List Sl} {cs : List C} {a : E} : evAs g true (.cons (E.neg a) .nil) (x :: r) cs = (evE g (E.neg a) (x :: r) cs).bind fun v r cs => .ok [.val v] r cs := rfl
theorem q_am_neg {g : Gc} {x : Sl} {r : List Sl} {cs : List C} {a : E} {e2 : E} {es2 : Es} : evAs g true (.cons (E.neg a) (.cons e2 es2)) (x :: r) cs = (evE g (E.neg a) (x :: r) cs).d.bind fun d r cs => (evAs g true (.cons e2 es2) r cs).bind fun as r cs => .ok (.val (.val d) :: as) r cs := rfl
theorem q_af_neg {g : Gc} {x : Sl} {r : List Sl} {cs : List C} {a : E} {es2 : Es} : evAs g false (.cons (E.neg a) es2) (x :: r) cs = (evE g (E.neg a) (x :: r) cs).d.bind fun d r cs => (evAs g false es2 r cs).bind fun as r cs => .ok (.val (.val d) :: as) r cs := by cases es2 <;> rfl
theorem q_oP_cmp {r : List Sl} {cs : List C} {c : Cm} {a b : E} {m9 : Res Rv} {k : Od → List Sl → List C → Prop} {e : Ex → List Sl → List C → Prop}   : (opd (E.cmp c a b) r cs m9).P k e = m9.P (fun v r cs => (v.frz r cs).P (fun d r cs => k (.val d) r cs) e) e := oP_of (fun i z => by cases z)
theorem q_ob_cmp {x : Sl} {r : List Sl} {cs : List C} {c : Cm} {a b : E} {v : Rv} {x9 : Sl} {ys : List Sl} {ds : List C} : opd (E.cmp c a b) (x :: r) cs (.ok v (x9 :: ys) ds) = (v.frz (x9 :: ys) ds).bind fun d r cs => .ok (.val d) r cs := rfl
theorem q_al_cmp {g : Gc} {x : Sl} {r : List Sl} {cs : List C} {c : Cm} {a b : E} : evAs g true (.cons (E.cmp c a b) .nil) (x :: r) cs = (evE g (E.cmp c a b) (x :: r) cs).bind fun v r cs => .ok [.val v] r cs := rfl
theorem q_am_cmp {g : Gc} {x : Sl} {r : List Sl} {cs : List C} {c : Cm} {a b : E} {e2 : E} {es2 : Es} : evAs g true (.cons (E.cmp c a b) (.cons e2 es2)) (x :: r) cs = (evE g (E.cmp c a b) (x :: r) cs).d.bind fun d r cs => (evAs g true (.cons e2 es2) r cs).bind fun as r cs => .ok (.val (.val d) :: as) r cs := rfl
theorem q_af_cmp {g : Gc} {x : Sl} {r : List Sl} {cs : List C} {c : Cm} {a b : E} {es2 : Es} : evAs g false (.cons (E.cmp c a b) es2) (x :: r) cs = (evE g (E.cmp c a b) (x :: r) cs).d.bind fun d r cs => (evAs g false es2 r cs).bind fun as r cs => .ok (.val (.val d) :: as) r cs := by cases es2 <;> rfl
theorem q_oP_cmp2 {r : List Sl} {cs : List C} {c c2 : Cm} {a b d : E} {m9 : Res Rv} {k : Od → List Sl → List C → Prop} {e : Ex → List Sl → List C → Prop}   : (opd (E.cmp2 c c2 a b d) r cs m9).P k e = m9.P (fun v r cs => (v.frz r cs).P (fun d r cs => k (.val d) r cs) e) e := oP_of (fun i z => by cases z)
theorem q_ob_cmp2 {x : Sl} {r : List Sl} {cs : List C} {c c2 : Cm} {a b d : E} {v : Rv} {x9 : Sl} {ys : List Sl} {ds : List C} : opd (E.cmp2 c c2 a b d) (x :: r) cs (.ok v (x9 :: ys) ds) = (v.frz (x9 :: ys) ds).bind fun d r cs => .ok (.val d) r cs := rfl
theorem q_al_cmp2 {g : Gc} {x : Sl} {r : List Sl} {cs : List C} {c c2 : Cm} {a b d : E} : evAs g true (.cons (E.cmp2 c c2 a b d) .nil) (x :: r) cs = (evE g (E.cmp2 c c2 a b d) (x :: r) cs).bind fun v r cs => .ok [.val v] r cs := rfl
theorem q_am_cmp2 {g : Gc} {x : Sl} {r : List Sl} {cs : List C} {c c2 : Cm} {a b d : E} {e2 : E} {es2 : Es} : evAs g true (.cons (E.cmp2 c c2 a b d) (.cons e2 es2)) (x :: r) cs = (evE g (E.cmp2 c c2 a b d) (x :: r) cs).d.bind fun d r cs => (evAs g true (.cons e2 es2) r cs).bind fun as r cs => .ok (.val (.val d) :: as) r cs := rfl
theorem q_af_cmp2 {g : Gc} {x : Sl} {r : List Sl} {cs : List C} {c c2 : Cm} {a b d : E} {es2 : Es} : evAs g false (.cons (E.cmp2 c c2 a b d) es2) (x :: r) cs = (evE g (E.cmp2 c c2 a b d) (x :: r) cs).d.bind fun d r cs => (evAs g false es2 r cs).bind fun as r cs => .ok (.val (.val d) :: as) r cs := by cases es2 <;> rfl
theorem q_oP_and {r : List Sl} {cs : List C} {a b : E} {m9 : Res Rv} {k : Od → List Sl → List C → Prop} {e : Ex → List Sl → List C → Prop}   : (opd (E.and a b) r cs m9).P k e = m9.P (fun v r cs => (v.frz r cs).P (fun d r cs => k (.val d) r cs) e) e := oP_of (fun i z => by cases z)
theorem q_ob_and {x : Sl} {r : List Sl} {cs : List C} {a b : E} {v : Rv} {x9 : Sl} {ys : List Sl} {ds : List C} : opd (E.and a b) (x :: r) cs (.ok v (x9 :: ys) ds) = (v.frz (x9 :: ys) ds).bind fun d r cs => .ok (.val d) r cs := rfl
theorem q_al_and {g : Gc} {x : Sl} {r : List Sl} {cs : List C} {a b : E} : evAs g true (.cons (E.and a b) .nil) (x :: r) cs = (evE g (E.and a b) (x :: r) cs).bind fun v r cs => .ok [.val v] r cs := rfl
theorem q_am_and {g : Gc} {x : Sl} {r : List Sl} {cs : List C} {a b : E} {e2 : E} {es2 : Es} : evAs g true (.cons (E.and a b) (.cons e2 es2)) (x :: r) cs = (evE g (E.and a b) (x :: r) cs).d.bind fun d r cs => (evAs g true (.cons e2 es2) r cs).bind fun as r cs => .ok (.val (.val d) :: as) r cs := rfl
theorem q_af_and {g : Gc} {x : Sl} {r : List Sl} {cs : List C} {a b : E} {es2 : Es} : evAs g false (.cons (E.and a b) es2) (x :: r) cs = (evE g (E.and a b) (x :: r) cs).d.bind fun d r cs => (evAs g false es2 r cs).bind fun as r cs => .ok (.val (.val d) :: as) r cs := by cases es2 <;> rfl
theorem q_oP_or {r : List Sl} {cs : List C} {a b : E} {m9 : Res Rv} {k : Od → List Sl → List C → Prop} {e : Ex → List Sl → List C → Prop}   : (opd (E.or a b) r cs m9).P k e = m9.P (fun v r cs => (v.frz r cs).P (fun d r cs => k (.val d) r cs) e) e := oP_of (fun i z => by cases z)
theorem q_ob_or {x : Sl} {r : List Sl} {cs : List C} {a b : E} {v : Rv} {x9 : Sl} {ys : List Sl} {ds : List C} : opd (E.or a b) (x :: r) cs (.ok v (x9 :: ys) ds) = (v.frz (x9 :: ys) ds).bind fun d r cs => .ok (.val d) r cs := rfl
theorem q_al_or {g : Gc} {x : Sl} {r : List Sl} {cs : List C} {a b : E} : evAs g true (.cons (E.or a b) .nil) (x :: r) cs = (evE g (E.or a b) (x :: r) cs).bind fun v r cs => .ok [.val v] r cs := rfl
theorem q_am_or {g : Gc} {x : Sl} {r : List Sl} {cs : List C} {a b : E} {e2 : E} {es2 : Es} : evAs g true (.cons (E.or a b) (.cons e2 es2)) (x :: r) cs = (evE g (E.or a b) (x :: r) cs).d.bind fun d r cs => (evAs g true (.cons e2 es2) r cs).bind fun as r cs => .ok (.val (.val d) :: as) r cs := rfl
theorem q_af_or {g : Gc} {x : Sl} {r : List Sl} {cs : List C} {a b : E} {es2 : Es} : evAs g false (.cons (E.or a b) es2) (x :: r) cs = (evE g (E.or a b) (x :: r) cs).d.bind fun d r cs => (evAs g false es2 r cs).bind fun as r cs => .ok (.val (.val d) :: as) r cs := by cases es2 <;> rfl
theorem q_oP_not {r : List Sl} {cs : List C} {a : E} {m9 : Res Rv} {k : Od → List Sl → List C → Prop} {e : Ex → List Sl → List C → Prop}   : (opd (E.not a) r cs m9).P k e = m9.P (fun v r cs => (v.frz r cs).P (fun d r cs => k (.val d) r cs) e) e := oP_of (fun i z => by cases z)
theorem q_ob_not {x : Sl} {r : List Sl} {cs : List C} {a : E} {v : Rv} {x9 : Sl} {ys : List Sl} {ds : List C} : opd (E.not a) (x :: r) cs (.ok v (x9 :: ys) ds) = (v.frz (x9 :: ys) ds).bind fun d r cs => .ok (.val d) r cs := rfl
theorem q_al_not {g : Gc} {x : Sl} {r : List Sl} {cs : List C} {a : E} : evAs g true (.cons (E.not a) .nil) (x :: r) cs = (evE g (E.not a) (x :: r) cs).bind fun v r cs => .ok [.val v] r cs := rfl
theorem q_am_not {g : Gc} {x : Sl} {r : List Sl} {cs : List C} {a : E} {e2 : E} {es2 : Es} : evAs g true (.cons (E.not a) (.cons e2 es2)) (x :: r) cs = (evE g (E.not a) (x :: r) cs).d.bind fun d r cs => (evAs g true (.cons e2 es2) r cs).bind fun as r cs => .ok (.val (.val d) :: as) r cs := rfl
theorem q_af_not {g : Gc} {x : Sl} {r : List Sl} {cs : List C} {a : E} {es2 : Es} : evAs g false (.cons (E.not a) es2) (x :: r) cs = (evE g (E.not a) (x :: r) cs).d.bind fun d r cs => (evAs g false es2 r cs).bind fun as r cs => .ok (.val (.val d) :: as) r cs := by cases es2 <;> rfl
theorem q_oP_ite {r : List Sl} {cs : List C} {c a b : E} {m9 : Res Rv} {k : Od → List Sl → List C → Prop} {e : Ex → List Sl → List C → Prop}   : (opd (E.ite c a b) r cs m9).P k e = m9.P (fun v r cs => (v.frz r cs).P (fun d r cs => k (.val d) r cs) e) e := oP_of (fun i z => by cases z)
theorem q_ob_ite {x : Sl} {r : List Sl} {cs : List C} {c a b : E} {v : Rv} {x9 : Sl} {ys : List Sl} {ds : List C} : opd (E.ite c a b) (x :: r) cs (.ok v (x9 :: ys) ds) = (v.frz (x9 :: ys) ds).bind fun d r cs => .ok (.val d) r cs := rfl
theorem q_al_ite {g : Gc} {x : Sl} {r : List Sl} {cs : List C} {c a b : E} : evAs g true (.cons (E.ite c a b) .nil) (x :: r) cs = (evE g (E.ite c a b) (x :: r) cs).bind fun v r cs => .ok [.val v] r cs := rfl
theorem q_am_ite {g : Gc} {x : Sl} {r : List Sl} {cs : List C} {c a b : E} {e2 : E} {es2 : Es} : evAs g true (.cons (E.ite c a b) (.cons e2 es2)) (x :: r) cs = (evE g (E.ite c a b) (x :: r) cs).d.bind fun d r cs => (evAs g true (.cons e2 es2) r cs).bind fun as r cs => .ok (.val (.val d) :: as) r cs := rfl
theorem q_af_ite {g : Gc} {x : Sl} {r : List Sl} {cs : List C} {c a b : E} {es2 : Es} : evAs g false (.cons (E.ite c a b) es2) (x :: r) cs = (evE g (E.ite c a b) (x :: r) cs).d.bind fun d r cs => (evAs g false es2 r cs).bind fun as r cs => .ok (.val (.val d) :: as) r cs := by cases es2 <;> rfl
theorem q_oP_tup {r : List Sl} {cs : List C} {l : Es} {m9 : Res Rv} {k : Od → List Sl → List C → Prop} {e : Ex → List Sl → List C → Prop}   : (opd (E.tup l) r cs m9).P k e = m9.P (fun v r cs => (v.frz r cs).P (fun d r cs => k (.val d) r cs) e) e := oP_of (fun i z => by cases z)
theorem q_ob_tup {x : Sl} {r : List Sl} {cs : List C} {l : Es} {v : Rv} {x9 : Sl} {ys : List Sl} {ds : List C} : opd (E.tup l) (x :: r) cs (.ok v (x9 :: ys) ds) = (v.frz (x9 :: ys) ds).bind fun d r cs => .ok (.val d) r cs := rfl
theorem q_al_tup {g : Gc} {x : Sl} {r : List Sl} {cs : List C} {l : Es} : evAs g true (.cons (E.tup l) .nil) (x :: r) cs = (evE g (E.tup l) (x :: r) cs).bind fun v r cs => .ok [.val v] r cs := rfl
theorem q_am_tup {g : Gc} {x : Sl} {r : List Sl} {cs : List C} {l : Es} {e2 : E} {es2 : Es} : evAs g true (.cons (E.tup l) (.cons e2 es2)) (x :: r) cs = (evE g (E.tup l) (x :: r) cs).d.bind fun d r cs => (evAs g true (.cons e2 es2) r cs).bind fun as r cs => .ok (.val (.val d) :: as) r cs := rfl
theorem q_af_tup {g : Gc} {x : Sl} {r : List Sl} {cs : List C} {l : Es} {es2 : Es} : evAs g false (.cons (E.tup l) es2) (x :: r) cs = (evE g (E.tup l) (x :: r) cs).d.bind fun d r cs => (evAs g false es2 r cs).bind fun as r cs => .ok (.val (.val d) :: as) r cs := by cases es2 <;> rfl
theorem q_oP_lst {r : List Sl} {cs : List C} {l : Es} {m9 : Res Rv} {k : Od → List Sl → List C → Prop} {e : Ex → List Sl → List C → Prop}   : (opd (E.lst l) r cs m9).P k e = m9.P (fun v r cs => (v.frz r cs).P (fun d r cs => k (.val d) r cs) e) e := oP_of (fun i z => by cases z)
theorem q_ob_lst {x : Sl} {r : List Sl} {cs : List C} {l : Es} {v : Rv} {x9 : Sl} {ys : List Sl} {ds : List C} : opd (E.lst l) (x :: r) cs (.ok v (x9 :: ys) ds) = (v.frz (x9 :: ys) ds).bind fun d r cs => .ok (.val d) r cs := rfl
theorem q_al_lst {g : Gc} {x : Sl} {r : List Sl} {cs : List C} {l : Es} : evAs g true (.cons (E.lst l) .nil) (x :: r) cs = (evE g (E.lst l) (x :: r) cs).bind fun v r cs => .ok [.val v] r cs := rfl
theorem q_am_lst {g : Gc} {x : Sl} {r : List Sl} {cs : List C} {l : Es} {e2 : E} {es2 : Es} : evAs g true (.cons (E.lst l) (.cons e2 es2)) (x :: r) cs = (evE g (E.lst l) (x :: r) cs).d.bind fun d r cs => (evAs g true (.cons e2 es2) r cs).bind fun as r cs => .ok (.val (.val d) :: as) r cs := rfl
theorem q_af_lst {g : Gc} {x : Sl} {r : List Sl} {cs : List C} {l : Es} {es2 : Es} : evAs g false (.cons (E.lst l) es2) (x :: r) cs = (evE g (E.lst l) (x :: r) cs).d.bind fun d r cs => (evAs g false es2 r cs).bind fun as r cs => .ok (.val (.val d) :: as) r cs := by cases es2 <;> rfl
theorem q_oP_dct {r : List Sl} {cs : List C} {l : Es} {m9 : Res Rv} {k : Od → List Sl → List C → Prop} {e : Ex → List Sl → List C → Prop}   : (opd (E.dct l) r cs m9).P k e = m9.P (fun v r cs => (v.frz r cs).P (fun d r cs => k (.val d) r cs) e) e := oP_of (fun i z => by cases z)
theorem q_ob_dct {x : Sl} {r : List Sl} {cs : List C} {l : Es} {v : Rv} {x9 : Sl} {ys : List Sl} {ds : List C} : opd (E.dct l) (x :: r) cs (.ok v (x9 :: ys) ds) = (v.frz (x9 :: ys) ds).bind fun d r cs => .ok (.val d) r cs := rfl
theorem q_al_dct {g : Gc} {x : Sl} {r : List Sl} {cs : List C} {l : Es} : evAs g true (.cons (E.dct l) .nil) (x :: r) cs = (evE g (E.dct l) (x :: r) cs).bind fun v r cs => .ok [.val v] r cs := rfl
theorem q_am_dct {g : Gc} {x : Sl} {r : List Sl} {cs : List C} {l : Es} {e2 : E} {es2 : Es} : evAs g true (.cons (E.dct l) (.cons e2 es2)) (x :: r) cs = (evE g (E.dct l) (x :: r) cs).d.bind fun d r cs => (evAs g true (.cons e2 es2) r cs).bind fun as r cs => .ok (.val (.val d) :: as) r cs := rfl
theorem q_af_dct {g : Gc} {x : Sl} {r : List Sl} {cs : List C} {l : Es} {es2 : Es} : evAs g false (.cons (E.dct l) es2) (x :: r) cs = (evE g (E.dct l) (x :: r) cs).d.bind fun d r cs => (evAs g false es2 r cs).bind fun as r cs => .ok (.val (.val d) :: as) r cs := by cases es2 <;> rfl
theorem q_oP_idx {r : List Sl} {cs : List C} {a i : E} {m9 : Res Rv} {k : Od → List Sl → List C → Prop} {e : Ex → List Sl → List C → Prop}   : (opd (E.idx a i) r cs m9).P k e = m9.P (fun v r cs => (v.frz r cs).P (fun d r cs => k (.val d) r cs) e) e := oP_of (fun i z => by cases z)
theorem q_ob_idx {x : Sl} {r : List Sl} {cs : List C} {a i : E} {v : Rv} {x9 : Sl} {ys : List Sl} {ds : List C} : opd (E.idx a i) (x :: r) cs (.ok v (x9 :: ys) ds) = (v.frz (x9 :: ys) ds).bind fun d r cs => .ok (.val d) r cs := rfl
theorem q_al_idx {g : Gc} {x : Sl} {r : List Sl} {cs : List C} {a i : E} : evAs g true (.cons (E.idx a i) .nil) (x :: r) cs = (evE g (E.idx a i) (x :: r) cs).bind fun v r cs => .ok [.val v] r cs := rfl
theorem q_am_idx {g : Gc} {x : Sl} {r : List Sl} {cs : List C} {a i : E} {e2 : E} {es2 : Es} : evAs g true (.cons (E.idx a i) (.cons e2 es2)) (x :: r) cs = (evE g (E.idx a i) (x :: r) cs).d.bind fun d r cs => (evAs g true (.cons e2 es2) r cs).bind fun as r cs => .ok (.val (.val d) :: as) r cs := rfl
theorem q_af_idx {g : Gc} {x : Sl} {r : List Sl} {cs : List C} {a i : E} {es2 : Es} : evAs g false (.cons (E.idx a i) es2) (x :: r) cs = (evE g (E.idx a i) (x :: r) cs).d.bind fun d r cs => (evAs g false es2 r cs).bind fun as r cs => .ok (.val (.val d) :: as) r cs := by cases es2 <;> rfl
theorem q_oP_slc {r : List Sl} {cs : List C} {a : E} {lo hi : Es} {m9 : Res Rv} {k : Od → List Sl → List C → Prop} {e : Ex → List Sl → List C → Prop}   : (opd (E.slc a lo hi) r cs m9).P k e = m9.P (fun v r cs => (v.frz r cs).P (fun d r cs => k (.val d) r cs) e) e := oP_of (fun i z => by cases z)
theorem q_ob_slc {x : Sl} {r : List Sl} {cs : List C} {a : E} {lo hi : Es} {v : Rv} {x9 : Sl} {ys : List Sl} {ds : List C} : opd (E.slc a lo hi) (x :: r) cs (.ok v (x9 :: ys) ds) = (v.frz (x9 :: ys) ds).bind fun d r cs => .ok (.val d) r cs := rfl
theorem q_al_slc {g : Gc} {x : Sl} {r : List Sl} {cs : List C} {a : E} {lo hi : Es} : evAs g true (.cons (E.slc a lo hi) .nil) (x :: r) cs = (evE g (E.slc a lo hi) (x :: r) cs).bind fun v r cs => .ok [.val v] r cs := rfl
theorem q_am_slc {g : Gc} {x : Sl} {r : List Sl} {cs : List C} {a : E} {lo hi : Es} {e2 : E} {es2 : Es} : evAs g true (.cons (E.slc a lo hi) (.cons e2 es2)) (x :: r) cs = (evE g (E.slc a lo hi) (x :: r) cs).d.bind fun d r cs => (evAs g true (.cons e2 es2) r cs).bind fun as r cs => .ok (.val (.val d) :: as) r cs := rfl
theorem q_af_slc {g : Gc} {x : Sl} {r : List Sl} {cs : List C} {a : E} {lo hi : Es} {es2 : Es} : evAs g false (.cons (E.slc a lo hi) es2) (x :: r) cs = (evE g (E.slc a lo hi) (x :: r) cs).d.bind fun d r cs => (evAs g false es2 r cs).bind fun as r cs => .ok (.val (.val d) :: as) r cs := by cases es2 <;> rfl
theorem q_oP_rev {r : List Sl} {cs : List C} {a : E} {m9 : Res Rv} {k : Od → List Sl → List C → Prop} {e : Ex → List Sl → List C → Prop}   : (opd (E.rev a) r cs m9).P k e = m9.P (fun v r cs => (v.frz r cs).P (fun d r cs => k (.val d) r cs) e) e := oP_of (fun i z => by cases z)
theorem q_ob_rev {x : Sl} {r : List Sl} {cs : List C} {a : E} {v : Rv} {x9 : Sl} {ys : List Sl} {ds : List C} : opd (E.rev a) (x :: r) cs (.ok v (x9 :: ys) ds) = (v.frz (x9 :: ys) ds).bind fun d r cs => .ok (.val d) r cs := rfl
theorem q_al_rev {g : Gc} {x : Sl} {r : List Sl} {cs : List C} {a : E} : evAs g true (.cons (E.rev a) .nil) (x :: r) cs = (evE g (E.rev a) (x :: r) cs).bind fun v r cs => .ok [.val v] r cs := rfl
theorem q_am_rev {g : Gc} {x : Sl} {r : List Sl} {cs : List C} {a : E} {e2 : E} {es2 : Es} : evAs g true (.cons (E.rev a) (.cons e2 es2)) (x :: r) cs = (evE g (E.rev a) (x :: r) cs).d.bind fun d r cs => (evAs g true (.cons e2 es2) r cs).bind fun as r cs => .ok (.val (.val d) :: as) r cs := rfl
theorem q_af_rev {g : Gc} {x : Sl} {r : List Sl} {cs : List C} {a : E} {es2 : Es} : evAs g false (.cons (E.rev a) es2) (x :: r) cs = (evE g (E.rev a) (x :: r) cs).d.bind fun d r cs => (evAs g false es2 r cs).bind fun as r cs => .ok (.val (.val d) :: as) r cs := by cases es2 <;> rfl
theorem q_oP_call {r : List Sl} {cs : List C} {f : Nat} {l : Es} {ks : List Str} {kes : Es} {ord : List A0} {m9 : Res Rv} {k : Od → List Sl → List C → Prop} {e : Ex → List Sl → List C → Prop}   : (opd (E.call f l ks kes ord) r cs m9).P k e = m9.P (fun v r cs => (v.frz r cs).P (fun d r cs => k (.val d) r cs) e) e := oP_of (fun i z => by cases z)
theorem q_ob_call {x : Sl} {r : List Sl} {cs : List C} {f : Nat} {l : Es} {ks : List Str} {kes : Es} {ord : List A0} {v : Rv} {x9 : Sl} {ys : List Sl} {ds : List C} : opd (E.call f l ks kes ord) (x :: r) cs (.ok v (x9 :: ys) ds) = (v.frz (x9 :: ys) ds).bind fun d r cs => .ok (.val d) r cs := rfl
theorem q_al_call {g : Gc} {x : Sl} {r : List Sl} {cs : List C} {f : Nat} {l : Es} {ks : List Str} {kes : Es} {ord : List A0} : evAs g true (.cons (E.call f l ks kes ord) .nil) (x :: r) cs = (evE g (E.call f l ks kes ord) (x :: r) cs).bind fun v r cs => .ok [.val v] r cs := rfl
theorem q_am_call {g : Gc} {x : Sl} {r : List Sl} {cs : List C} {f : Nat} {l : Es} {ks : List Str} {kes : Es} {ord : List A0} {e2 : E} {es2 : Es} : evAs g true (.cons (E.call f l ks kes ord) (.cons e2 es2)) (x :: r) cs = (evE g (E.call f l ks kes ord) (x :: r) cs).d.bind fun d r cs => (evAs g true (.cons e2 es2) r cs).bind fun as r cs => .ok (.val (.val d) :: as) r cs := rfl
theorem q_af_call {g : Gc} {x : Sl} {r : List Sl} {cs : List C} {f : Nat} {l : Es} {ks : List Str} {kes : Es} {ord : List A0} {es2 : Es} : evAs g false (.cons (E.call f l ks kes ord) es2) (x :: r) cs = (evE g (E.call f l ks kes ord) (x :: r) cs).d.bind fun d r cs => (evAs g false es2 r cs).bind fun as r cs => .ok (.val (.val d) :: as) r cs := by cases es2 <;> rfl
theorem q_oP_bi {r : List Sl} {cs : List C} {b : Bi} {l : Es} {m9 : Res Rv} {k : Od → List Sl → List C → Prop} {e : Ex → List Sl → List C → Prop}   : (opd (E.bi b l) r cs m9).P k e = m9.P (fun v r cs => (v.frz r cs).P (fun d r cs => k (.val d) r cs) e) e := oP_of (fun i z => by cases z)
theorem q_ob_bi {x : Sl} {r : List Sl} {cs : List C} {b : Bi} {l : Es} {v : Rv} {x9 : Sl} {ys : List Sl} {ds : List C} : opd (E.bi b l) (x :: r) cs (.ok v (x9 :: ys) ds) = (v.frz (x9 :: ys) ds).bind fun d r cs => .ok (.val d) r cs := rfl
theorem q_al_bi {g : Gc} {x : Sl} {r : List Sl} {cs : List C} {b : Bi} {l : Es} : evAs g true (.cons (E.bi b l) .nil) (x :: r) cs = (evE g (E.bi b l) (x :: r) cs).bind fun v r cs => .ok [.val v] r cs := rfl
theorem q_am_bi {g : Gc} {x : Sl} {r : List Sl} {cs : List C} {b : Bi} {l : Es} {e2 : E} {es2 : Es} : evAs g true (.cons (E.bi b l) (.cons e2 es2)) (x :: r) cs = (evE g (E.bi b l) (x :: r) cs).d.bind fun d r cs => (evAs g true (.cons e2 es2) r cs).bind fun as r cs => .ok (.val (.val d) :: as) r cs := rfl
theorem q_af_bi {g : Gc} {x : Sl} {r : List Sl} {cs : List C} {b : Bi} {l : Es} {es2 : Es} : evAs g false (.cons (E.bi b l) es2) (x :: r) cs = (evE g (E.bi b l) (x :: r) cs).d.bind fun d r cs => (evAs g false es2 r cs).bind fun as r cs => .ok (.val (.val d) :: as) r cs := by cases es2 <;> rfl
theorem q_oP_isi {r : List Sl} {cs : List C} {t : Ty} {a : E} {m9 : Res Rv} {k : Od → List Sl → List C → Prop} {e : Ex → List Sl → List C → Prop}   : (opd (E.isi t a) r cs m9).P k e = m9.P (fun v r cs => (v.frz r cs).P (fun d r cs => k (.val d) r cs) e) e := oP_of (fun i z => by cases z)
theorem q_ob_isi {x : Sl} {r : List Sl} {cs : List C} {t : Ty} {a : E} {v : Rv} {x9 : Sl} {ys : List Sl} {ds : List C} : opd (E.isi t a) (x :: r) cs (.ok v (x9 :: ys) ds) = (v.frz (x9 :: ys) ds).bind fun d r cs => .ok (.val d) r cs := rfl
theorem q_al_isi {g : Gc} {x : Sl} {r : List Sl} {cs : List C} {t : Ty} {a : E} : evAs g true (.cons (E.isi t a) .nil) (x :: r) cs = (evE g (E.isi t a) (x :: r) cs).bind fun v r cs => .ok [.val v] r cs := rfl
theorem q_am_isi {g : Gc} {x : Sl} {r : List Sl} {cs : List C} {t : Ty} {a : E} {e2 : E} {es2 : Es} : evAs g true (.cons (E.isi t a) (.cons e2 es2)) (x :: r) cs = (evE g (E.isi t a) (x :: r) cs).d.bind fun d r cs => (evAs g true (.cons e2 es2) r cs).bind fun as r cs => .ok (.val (.val d) :: as) r cs := rfl
theorem q_af_isi {g : Gc} {x : Sl} {r : List Sl} {cs : List C} {t : Ty} {a : E} {es2 : Es} : evAs g false (.cons (E.isi t a) es2) (x :: r) cs = (evE g (E.isi t a) (x :: r) cs).d.bind fun d r cs => (evAs g false es2 r cs).bind fun as r cs => .ok (.val (.val d) :: as) r cs := by cases es2 <;> rfl
theorem q_oP_mut {r : List Sl} {cs : List C} {m : Mu} {i : Nat} {l : Es} {m9 : Res Rv} {k : Od → List Sl → List C → Prop} {e : Ex → List Sl → List C → Prop}   : (opd (E.mut m i l) r cs m9).P k e = m9.P (fun v r cs => (v.frz r cs).P (fun d r cs => k (.val d) r cs) e) e := oP_of (fun i z => by cases z)
theorem q_ob_mut {x : Sl} {r : List Sl} {cs : List C} {m : Mu} {i : Nat} {l : Es} {v : Rv} {x9 : Sl} {ys : List Sl} {ds : List C} : opd (E.mut m i l) (x :: r) cs (.ok v (x9 :: ys) ds) = (v.frz (x9 :: ys) ds).bind fun d r cs => .ok (.val d) r cs := rfl
theorem q_al_mut {g : Gc} {x : Sl} {r : List Sl} {cs : List C} {m : Mu} {i : Nat} {l : Es} : evAs g true (.cons (E.mut m i l) .nil) (x :: r) cs = (evE g (E.mut m i l) (x :: r) cs).bind fun v r cs => .ok [.val v] r cs := rfl
theorem q_am_mut {g : Gc} {x : Sl} {r : List Sl} {cs : List C} {m : Mu} {i : Nat} {l : Es} {e2 : E} {es2 : Es} : evAs g true (.cons (E.mut m i l) (.cons e2 es2)) (x :: r) cs = (evE g (E.mut m i l) (x :: r) cs).d.bind fun d r cs => (evAs g true (.cons e2 es2) r cs).bind fun as r cs => .ok (.val (.val d) :: as) r cs := rfl
theorem q_af_mut {g : Gc} {x : Sl} {r : List Sl} {cs : List C} {m : Mu} {i : Nat} {l : Es} {es2 : Es} : evAs g false (.cons (E.mut m i l) es2) (x :: r) cs = (evE g (E.mut m i l) (x :: r) cs).d.bind fun d r cs => (evAs g false es2 r cs).bind fun as r cs => .ok (.val (.val d) :: as) r cs := by cases es2 <;> rfl
theorem q_oP_op {r : List Sl} {cs : List C} {o9 : Ok} {l : Es} {m9 : Res Rv} {k : Od → List Sl → List C → Prop} {e : Ex → List Sl → List C → Prop}   : (opd (E.op o9 l) r cs m9).P k e = m9.P (fun v r cs => (v.frz r cs).P (fun d r cs => k (.val d) r cs) e) e := oP_of (fun i z => by cases z)
theorem q_ob_op {x : Sl} {r : List Sl} {cs : List C} {o9 : Ok} {l : Es} {v : Rv} {x9 : Sl} {ys : List Sl} {ds : List C} : opd (E.op o9 l) (x :: r) cs (.ok v (x9 :: ys) ds) = (v.frz (x9 :: ys) ds).bind fun d r cs => .ok (.val d) r cs := rfl
theorem q_al_op {g : Gc} {x : Sl} {r : List Sl} {cs : List C} {o9 : Ok} {l : Es} : evAs g true (.cons (E.op o9 l) .nil) (x :: r) cs = (evE g (E.op o9 l) (x :: r) cs).bind fun v r cs => .ok [.val v] r cs := rfl
theorem q_am_op {g : Gc} {x : Sl} {r : List Sl} {cs : List C} {o9 : Ok} {l : Es} {e2 : E} {es2 : Es} : evAs g true (.cons (E.op o9 l) (.cons e2 es2)) (x :: r) cs = (evE g (E.op o9 l) (x :: r) cs).d.bind fun d r cs => (evAs g true (.cons e2 es2) r cs).bind fun as r cs => .ok (.val (.val d) :: as) r cs := rfl
theorem q_af_op {g : Gc} {x : Sl} {r : List Sl} {cs : List C} {o9 : Ok} {l : Es} {es2 : Es} : evAs g false (.cons (E.op o9 l) es2) (x :: r) cs = (evE g (E.op o9 l) (x :: r) cs).d.bind fun d r cs => (evAs g false es2 r cs).bind fun as r cs => .ok (.val (.val d) :: as) r cs := by cases es2 <;> rfl
theorem q_oP_comp {r : List Sl} {cs : List C} {elt : E} {tg : Tg} {sr : Src} {cn : Es} {vs : List Nat} {m9 : Res Rv} {k : Od → List Sl → List C → Prop} {e : Ex → List Sl → List C → Prop}   : (opd (E.comp elt tg sr cn vs) r cs m9).P k e = m9.P (fun v r cs => (v.frz r cs).P (fun d r cs => k (.val d) r cs) e) e := oP_of (fun i z => by cases z)
theorem q_ob_comp {x : Sl} {r : List Sl} {cs : List C} {elt : E} {tg : Tg} {sr : Src} {cn : Es} {vs : List Nat} {v : Rv} {x9 : Sl} {ys : List Sl} {ds : List C} : opd (E.comp elt tg sr cn vs) (x :: r) cs (.ok v (x9 :: ys) ds) = (v.frz (x9 :: ys) ds).bind fun d r cs => .ok (.val d) r cs := rfl
theorem q_al_comp {g : Gc} {x : Sl} {r : List Sl} {cs : List C} {elt : E} {tg : Tg} {sr : Src} {cn : Es} {vs : List Nat} : evAs g true (.cons (E.comp elt tg sr cn vs) .nil) (x :: r) cs = (evE g (E.comp elt tg sr cn vs) (x :: r) cs).bind fun v r cs => .ok [.val v] r cs := rfl
theorem q_am_comp {g : Gc} {x : Sl} {r : List Sl} {cs : List C} {elt : E} {tg : Tg} {sr : Src} {cn : Es} {vs : List Nat} {e2 : E} {es2 : Es} : evAs g true (.cons (E.comp elt tg sr cn vs) (.cons e2 es2)) (x :: r) cs = (evE g (E.comp elt tg sr cn vs) (x :: r) cs).d.bind fun d r cs => (evAs g true (.cons e2 es2) r cs).bind fun as r cs => .ok (.val (.val d) :: as) r cs := rfl
theorem q_af_comp {g : Gc} {x : Sl} {r : List Sl} {cs : List C} {elt : E} {tg : Tg} {sr : Src} {cn : Es} {vs : List Nat} {es2 : Es} : evAs g false (.cons (E.comp elt tg sr cn vs) es2) (x :: r) cs = (evE g (E.comp elt tg sr cn vs) (x :: r) cs).d.bind fun d r cs => (evAs g false es2 r cs).bind fun as r cs => .ok (.val (.val d) :: as) r cs := by cases es2 <;> rfl
theorem q_c_nil {g : Gc} {x : Sl} {r : List Sl} {cs : List C} : evConds g .nil (x :: r) cs = .ok true (x :: r) cs := rfl
theorem q_c_cons {g : Gc} {x : Sl} {r : List Sl} {cs : List C} {e : E} {es : Es} : evConds g (.cons e es) (x :: r) cs = boolOf (evE g e (x :: r) cs) := rfl
theorem q_s_lst {g : Gc} {x : Sl} {r : List Sl} {cs : List C} {e : E} : evSrc g (.lst e) (x :: r) cs = (opd e (x :: r) cs (evE g e (x :: r) cs)).bind fun y r cs => (liftO ((rd r y).bind unSeq) r cs).bind fun q r cs => .ok (q.1, selL q.2 (lockOf [y] r)) r cs := rfl
theorem q_s_tup {g : Gc} {x : Sl} {r : List Sl} {cs : List C} {e : E} : evSrc g (.tup e) (x :: r) cs = (opd e (x :: r) cs (evE g e (x :: r) cs)).bind fun y r cs => (liftO ((rd r y).bind unTup) r cs).bind fun ds r cs => .ok (ds, []) r cs := rfl
theorem q_s_range {g : Gc} {x : Sl} {r : List Sl} {cs : List C} {es : Es} : evSrc g (.range es) (x :: r) cs = (evDs g es (x :: r) cs).bind fun ds r cs => (liftO (rngD ds) r cs).bind fun ds r cs => .ok (ds, []) r cs := rfl
theorem q_s_enum {g : Gc} {x : Sl} {r : List Sl} {cs : List C} {e : E} : evSrc g (.enum e) (x :: r) cs = (opd e (x :: r) cs (evE g e (x :: r) cs)).bind fun y r cs => (liftO ((rd r y).bind unLst) r cs).bind fun ds r cs => .ok (enumD ds, lockOf [y] r) r cs := rfl
theorem q_s_zip {g : Gc} {x : Sl} {r : List Sl} {cs : List C} {a b : E} : evSrc g (.zip a b) (x :: r) cs = (opd a (x :: r) cs (evE g a (x :: r) cs)).bind fun y r cs => (opd b r cs (evE g b r cs)).bind fun z r cs =>
      (liftO ((rd r y).bind unLst) r cs).bind fun ds r cs => (liftO ((rd r z).bind unLst) r cs).bind fun es r cs => .ok (zipD ds es, lockOf [y, z] r) r cs := rfl
theorem q_s_items {g : Gc} {x : Sl} {r : List Sl} {cs : List C} {e : E} : evSrc g (.items e) (x :: r) cs = (evE g e (x :: r) cs).d.bind fun d r cs => (liftO (unDct d) r cs).bind fun p r cs => .ok (itemsD p.1 p.2, []) r cs := rfl
theorem q_s_keys {g : Gc} {x : Sl} {r : List Sl} {cs : List C} {e : E} : evSrc g (.keys e) (x :: r) cs = (evE g e (x :: r) cs).d.bind fun d r cs => (liftO (unDct d) r cs).bind fun p r cs => .ok (p.1.map Key.d, []) r cs := rfl
theorem q_s_vals {g : Gc} {x : Sl} {r : List Sl} {cs : List C} {e : E} : evSrc g (.vals e) (x :: r) cs = (evE g e (x :: r) cs).d.bind fun d r cs => (liftO (unDct d) r cs).bind fun p r cs => .ok (p.2, []) r cs := rfl
theorem q_t_ex {g : Gc} {x : Sl} {r : List Sl} {cs : List C} {e : E} : evS g (.ex e) (x :: r) cs = (evE g e (x :: r) cs).bind fun _ r cs => .ok .nx r cs := rfl
theorem q_t_asg {g : Gc} {x : Sl} {r : List Sl} {cs : List C} {i : Nat} {e : E} : evS g (.asg i e) (x :: r) cs = (evE g e (x :: r) cs).bind fun v r cs => (liftO (setV i v r) r cs).bind fun r _ _ => .ok .nx r cs := rfl
theorem q_t_asgP {g : Gc} {x : Sl} {r : List Sl} {cs : List C} {ps : List Pt} {e : E} : evS g (.asgP ps e) (x :: r) cs = (evE g e (x :: r) cs).d.bind fun d r cs => (liftO ((unTup d).bind fun ds => setPs ps ds r) r cs).bind fun r _ _ => .ok .nx r cs := rfl
theorem q_t_asgT {g : Gc} {x : Sl} {r : List Sl} {cs : List C} {is : List Nat} {e : E} : evS g (.asgT is e) (x :: r) cs = (evE g e (x :: r) cs).d.bind fun d r cs => (liftO ((unTup d).bind fun ds => setVs is ds r) r cs).bind fun r _ _ => .ok .nx r cs := rfl
theorem q_t_aug {g : Gc} {x : Sl} {r : List Sl} {cs : List C} {i : Nat} {o : Op} {e : E} : evS g (.aug i o e) (x :: r) cs = auO ((x :: r)[i]?) i o (evE g e (x :: r) cs) := rfl
theorem q_t_setI {g : Gc} {x : Sl} {r : List Sl} {cs : List C} {i : Nat} {k e : E} : evS g (.setI i k e) (x :: r) cs = (evE g e (x :: r) cs).d.bind fun d r cs => (liftO (ownAt i r) r cs).bind fun _ r cs => (evE g k r cs).d.bind fun k r cs => (liftO (ownAt i r) r cs).bind fun p r cs =>
      (liftO (setC p.2 k d) r cs).bind fun c r cs => .ok .nx (r.set i (.own p.1 false c)) cs := rfl
theorem q_t_setI2 {g : Gc} {x : Sl} {r : List Sl} {cs : List C} {i j : Nat} {k l e : E} : evS g (.setI2 i k j l e) (x :: r) cs = (evE g e (x :: r) cs).d.bind fun d r cs => (liftO (unTwo d) r cs).bind fun q r cs =>
      (liftO (ownAt i r) r cs).bind fun _ r cs => (evE g k r cs).d.bind fun k r cs => (liftO (ownAt i r) r cs).bind fun p r cs => (liftO (setC p.2 k q.1) r cs).bind fun c _ cs => Res.bind (.ok () (r.set i (.own p.1 false c)) cs) fun _ r cs =>
      (liftO (ownAt j r) r cs).bind fun _ r cs => (evE g l r cs).d.bind fun k r cs => (liftO (ownAt j r) r cs).bind fun p r cs => (liftO (setC p.2 k q.2) r cs).bind fun c _ cs => Res.bind (.ok () (r.set j (.own p.1 false c)) cs) fun _ r cs => .ok .nx r cs := rfl
theorem q_t_whl {g : Gc} {x : Sl} {r : List Sl} {cs : List C} {c : E} {b : Ss} : evS g (.whl c b) (x :: r) cs = whB (fun r cs => boolOf (evE g c r cs)) (fun r cs => evSs g b r cs) (x :: r) cs := rfl
theorem q_t_ifs {g : Gc} {x : Sl} {r : List Sl} {cs : List C} {c : E} {a b : Ss} : evS g (.ifs c a b) (x :: r) cs = (boolOf (evE g c (x :: r) cs)).bind fun k r cs => br k (evSs g a r cs) (evSs g b r cs) := rfl
theorem q_t_for {g : Gc} {x : Sl} {r : List Sl} {cs : List C} {tg : Tg} {sr : Src} {b : Ss} : evS g (.for_ tg sr b) (x :: r) cs = (evSrc g sr (x :: r) cs).bind fun p r cs => forB tg (fun r cs => evSs g b r cs) p r cs := rfl
theorem q_t_retv {g : Gc} {x : Sl} {r : List Sl} {cs : List C} {i : Nat} : evS g (.ret (.var i)) (x :: r) cs = retV i (x :: r) cs := rfl
theorem q_tr_non {g : Gc} {x : Sl} {r : List Sl} {cs : List C}  : evS g (.ret (E.non)) (x :: r) cs = (evE g (E.non) (x :: r) cs).bind fun v r cs => .ok (.rt v) r cs := rfl
theorem q_tr_bl {g : Gc} {x : Sl} {r : List Sl} {cs : List C} {b : Bool} : evS g (.ret (E.bl b)) (x :: r) cs = (evE g (E.bl b) (x :: r) cs).bind fun v r cs => .ok (.rt v) r cs := rfl
theorem q_tr_int {g : Gc} {x : Sl} {r : List Sl} {cs : List C} {i : Int} : evS g (.ret (E.int i)) (x :: r) cs = (evE g (E.int i) (x :: r) cs).bind fun v r cs => .ok (.rt v) r cs := rfl
theorem q_tr_str {g : Gc} {x : Sl} {r : List Sl} {cs : List C} {s : Str} : evS g (.ret (E.str s)) (x :: r) cs = (evE g (E.str s) (x :: r) cs).bind fun v r cs => .ok (.rt v) r cs := rfl
theorem q_tr_glo {g : Gc} {x : Sl} {r : List Sl} {cs : List C} {y : Str} {c : Cst} : evS g (.ret (E.glo y c)) (x :: r) cs = (evE g (E.glo y c) (x :: r) cs).bind fun v r cs => .ok (.rt v) r cs := rfl
theorem q_tr_bin {g : Gc} {x : Sl} {r : List Sl} {cs : List C} {o : Op} {a b : E} : evS g (.ret (E.bin o a b)) (x :: r) cs = (evE g (E.bin o a b) (x :: r) cs).bind fun v r cs => .ok (.rt v) r cs := rfl
theorem q_tr_neg {g : Gc} {x : Sl} {r : List Sl} {cs : List C} {a : E} : evS g (.ret (E.neg a)) (x :: r) cs = (evE g (E.neg a) (x :: r) cs).bind fun v r cs => .ok (.rt v) r cs := rfl
theorem q_tr_cmp {g : Gc} {x : Sl} {r : List Sl} {cs : List C} {c : Cm} {a b : E} : evS g (.ret (E.cmp c a b)) (x :: r) cs = (evE g (E.cmp c a b) (x :: r) cs).bind fun v r cs => .ok (.rt v) r cs := rfl
theorem q_tr_cmp2 {g : Gc} {x : Sl} {r : List Sl} {cs : List C} {c c2 : Cm} {a b d : E} : evS g (.ret (E.cmp2 c c2 a b d)) (x :: r) cs = (evE g (E.cmp2 c c2 a b d) (x :: r) cs).bind fun v r cs => .ok (.rt v) r cs := rfl
theorem q_tr_and {g : Gc} {x : Sl} {r : List Sl} {cs : List C} {a b : E} : evS g (.ret (E.and a b)) (x :: r) cs = (evE g (E.and a b) (x :: r) cs).bind fun v r cs => .ok (.rt v) r cs := rfl
theorem q_tr_or {g : Gc} {x : Sl} {r : List Sl} {cs : List C} {a b : E} : evS g (.ret (E.or a b)) (x :: r) cs = (evE g (E.or a b) (x :: r) cs).bind fun v r cs => .ok (.rt v) r cs := rfl
theorem q_tr_not {g : Gc} {x : Sl} {r : List Sl} {cs : List C} {a : E} : evS g (.ret (E.not a)) (x :: r) cs = (evE g (E.not a) (x :: r) cs).bind fun v r cs => .ok (.rt v) r cs := rfl
theorem q_tr_ite {g : Gc} {x : Sl} {r : List Sl} {cs : List C} {c a b : E} : evS g (.ret (E.ite c a b)) (x :: r) cs = (evE g (E.ite c a b) (x :: r) cs).bind fun v r cs => .ok (.rt v) r cs := rfl
theorem q_tr_tup {g : Gc} {x : Sl} {r : List Sl} {cs : List C} {l : Es} : evS g (.ret (E.tup l)) (x :: r) cs = (evE g (E.tup l) (x :: r) cs).bind fun v r cs => .ok (.rt v) r cs := rfl
theorem q_tr_lst {g : Gc} {x : Sl} {r : List Sl} {cs : List C} {l : Es} : evS g (.ret (E.lst l)) (x :: r) cs = (evE g (E.lst l) (x :: r) cs).bind fun v r cs => .ok (.rt v) r cs := rfl
theorem q_tr_dct {g : Gc} {x : Sl} {r : List Sl} {cs : List C} {l : Es} : evS g (.ret (E.dct l)) (x :: r) cs = (evE g (E.dct l) (x :: r) cs).bind fun v r cs => .ok (.rt v) r cs := rfl
theorem q_tr_idx {g : Gc} {x : Sl} {r : List Sl} {cs : List C} {a i : E} : evS g (.ret (E.idx a i)) (x :: r) cs = (evE g (E.idx a i) (x :: r) cs).bind fun v r cs => .ok (.rt v) r cs := rfl
theorem q_tr_slc {g : Gc} {x : Sl} {r : List Sl} {cs : List C} {a : E} {lo hi : Es} : evS g (.ret (E.slc a lo hi)) (x :: r) cs = (evE g (E.slc a lo hi) (x :: r) cs).bind fun v r cs => .ok (.rt v) r cs := rfl
theorem q_tr_rev {g : Gc} {x : Sl} {r : List Sl} {cs : List C} {a : E} : evS g (.ret (E.rev a)) (x :: r) cs = (evE g (E.rev a) (x :: r) cs).bind fun v r cs => .ok (.rt v) r cs := rfl
theorem q_tr_call {g : Gc} {x : Sl} {r : List Sl} {cs : List C} {f : Nat} {l : Es} {ks : List Str} {kes : Es} {ord : List A0} : evS g (.ret (E.call f l ks kes ord)) (x :: r) cs = (evE g (E.call f l ks kes ord) (x :: r) cs).bind fun v r cs => .ok (.rt v) r cs := rfl
theorem q_tr_bi {g : Gc} {x : Sl} {r : List Sl} {cs : List C} {b : Bi} {l : Es} : evS g (.ret (E.bi b l)) (x :: r) cs = (evE g (E.bi b l) (x :: r) cs).bind fun v r cs => .ok (.rt v) r cs := rfl
theorem q_tr_isi {g : Gc} {x : Sl} {r : List Sl} {cs : List C} {t : Ty} {a : E} : evS g (.ret (E.isi t a)) (x :: r) cs = (evE g (E.isi t a) (x :: r) cs).bind fun v r cs => .ok (.rt v) r cs := rfl
theorem q_tr_mut {g : Gc} {x : Sl} {r : List Sl} {cs : List C} {m : Mu} {i : Nat} {l : Es} : evS g (.ret (E.mut m i l)) (x :: r) cs = (evE g (E.mut m i l) (x :: r) cs).bind fun v r cs => .ok (.rt v) r cs := rfl
theorem q_tr_op {g : Gc} {x : Sl} {r : List Sl} {cs : List C} {o9 : Ok} {l : Es} : evS g (.ret (E.op o9 l)) (x :: r) cs = (evE g (E.op o9 l) (x :: r) cs).bind fun v r cs => .ok (.rt v) r cs := rfl
theorem q_tr_comp {g : Gc} {x : Sl} {r : List Sl} {cs : List C} {elt : E} {tg : Tg} {sr : Src} {cn : Es} {vs : List Nat} : evS g (.ret (E.comp elt tg sr cn vs)) (x :: r) cs = (evE g (E.comp elt tg sr cn vs) (x :: r) cs).bind fun v r cs => .ok (.rt v) r cs := rfl
theorem q_t_retN {g : Gc} {x : Sl} {r : List Sl} {cs : List C} : evS g .retN (x :: r) cs = .ok (.rt (.val .non)) (x :: r) cs := rfl
theorem q_t_brk {g : Gc} {x : Sl} {r : List Sl} {cs : List C} : evS g .brk (x :: r) cs = .ok .bk (x :: r) cs := rfl
theorem q_t_cont {g : Gc} {x : Sl} {r : List Sl} {cs : List C} : evS g .cont (x :: r) cs = .ok .ct (x :: r) cs := rfl
theorem q_t_pass {g : Gc} {x : Sl} {r : List Sl} {cs : List C} : evS g .pass (x :: r) cs = .ok .nx (x :: r) cs := rfl
theorem q_ss_n {g : Gc} {x : Sl} {r : List Sl} {cs : List C} : evSs g .nil (x :: r) cs = .ok .nx (x :: r) cs := rfl
theorem q_ss_c {g : Gc} {x : Sl} {r : List Sl} {cs : List C} {s : S} {ss : Ss} : evSs g (.cons s ss) (x :: r) cs = (evS g s (x :: r) cs).bind fun fl r cs => sq fl (evSs g ss r cs) r cs := rfl
section
variable {α β : Type} {r : List Sl} {cs : List C} {i : Nat} {d : D} {io lk : Bool} {ds : List D}
theorem br_t {a b : Res α} : br true a b = a := rfl
theorem br_f {a b : Res α} : br false a b = b := rfl
theorem P_boolOf {m : Res Rv} {k : Bool → List Sl → List C → Prop} {e : Ex → List Sl → List C → Prop} : (boolOf m).P k e = m.P (fun v r cs => bk v fun b => k b r cs) e := by
  cases m with
  | ok v r cs =>
    cases v with
    | own c => rfl
    | val d => cases d <;> rfl
  | ex _ _ _ => rfl
  | no => rfl
theorem bk_b {b : Bool} {K : Bool → Prop} : bk (.val (.bl b)) K = K b := rfl
theorem P_d {m : Res Rv} {k : D → List Sl → List C → Prop} {e : Ex → List Sl → List C → Prop} : (m.d).P k e = m.P (fun v r cs => (v.frz r cs).P k e) e := P_bind
theorem sq_n {m : Res Fl} : sq .nx m r cs = m := rfl
theorem sq_r {m : Res Fl} {v : Rv} : sq (.rt v) m r cs = .ok (.rt v) r cs := rfl
theorem sq_b {m : Res Fl} : sq .bk m r cs = .ok .bk r cs := rfl
theorem sq_c {m : Res Fl} : sq .ct m r cs = .ok .ct r cs := rfl
theorem P_br {c : Prop} [Decidable c] {a b : Res α} {k : α → List Sl → List C → Prop} {e : Ex → List Sl → List C → Prop} (h1 : c → a.P k e) (h2 : ¬ c → b.P k e) : (br (decide c) a b).P k e := by
  by_cases h : c
  · rw [decide_eq_true h]; exact h1 h
  · rw [decide_eq_false h]; exact h2 h
theorem P_brB {c : Bool} {a b : Res α} {k : α → List Sl → List C → Prop} {e : Ex → List Sl → List C → Prop} (h1 : c = true → a.P k e) (h2 : c = false → b.P k e) : (br c a b).P k e := by
  cases c
  · exact h2 rfl
  · exact h1 rfl
theorem rv_ {x : Sl} : readVar i (x :: r) cs = rvO ((x :: r)[i]?) i (x :: r) cs := rfl
theorem rv_val : rvO (some (.val io d)) i r cs = .ok (.val d) r cs := rfl
theorem rv_lst : rvO (some (.own io false (.lst ds))) i r cs = .ok (.val (.lst ds)) (r.set i (.val io (.lst ds))) cs := rfl
theorem rv_dct {ks : List Key} : rvO (some (.own io false (.dct ks ds))) i r cs = .ok (.val (.dct ks ds)) (r.set i (.val io (.dct ks ds))) cs := rfl
theorem rt_ {x : Sl} : retV i (x :: r) cs = rtO ((x :: r)[i]?) i (x :: r) cs := by
  unfold retV rtO readVar rvO
  cases (x :: r)[i]? with
  | none => rfl
  | some y =>
    cases y with
    | own io lk c => cases io <;> cases lk <;> rfl
    | _ => rfl
theorem rt_val : rtO (some (.val io d)) i r cs = .ok (.rt (.val d)) r cs := rfl
theorem rt_own {c : C} : rtO (some (.own false false c)) i r cs = .ok (.rt (.own c)) (r.set i .no) cs := rfl
theorem rt_io : rtO (some (.own true false (.lst ds))) i r cs = .ok (.rt (.val (.lst ds))) (r.set i (.val true (.lst ds))) cs := rfl
theorem op_ {m : Res Rv} {x : Sl} : opd (.var i) (x :: r) cs m = opO ((x :: r)[i]?) i (x :: r) cs := rfl
theorem op_val : opO (some (.val io d)) i r cs = .ok (.val d) r cs := rfl
theorem op_own {c : C} : opO (some (.own io lk c)) i r cs = .ok (.slot i) r cs := rfl
theorem av_ {x : Sl} : argVar i (x :: r) cs = avO ((x :: r)[i]?) i (x :: r) cs := rfl
theorem av_val : avO (some (.val io d)) i r cs = .ok (.val (.val d)) r cs := rfl
theorem av_own {c : C} : avO (some (.own io false c)) i r cs = .ok (.slot i) r cs := rfl
theorem rd_v : rd r (.val d) = some d := rfl
theorem rd_ {x : Sl} : rd (x :: r) (.slot i) = rdO ((x :: r)[i]?) := rfl
theorem rd_sv : rdO (some (.val io d)) = some d := rfl
theorem rd_sl : rdO (some (.own io lk (.lst ds))) = some (.lst ds) := rfl
theorem rd_sd {ks : List Key} : rdO (some (.own io lk (.dct ks ds))) = some (.dct ks ds) := rfl
theorem lo_v : lockOf [.val d] r = [] := rfl
theorem lo_ {x : Sl} : lockOf [.slot i] (x :: r) = loO ((x :: r)[i]?) i := by
  unfold lockOf loO
  rw [List.filterMap_cons]
  dsimp only
  cases (x :: r)[i]? with
  | none => rfl
  | some y =>
    cases y with
    | own io lk c => cases lk <;> rfl
    | _ => rfl
theorem lo_val : loO (some (.val io d)) i = [] := rfl
theorem lo_own {c : C} : loO (some (.own io false c)) i = [i] := rfl
theorem lo_lk {c : C} : loO (some (.own io true c)) i = [] := rfl
theorem or_n {as : List Am} : ordA as [] = some [] := rfl
theorem or_a {as : List Am} {os : List A0} : ordA as (.at i :: os) = (as[i]?).bind fun a => (ordA as os).bind fun r => some (a :: r) := by
  show (match as[i]? with | some a => (match ordA as os with | some r => some (a :: r) | none => none) | none => none) = _
  cases as[i]? with
  | none => rfl
  | some a => cases ordA as os <;> rfl
theorem or_d {as : List Am} {os : List A0} {c : Cst} : ordA as (.df c :: os) = (ordA as os).bind fun r => some (Am.val (Rv.val c.d) :: r) := by
  show (match ordA as os with | some r => some (Am.val (Rv.val c.d) :: r) | none => none) = _
  cases ordA as os <;> rfl
theorem au_i {o : Op} {m : Res Rv} {a : Int} : auO (some (.val io (.int a))) i o m = m.d.bind fun d r cs => auI i o a d r cs := rfl
theorem au_ii {o : Op} {a b : Int} : auI i o a (.int b) r cs = (liftO (augI o a b) r cs).bind fun c r cs => (liftO (setS i (.val false (.int c)) r) r cs).bind fun r _ _ => .ok .nx r cs := rfl
theorem au_add {a b : Int} : augI .add a b = some (a + b) := rfl
theorem au_sub {a b : Int} : augI .sub a b = some (a - b) := rfl
theorem pb_n {vs : List Rv} : putBack [] vs r = r := rfl
theorem pb_v {v u : Rv} {as : List Am} {vs : List Rv} : putBack (Am.val v :: as) (u :: vs) r = putBack as vs r := rfl
theorem pb_s {x : Sl} {u : Rv} {as : List Am} {vs : List Rv} : putBack (Am.slot i :: as) (u :: vs) (x :: r) = putBack as vs (p1O ((x :: r)[i]?) i u (x :: r)) := by
  show putBack as vs (put1 i u (x :: r)) = _
  congr 1
theorem p1_oo {c c' : C} : p1O (some (.own io lk c)) i (.own c') r = r.set i (.own io lk c') := rfl
theorem p1_ov {c : C} : p1O (some (.own io lk c)) i (.val d) r = r.set i (.val io d) := rfl
theorem p1_v {u : Rv} : p1O (some (.val io d)) i u r = r := rfl
theorem rds_n {x : Sl} : rds (x :: r) [] = some [] := rfl
theorem rds_c {x : Sl} {o : Od} {os : List Od} : rds (x :: r) (o :: os) = (rd (x :: r) o).bind fun d => (rds (x :: r) os).bind fun ds => some (d :: ds) := by
  show (match rd (x :: r) o with | some d => (match rds (x :: r) os with | some ds => some (d :: ds) | none => none) | none => none) = _
  cases rd (x :: r) o with
  | none => rfl
  | some d => cases rds (x :: r) os <;> rfl
theorem sv_val {v : D} {x : Sl} : setV i (.val v) (x :: r) = setS i (.val false v) (x :: r) := rfl
theorem sv_own {c : C} {x : Sl} : setV i (.own c) (x :: r) = setS i (.own false false c) (x :: r) := rfl
theorem ss_ {x y : Sl} : setS i y (x :: r) = stO ((x :: r)[i]?) i y (x :: r) := rfl
theorem ss_no {y : Sl} : stO (some .no) i y r = some (r.set i y) := rfl
theorem ss_val {y : Sl} : stO (some (.val false d)) i y r = some (r.set i y) := rfl
theorem ss_own {y : Sl} {c : C} : stO (some (.own false false c)) i y r = some (r.set i y) := rfl
theorem oa_ {x : Sl} : ownAt i (x :: r) = oaO ((x :: r)[i]?) := rfl
theorem oa_own {c : C} : oaO (some (.own io false c)) = some (io, c) := rfl
theorem dd_val {x : Sl} : (Res.ok (Rv.val d) (x :: r) cs).d = .ok d (x :: r) cs := rfl
theorem dd_lst {x : Sl} : (Res.ok (Rv.own (.lst ds)) (x :: r) cs).d = .ok (.lst ds) (x :: r) cs := rfl
theorem dd_dct {x : Sl} {ks : List Key} : (Res.ok (Rv.own (.dct ks ds)) (x :: r) cs).d = .ok (.dct ks ds) (x :: r) cs := rfl
theorem bo_ok {b : Bool} : boolOf (.ok (.val (.bl b)) r cs) = .ok b r cs := rfl
theorem bin2_c {o : Op} {a b : D} : bin2 o [a, b] r cs = liftO (binD o a b) r cs := rfl
theorem cmp2_c {o : Cm} {a b : D} : cmp2 o [a, b] r cs = (liftO (cmpD o a b) r cs).bind fun b r cs => .ok (.val (.bl b)) r cs := rfl
theorem idx2_c {a b : D} : idx2 [a, b] r cs = (liftO (idxD a b) r cs).bind fun v r cs => .ok (.val v) r cs := rfl
theorem neg1_c {j : Int} : neg1 (.val (.int j)) r cs = .ok (.val (.int (-j))) r cs := rfl
theorem rev1_c : rev1 (.lst ds) r cs = .ok (.own (.lst ds.reverse)) r cs := rfl
theorem svs_n {x : Sl} : setVs [] [] (x :: r) = some (x :: r) := rfl
theorem svs_c {x : Sl} {is : List Nat} : setVs (i :: is) (d :: ds) (x :: r) = (setS i (.val false d) (x :: r)).bind fun r => setVs is ds r := rfl
theorem sps_n {x : Sl} : setPs [] [] (x :: r) = some (x :: r) := rfl
theorem sps_i {x : Sl} {ps : List Pt} : setPs (.n i :: ps) (d :: ds) (x :: r) = (setS i (.val false d) (x :: r)).bind fun r => setPs ps ds r := rfl
theorem sps_t {x : Sl} {is : List Nat} {es : List D} {ps : List Pt} : setPs (.t is :: ps) (.tup es :: ds) (x :: r) = (setVs is es (x :: r)).bind fun r => setPs ps ds r := rfl
theorem untup_c : unTup (.tup ds) = some ds := rfl
theorem unlst_c : unLst (.lst ds) = some ds := rfl
theorem unseq_l : unSeq (.lst ds) = some (ds, true) := rfl
theorem unseq_t : unSeq (.tup ds) = some (ds, false) := rfl
theorem undct_c {ks : List Key} : unDct (.dct ks ds) = some (ks, ds) := rfl
theorem untwo_c {d2 : D} : unTwo (.tup [d, d2]) = some (d, d2) := rfl
theorem sel_t {l : List Nat} : selL true l = l := rfl
theorem sel_f {l : List Nat} : selL false l = [] := rfl
end

/-! ### operations on data that is known -/
section
variable {i j : Int} {x y : D} {xs ys ds : List D} {a b : Bool} {s t : Str}
theorem f_add : binD .add (.int i) (.int j) = some (.val (.int (i + j))) := rfl
theorem f_addl (h : xs.length + ys.length ≤ 16777216) : binD .add (.lst xs) (.lst ys) = some (.own (.lst (xs ++ ys))) := by
  have h : xs.length + ys.length ≤ sizeLine := h
  simp only [binD, h, if_true]
theorem f_addt (h : xs.length + ys.length ≤ 16777216) : binD .add (.tup xs) (.tup ys) = some (.val (.tup (xs ++ ys))) := by
  have h : xs.length + ys.length ≤ sizeLine := h
  simp only [binD, h, if_true]
theorem f_sub : binD .sub (.int i) (.int j) = some (.val (.int (i - j))) := rfl
theorem f_mulL (h : small64 i = true) : binD .mul (.int i) (.int j) = some (.val (.int (i * j))) := by simp only [binD, h, Bool.true_or, if_true]
theorem f_mulR (h : small64 j = true) : binD .mul (.int i) (.int j) = some (.val (.int (i * j))) := by simp only [binD, h, Bool.or_true, if_true]
theorem f_fdiv (h : j ≠ 0) (h2 : -1073741824 < j) (h3 : j < 1073741824) : binD .fdiv (.int i) (.int j) = some (.val (.int (i.fdiv j))) := by
  have h2 : j.natAbs < 1073741824 := by omega
  simp only [binD, h, h2, ne_eq, not_false_eq_true, decide_true, Bool.and_self, if_true]
theorem f_mod (h : j ≠ 0) : binD .mod (.int i) (.int j) = some (.val (.int (i.fmod j))) := by simp only [binD, h, if_false]
theorem f_pow (h1 : 0 ≤ j) (h2 : j ≤ 1000000) (h3 : -18446744073709551616 < i) (h4 : i < 18446744073709551616) : binD .pow (.int i) (.int j) = some (.val (.int (i ^ j.toNat))) := by
  have h3 : i.natAbs < 2 ^ 64 := show i.natAbs < 18446744073709551616 by omega
  simp only [binD, h1, h2, h3, decide_true, Bool.and_self, if_true]
theorem f_lt : cmpD .lt (.int i) (.int j) = some (decide (i < j)) := rfl
theorem f_le : cmpD .le (.int i) (.int j) = some (decide (i ≤ j)) := rfl
theorem f_gt : cmpD .gt (.int i) (.int j) = some (decide (j < i)) := rfl
theorem f_ge : cmpD .ge (.int i) (.int j) = some (decide (j ≤ i)) := rfl
theorem f_eq : cmpD .eq (.int i) (.int j) = some (decide (i = j)) := by
  show some (i == j) = _
  congr 1
theorem f_ne : cmpD .ne (.int i) (.int j) = some (decide (i ≠ j)) := by
  show some (!(i == j)) = _
  congr 1
  by_cases h : i = j <;> simp [h]
theorem f_eqb : cmpD .eq (.bl a) (.bl b) = some (a == b) := rfl
theorem f_eqT2 {i2 j2 : Int} : cmpD .eq (.tup [.int i, .int i2]) (.tup [.int j, .int j2]) = some (i == j && (i2 == j2 && true)) := rfl
theorem f_isn : cmpD .is .non .non = some true := rfl
theorem f_isni : cmpD .is (.int i) .non = some false := rfl
theorem f_isnb : cmpD .is (.bl a) .non = some false := rfl
theorem f_isnl : cmpD .is (.lst ds) .non = some false := rfl
theorem f_isnt : cmpD .is (.tup ds) .non = some false := rfl
theorem f_nisn : cmpD .nis .non .non = some false := rfl
theorem f_nisni : cmpD .nis (.int i) .non = some true := rfl
theorem f_nisnl : cmpD .nis (.lst ds) .non = some true := rfl
theorem f_nisnt : cmpD .nis (.tup ds) .non = some true := rfl
theorem f_neb : cmpD .ne (.bl a) (.bl b) = some (!(a == b)) := rfl
theorem f_isb : cmpD .is (.bl a) (.bl b) = some (a == b) := rfl
theorem f_nisb : cmpD .nis (.bl a) (.bl b) = some (!(a == b)) := rfl
theorem plains_map (n : Nat) : ∀ ns : List Int, D.plains (n + 1) (ns.map .int) = true
  | [] => rfl
  | i :: ns => by
    show (true && D.plains (n + 1) (ns.map .int)) = true
    rw [plains_map n ns]; rfl
theorem f_nenil {ns : List Int} : cmpD .ne (.lst (ns.map .int)) (.lst []) = some (!ns.isEmpty) := by
  show ((if (D.lst (ns.map .int)).plain 60 && (D.lst []).plain 60 then some (PyData.eqv (D.lst (ns.map .int)).py (D.lst []).py) else none).map (!·)) = _
  have h : (D.lst (ns.map .int)).plain 60 = true := plains_map 58 ns
  rw [h]
  cases ns <;> rfl
theorem f_lenl : biD .len [.lst ds] = some (.val (.int ds.length)) := rfl
theorem f_lent : biD .len [.tup ds] = some (.val (.int ds.length)) := rfl
theorem f_abs : biD .abs [.int i] = some (.val (.int (if i < 0 then -i else i))) := rfl
theorem f_min : biD .min [.int i, .int j] = some (.val (.int (if j < i then j else i))) := rfl
theorem f_max : biD .max [.int i, .int j] = some (.val (.int (if i < j then j else i))) := rfl
theorem f_min3 {l : Int} : biD .min [.int i, .int j, .int l] = some (.val (.int (if j < i then (if l < j then l else j) else (if l < i then l else i)))) := rfl
theorem f_max3 {l : Int} : biD .max [.int i, .int j, .int l] = some (.val (.int (if i < j then (if j < l then l else j) else (if i < l then l else i)))) := rfl
theorem f_intb : biD .int [.bl b] = some (.val (.int (if b then 1 else 0))) := rfl
theorem f_int : biD .int [.int i] = some (.val (.int i)) := rfl
theorem f_str (h : i.natAbs.log2 < 1920) : biD .str [.int i] = some (.val (.str (toString i))) := by simp only [biD, h, if_true]
theorem f_listl : biD .list [.lst ds] = some (.own (.lst ds)) := rfl
theorem f_listt : biD .list [.tup ds] = some (.own (.lst ds)) := rfl
theorem f_tupl : biD .tuple [.lst ds] = some (.val (.tup ds)) := rfl
theorem f_tupt : biD .tuple [.tup ds] = some (.val (.tup ds)) := rfl
theorem f_ixl : idxD (.lst (x :: xs)) (.int i) = (ixN (x :: xs).length i).bind fun k => (x :: xs)[k]? := rfl
theorem f_ixt : idxD (.tup (x :: xs)) (.int i) = (ixN (x :: xs).length i).bind fun k => (x :: xs)[k]? := rfl
theorem ix_at {n : Nat} (h0 : 0 ≤ i) (h1 : i < n) : ixN n i = some i.toNat := by
  unfold ixN
  rw [if_pos h0, if_pos h1]
theorem ix_l (h0 : 0 ≤ i) (h1 : i < xs.length) {d : D} (h : xs[i.toNat]? = some d) : idxD (.lst xs) (.int i) = some d := by
  show (ixN xs.length i).bind (fun k => xs[k]?) = _
  rw [ix_at h0 h1]
  exact h
theorem ix_t (h0 : 0 ≤ i) (h1 : i < xs.length) {d : D} (h : xs[i.toNat]? = some d) : idxD (.tup xs) (.int i) = some d := by
  show (ixN xs.length i).bind (fun k => xs[k]?) = _
  rw [ix_at h0 h1]
  exact h
theorem f_set : setC (.lst ds) (.int j) x = (ixN ds.length j).map fun n => C.lst (ds.set n x) := by
  show (match ixN ds.length j with | some n => some (C.lst (ds.set n x)) | none => none) = _
  cases ixN ds.length j <;> rfl
theorem f_slcl {lo hi : Option Int} : slcD (.lst ds) lo hi = some (.own (.lst (cutD ds lo hi))) := rfl
theorem f_slcs {lo hi : Option Int} : slcD (.scr ds) lo hi = some (.own (.lst (cutD ds lo hi))) := rfl
theorem f_slct {lo hi : Option Int} : slcD (.tup ds) lo hi = some (.val (.tup (cutD ds lo hi))) := rfl
theorem part0 : partD [] = some none := rfl
theorem part1 : partD [.int i] = some (some i) := rfl
theorem isl_l : C.isLst (.lst ds) = true := rfl
theorem ix_ex (h0 : 0 ≤ i) (h1 : i < ds.length) : ∃ d, d ∈ ds ∧ idxD (.lst ds) (.int i) = some d := by
  have hk : i.toNat < ds.length := by omega
  exact ⟨ds[i.toNat], List.getElem_mem hk, ix_l h0 h1 (List.getElem?_eq_getElem hk)⟩
theorem lix_P {r : List Sl} {cs : List C} {k : D → List Sl → List C → Prop} {e : Ex → List Sl → List C → Prop} (h0 : 0 ≤ i) (h1 : i < ds.length) (h : ∀ d ∈ ds, k d r cs) : (liftO (idxD (.lst ds) (.int i)) r cs).P k e := by
  obtain ⟨d, hm, q⟩ := ix_ex h0 h1
  rw [q]
  exact h d hm
theorem f_app (h : ds.length < 16777216) : muC .append (.lst ds) [x] = some (.non, .lst (ds ++ [x])) := by
  have h : ds.length < sizeLine := h
  simp only [muC, h, if_true]
theorem f_mkT {r : List Sl} {cs : List C} (h : ds.length ≤ 16777216) : mkT ds r cs = .ok (.val (.tup ds)) r cs := if_pos h
theorem f_mkL {r : List Sl} {cs : List C} (h : ds.length ≤ 16777216) : mkL ds r cs = .ok (.own (.lst ds)) r cs := if_pos h
theorem sm64_of (h1 : -18446744073709551616 < i) (h2 : i < 18446744073709551616) : small64 i = true := by
  show (decide ((-i).toNat < 18446744073709551616) && decide (i.toNat < 18446744073709551616)) = true
  rw [decide_eq_true (by omega), decide_eq_true (by omega)]; rfl
theorem ix0 {n : Nat} : ixN (n + 1) 0 = some 0 := by unfold ixN; rw [if_pos (by decide), if_pos (by omega)]; rfl
theorem ix1 {n : Nat} : ixN (n + 2) 1 = some 1 := by unfold ixN; rw [if_pos (by decide), if_pos (by omega)]; rfl
theorem ix2 {n : Nat} : ixN (n + 3) 2 = some 2 := by unfold ixN; rw [if_pos (by decide), if_pos (by omega)]; rfl
theorem ix3 {n : Nat} : ixN (n + 4) 3 = some 3 := by unfold ixN; rw [if_pos (by decide), if_pos (by omega)]; rfl
theorem ixm1 {n : Nat} : ixN (n + 1) (-1) = some n := by
  unfold ixN
  rw [if_neg (by decide), if_pos (by omega)]
  congr 1
  omega
theorem isl_d {ks : List Key} : C.isLst (.dct ks ds) = false := rfl
theorem ints_map : ∀ ns : List Int, ints? (ns.map .int) = some ns
  | [] => rfl
  | i :: ns => by
    show (ints? (ns.map .int)).map (i :: ·) = _
    rw [ints_map ns]; rfl
theorem pre_lenSet : preD .lenSet x = some () := rfl
theorem pre_sortSet : preD .sortSet x = some () := rfl
theorem pre_inVals : preD .inVals x = some () := rfl
theorem pre_ninVals : preD .ninVals x = some () := rfl
theorem pre_lr1 : preD .lrange1 x = some () := rfl
theorem pre_lr2 : preD .lrange2 x = some () := rfl
theorem pre_dictOf : preD .dictOf x = some () := rfl
theorem pre_min1 : preD .min1 x = some () := rfl
theorem pre_max1 : preD .max1 x = some () := rfl
theorem pre_get1 {ks : List Key} : preD .get1 (.dct ks ds) = some () := rfl
theorem pre_get2 {ks : List Key} : preD .get2 (.dct ks ds) = some () := rfl
theorem f_lenSet {ns : List Int} (h : ns.length ≤ 4000) : opD .lenSet [.lst (ns.map .int)] = some (.val (.int (dedI ns).length)) := by
  show ((ints? (ns.map .int)).bind fun ns => _) = _
  rw [ints_map]
  exact if_pos h
theorem f_sortSet {ns : List Int} (h : ns.length < 64) : opD .sortSet [.lst (ns.map .int)] = some (.own (.lst ((sortI (dedI ns)).map .int))) := by
  show ((ints? (ns.map .int)).bind fun ns => _) = _
  rw [ints_map]
  exact if_pos h
theorem f_get1 {ks : List Key} : opD .get1 [.dct ks ds, .int i] = some (.val ((getK ks ds (.inl i)).getD .non)) := rfl
theorem f_get2 {ks : List Key} : opD .get2 [.dct ks ds, .int i, .int j] = some (.val ((getK ks ds (.inl i)).getD (.int j))) := rfl
theorem f_get2b {ks : List Key} : opD .get2 [.dct ks ds, .int i, .bl a] = some (.val ((getK ks ds (.inl i)).getD (.bl a))) := rfl
theorem f_inVals {ks : List Key} {ns : List Int} : opD .inVals [.int i, .dct ks (ns.map .int)] = some (.val (.bl (ns.contains i))) := by
  show (ints? (ns.map .int)).map _ = _
  rw [ints_map]; rfl
theorem f_ninVals {ks : List Key} {ns : List Int} : opD .ninVals [.int i, .dct ks (ns.map .int)] = some (.val (.bl (!ns.contains i))) := by
  show (ints? (ns.map .int)).map _ = _
  rw [ints_map]; rfl
theorem f_lr1 (h0 : -4611686018427387904 ≤ j) (h : j ≤ 16777216) : opD .lrange1 [.int j] = some (.own (.lst (rangeD 0 j.toNat))) := by
  refine if_pos ?_
  have : small62 j = true := by
    show (decide ((-j).toNat ≤ 4611686018427387904) && decide (j.toNat < 4611686018427387904)) = true
    rw [decide_eq_true (by omega), decide_eq_true (by omega)]; rfl
  rw [this, decide_eq_true (by omega)]; rfl
theorem f_min1 {ns : List Int} : opD .min1 [.lst (.int i :: ns.map .int)] = some (.val (.int (leastI i ns))) := by
  show ((ints? ((i :: ns).map .int)).bind fun ns => _) = _
  rw [ints_map]; rfl
theorem f_max1 {ns : List Int} : opD .max1 [.lst (.int i :: ns.map .int)] = some (.val (.int (mostI i ns))) := by
  show ((ints? ((i :: ns).map .int)).bind fun ns => _) = _
  rw [ints_map]; rfl
theorem f_sort {ns : List Int} : biD .sorted [.lst (ns.map .int)] = some (.own (.lst ((sortI ns).map .int))) := by
  show (match ints? (ns.map .int) with | some ns => some (Rv.own (.lst ((sortI ns).map .int))) | none => _) = _
  rw [ints_map]
theorem f_sum {ns : List Int} : biD .sum [.lst (ns.map .int)] = some (.val (.int ns.sum)) := by
  show (ints? (ns.map .int)).map _ = _
  rw [ints_map]; rfl
theorem bools_map : ∀ ns : List Bool, bools? (ns.map .bl) = some ns
  | [] => rfl
  | i :: ns => by
    show (bools? (ns.map .bl)).map (i :: ·) = _
    rw [bools_map ns]; rfl
theorem f_anyb {ns : List Bool} : biD .any [.lst (ns.map .bl)] = some (.val (.bl (ns.any id))) := by
  show (bools? (ns.map .bl)).map _ = _
  rw [bools_map]; rfl
theorem f_allb {ns : List Bool} : biD .all [.lst (ns.map .bl)] = some (.val (.bl (ns.all id))) := by
  show (bools? (ns.map .bl)).map _ = _
  rw [bools_map]; rfl
theorem any_eqv (i : Int) : ∀ ns : List Int, ((ns.map D.int).any fun z => PyData.eqv z.py (D.int i).py) = decide (i ∈ ns)
  | [] => by simp
  | j :: ns => by
    rw [List.map_cons, List.any_cons, any_eqv i ns]
    have : PyData.eqv (D.int j).py (D.int i).py = (j == i) := rfl
    rw [this]
    by_cases h : j = i
    · subst h; simp
    · have h2 : ¬ i = j := fun z => h z.symm
      simp [h, h2]
theorem f_meml {ns : List Int} : cmpD .mem (.int i) (.lst (ns.map .int)) = some (decide (i ∈ ns)) := by
  show (if (D.int i).plain 50 && D.plains 50 (ns.map .int) then some ((ns.map D.int).any fun z => PyData.eqv z.py (D.int i).py) else none) = _
  rw [plains_map 49 ns, any_eqv]
  rfl
theorem f_nmeml {ns : List Int} : cmpD .nmem (.int i) (.lst (ns.map .int)) = some (!decide (i ∈ ns)) := by
  show (cmpD .mem (.int i) (.lst (ns.map .int))).map (!·) = _
  rw [f_meml]; rfl
theorem f_memd {ks : List Key} : cmpD .mem (.int i) (.dct ks ds) = some (hasK ks (.inl i)) := rfl
theorem f_nmemd {ks : List Key} : cmpD .nmem (.int i) (.dct ks ds) = some (!hasK ks (.inl i)) := rfl
theorem f_ixd {ks : List Key} : idxD (.dct ks ds) (.int i) = getK ks ds (.inl i) := rfl
theorem f_lend {ks : List Key} : biD .len [.dct ks ds] = some (.val (.int ks.length)) := rfl
theorem f_setd {ks : List Key} (h : ks.length < 16777216) : setC (.dct ks ds) (.int j) x = some (.dct (putK' ks ds (.inl j) x).1 (putK' ks ds (.inl j) x).2) := by
  have h : ks.length < sizeLine := h
  simp only [setC, keyD, h, if_true]
theorem f_dct0 : dctD [] = some (.own (.dct [] [])) := rfl
theorem f_ins (h : ds.length < 16777216) (h0 : 0 ≤ i) (h1 : i < 9223372036854775808) : muC .insert (.lst ds) [.int i, x] = some (.non, .lst (ds.take i.toNat ++ [x] ++ ds.drop i.toNat)) := by
  have h : ds.length < sizeLine := h
  have h1 : small63 i = true := by
    show (decide ((-i).toNat ≤ 9223372036854775808) && decide (i.toNat < 9223372036854775808)) = true
    rw [decide_eq_true (by omega), decide_eq_true (by omega)]; rfl
  simp only [muC, h, h0, h1, decide_true, Bool.and_self, if_true]
theorem f_isi20 {ks : List Key} : isiD .dict (.dct ks ds) = some true := rfl
theorem f_isi21 {ks : List Key} : isiD .list (.dct ks ds) = some false := rfl
theorem f_isi22 : isiD .dict (.lst ds) = some false := rfl
theorem f_isi23 : isiD .list .non = some false := rfl
theorem f_isi24 : isiD .bool .non = some false := rfl
theorem f_isi25 : isiD .bool (.lst ds) = some false := rfl
theorem f_isi26 : isiD .bool (.tup ds) = some false := rfl
theorem f_isi27 : isiD .bool (.str s) = some false := rfl
theorem f_isi28 : isiD .list (.bl b) = some false := rfl
theorem f_isi29 : isiD .list (.str s) = some false := rfl
theorem f_isi30 : isiD .str (.str s) = some true := rfl
theorem f_isi1 : isiD .int (.int i) = some true := rfl
theorem f_isi2 : isiD .bool (.int i) = some false := rfl
theorem f_isi3 : isiD .tuple (.tup ds) = some true := rfl
theorem f_isi4 : isiD .list (.lst ds) = some true := rfl
theorem f_isi5 : isiD .tuple (.lst ds) = some false := rfl
theorem f_isi6 : isiD .list (.tup ds) = some false := rfl
theorem f_isi7 : isiD .tuple (.int i) = some false := rfl
theorem f_isi8 : isiD .list (.int i) = some false := rfl
theorem f_isi9 : isiD .int (.bl b) = some true := rfl
theorem f_isi10 : isiD .bool (.bl b) = some true := rfl
theorem f_isi11 : isiD .tuple (.bl b) = some false := rfl
theorem f_isi12 : isiD .int .non = some false := rfl
theorem f_isi13 : isiD .tuple .non = some false := rfl
theorem f_isi14 : isiD .int (.str s) = some false := rfl
theorem f_isi15 : isiD .tuple (.str s) = some false := rfl
theorem f_isi16 : isiD .int (.tup ds) = some false := rfl
theorem f_isi17 : isiD .int (.lst ds) = some false := rfl
theorem f_isi18 {ks : List Key} : isiD .tuple (.dct ks ds) = some false := rfl
theorem f_isi19 {ks : List Key} : isiD .int (.dct ks ds) = some false := rfl
end

/-- behind a comprehension: its own names as they were -/
def rstO (o : Option Sl) (i : Nat) (r : List Sl) : List Sl := match o with
  | some x => r.set i x
  | none => r
theorem rest_n {r0 r : List Sl} : restS [] r0 r = r := rfl
theorem rest_c {i : Nat} {vs : List Nat} {x : Sl} {r0 r : List Sl} : restS (i :: vs) (x :: r0) r = restS vs (x :: r0) (rstO ((x :: r0)[i]?) i r) := rfl
theorem rst_s {i : Nat} {x y : Sl} {r : List Sl} : rstO (some x) i (y :: r) = (y :: r).set i x := rfl
theorem pre_repr {x : D} : preD .repr x = some () := rfl
/-! ### what repr shows: its length -/
def Key.sz : Key → Nat
  | .inl _ => 602
  | .inr s => (reprText s).length
mutual
def D.sz : D → Nat
  | .int _ => 602
  | .str s => (reprText s).length
  | .tup ds => D.szs ds + 3
  | .lst ds => D.szs ds + 3
  | .non => 5
  | .bl _ => 5
  | .dct ks ds => (ks.map fun k => Key.sz k + 4).sum + D.szs ds + 3
  | .scr _ => 5
  | .obj _ => 5
  | .fn _ => 5
  | .exc _ _ => 5
def D.szs : List D → Nat
  | [] => 0
  | d :: ds => d.sz + 2 + D.szs ds
end
theorem digits_len {i : Int} (h : i.natAbs.log2 < 1920) : (Str.ofString (toString i)).length ≤ 602 := by
  have hb : i.natAbs < 2 ^ 1920 := by
    by_cases h0 : i.natAbs = 0
    · rw [h0]; exact Nat.two_pow_pos _
    · exact (Nat.log2_lt h0).mp h
  have hp : (2 : Nat) ^ 1920 ≤ 10 ^ 600 := by decide +kernel
  have hn : ((i.natAbs : Nat) : Int) < 10 ^ 600 := by exact_mod_cast Nat.lt_of_lt_of_le hb hp
  cases i with
  | ofNat m => exact Nat.le_trans (PyProof.Rows.toString_length_le (k := 600) (Int.natCast_nonneg _) (by decide) hn) (by decide)
  | negSucc m =>
    have e : (toString (Int.negSucc m) : String) = "-" ++ toString ((m + 1 : Nat) : Int) := rfl
    have q : (Str.ofString (toString ((m + 1 : Nat) : Int))).length ≤ 600 := PyProof.Rows.toString_length_le (k := 600) (Int.natCast_nonneg _) (by decide) hn
    rw [e]
    have e2 : (Str.ofString ("-" ++ toString ((m + 1 : Nat) : Int))).length = 1 + (Str.ofString (toString ((m + 1 : Nat) : Int))).length := by
      rw [PyProof.Rows.ofString_length, PyProof.Rows.ofString_length, String.toList_append, List.length_append]
      rfl
    omega
theorem listText_len (ts : List Str) : (listText ts).length ≤ piled ts + 3 := by
  cases ts with
  | nil => decide +kernel
  | cons t r =>
    have e : (listText (t :: r)).length = (textFrom 0 "[" (t :: r)).length + 1 := by
      unfold listText
      rw [strLen_append]; rfl
    have e2 : (textFrom 0 "[" (t :: r)).length = (("[" : Str) ++ (if (0 : Nat) > 0 then ", " else "" : String) ++ t).length + piled r := textFrom_length_pos r 1 _ (by decide)
    have e3 : (("[" : Str) ++ (if (0 : Nat) > 0 then ", " else "" : String) ++ t).length = 1 + t.length := by
      rw [strLen_append, strLen_append]; rfl
    rw [piled_cons]
    omega
theorem dictText_len (ts : List Str) : (dictText ts).length ≤ piled ts + 3 := by
  unfold dictText
  rw [strLen_append, strLen_append]
  have e1 : ((("{" : String) : Str)).length = 1 := rfl
  have e2 : ((("}" : String) : Str)).length = 1 := rfl
  rw [e1, e2]
  by_cases h : ts = []
  · subst h
    decide +kernel
  · have := join_length_add ts h
    omega
theorem kzip_sz : ∀ (ks : List Key) (ps : List PyData), ks.all Key.rok = true → piled (PyData.shownKv (kzip ks ps)) ≤ (ks.map fun k => Key.sz k + 4).sum + piled (PyData.shownAll ps)
  | [], ps, _ => by cases ps <;> exact Nat.zero_le _
  | k :: ks, [], _ => Nat.zero_le _
  | k :: ks, p :: ps, h => by
    rw [List.all_cons, Bool.and_eq_true] at h
    have ih := kzip_sz ks ps h.2
    have hk : (Key.py k).shown.length ≤ Key.sz k := by
      cases k with
      | inl i => rw [Key.py, PyData.shown, Key.sz]; exact digits_len (of_decide_eq_true h.1)
      | inr s => rw [Key.py, PyData.shown, Key.sz]; exact Nat.le_refl _
    have e1 : (((": " : String) : Str)).length = 2 := rfl
    rw [kzip, PyData.shownKv, PyData.shownAll, piled_cons, piled_cons, List.map_cons, List.sum_cons, strLen_append, strLen_append, e1]
    omega
mutual
theorem shown_sz : ∀ (d : D) (n : Nat), d.rok n = true → d.pyR.shown.length ≤ d.sz
  | .non, _, _ => by rw [D.pyR, PyData.shown, D.sz]; decide +kernel
  | .bl b, _, _ => by rw [D.pyR, PyData.shown, D.sz]; cases b <;> decide +kernel
  | .str s, _, _ => by rw [D.pyR, PyData.shown, D.sz]; exact Nat.le_refl _
  | .int i, n, h => by
    obtain ⟨m, rfl⟩ := rok_succ h
    rw [D.pyR, PyData.shown, D.sz]
    exact digits_len (by simpa [D.rok] using h)
  | .tup ds, n, h => by
    obtain ⟨m, rfl⟩ := rok_succ h
    have := shown_szs ds m (by simpa [D.rok] using h)
    rw [D.pyR, PyData.shown, D.sz]
    exact Nat.le_trans (fmt_text _) (by omega)
  | .lst ds, n, h => by
    obtain ⟨m, rfl⟩ := rok_succ h
    have := shown_szs ds m (by simpa [D.rok] using h)
    rw [D.pyR, PyData.shown, D.sz]
    exact Nat.le_trans (listText_len _) (by omega)
  | .dct ks ds, n, h => by
    obtain ⟨m, rfl⟩ := rok_succ h
    have h : ((ks.all Key.rok && decide (ks.length = ds.length)) && D.roks m ds) = true := by simpa [D.rok, and_assoc] using h
    obtain ⟨h1, h3⟩ := Bool.and_eq_true_iff.mp h
    have a := shown_szs ds m h3
    have b := kzip_sz ks (D.pyRs ds) (Bool.and_eq_true_iff.mp h1).1
    rw [D.pyR, PyData.shown, D.sz]
    exact Nat.le_trans (dictText_len _) (by omega)
  | .scr _, n, h => by
    obtain ⟨m, rfl⟩ := rok_succ h
    simp [D.rok] at h
  | .obj _, n, h => by
    obtain ⟨m, rfl⟩ := rok_succ h
    simp [D.rok] at h
  | .fn _, n, h => by
    obtain ⟨m, rfl⟩ := rok_succ h
    simp [D.rok] at h
  | .exc _ _, n, h => by
    obtain ⟨m, rfl⟩ := rok_succ h
    simp [D.rok] at h
theorem shown_szs : ∀ (ds : List D) (n : Nat), D.roks n ds = true → piled (PyData.shownAll (D.pyRs ds)) ≤ D.szs ds
  | [], _, _ => Nat.le_refl _
  | d :: ds, n, h => by
    have h : (d.rok n && D.roks n ds) = true := by simpa [D.roks] using h
    obtain ⟨h1, h2⟩ := Bool.and_eq_true_iff.mp h
    have a := shown_sz d n h1
    have b := shown_szs ds n h2
    rw [D.pyRs, PyData.shownAll, piled_cons, D.szs]
    omega
end
def shw (d : D) : D := .str d.pyR.shown
theorem f_repr {d : D} (h1 : d.rok 50 = true) (h2 : d.sz ≤ 16777216) : opD .repr [d] = some (.val (shw d)) := by
  have h3 : d.pyR.shown.length ≤ sizeLine := Nat.le_trans (shown_sz d 50 h1) h2
  show (if d.rok 50 && decide (d.pyR.shown.length ≤ sizeLine) then some (Rv.val (.str d.pyR.shown)) else none) = _
  rw [h1, decide_eq_true h3]; rfl
theorem f_neshw {d : D} : cmpD .ne (shw d) (shw d) = some false := by
  show some (!(d.pyR.shown == d.pyR.shown)) = _
  rw [beq_self_eq_true]; rfl
theorem f_eqshw {d : D} : cmpD .eq (shw d) (shw d) = some true := by
  show some (d.pyR.shown == d.pyR.shown) = _
  rw [beq_self_eq_true]
theorem sml_of {i : Int} (h0 : -1152921504606846976 < i) (h1 : i < 1152921504606846976) : i.natAbs.log2 < 1920 := by
  by_cases h : i.natAbs = 0
  · rw [h]; decide
  · have h2 : i.natAbs < 2 ^ 60 := show i.natAbs < 1152921504606846976 by omega
    exact Nat.lt_trans ((Nat.log2_lt h).mpr h2) (by decide)
theorem roks_map {α : Type} {f : α → D} {n : Nat} : ∀ {l : List α}, (∀ x ∈ l, (f x).rok n = true) → D.roks n (l.map f) = true
  | [], _ => by rw [List.map_nil, D.roks]
  | x :: l, h => by
    rw [List.map_cons, D.roks, h x List.mem_cons_self, roks_map fun y hy => h y (List.mem_cons_of_mem _ hy)]; rfl
theorem szs_map {α : Type} {f : α → D} {k : Nat} : ∀ {l : List α}, (∀ x ∈ l, (f x).sz ≤ k) → D.szs (l.map f) ≤ l.length * (k + 2)
  | [], _ => by rw [List.map_nil, D.szs]; exact Nat.zero_le _
  | x :: l, h => by
    have a := h x List.mem_cons_self
    have b := szs_map (l := l) (k := k) fun y hy => h y (List.mem_cons_of_mem _ hy)
    rw [List.map_cons, D.szs, List.length_cons, Nat.add_mul]
    omega
theorem szs_append : ∀ (l m : List D), D.szs (l ++ m) = D.szs l + D.szs m
  | [], m => by rw [List.nil_append, D.szs, Nat.zero_add]
  | x :: l, m => by
    rw [List.cons_append, D.szs, D.szs, szs_append l m]
    omega
theorem roks_append {n : Nat} : ∀ (l m : List D), D.roks n (l ++ m) = (D.roks n l && D.roks n m)
  | [], m => by rw [List.nil_append, D.roks, Bool.true_and]
  | x :: l, m => by
    rw [List.cons_append, D.roks, D.roks, roks_append l m, Bool.and_assoc]
end Vi

namespace Vi
open PySem L2
local macro_rules
  | `(tactic| simp! only [$ls,*] $[$l:location]?) => `(tactic| simp only [q_e_var, q_e_non, q_e_bl, q_e_int, q_e_str, q_e_glo, q_e_bin, q_e_neg, q_e_cmp, q_e_cmp2, q_e_and, q_e_or, q_e_not, q_e_ite, q_e_tup, q_e_lst, q_e_dct, q_e_idx, q_e_slc, q_e_rev, q_e_call, q_e_bi, q_e_op, q_op_cons, q_e_isi, q_e_mut, q_e_comp, q_d_nil, q_d_cons, q_o_nil, q_o_cons, q_a_nil, q_a_var, q_oP_non, q_ob_non, q_al_non, q_am_non, q_af_non, q_oP_bl, q_ob_bl, q_al_bl, q_am_bl, q_af_bl, q_oP_int, q_ob_int, q_al_int, q_am_int, q_af_int, q_oP_str, q_ob_str, q_al_str, q_am_str, q_af_str, q_oP_glo, q_ob_glo, q_al_glo, q_am_glo, q_af_glo, q_oP_bin, q_ob_bin, q_al_bin, q_am_bin, q_af_bin, q_oP_neg, q_ob_neg, q_al_neg, q_am_neg, q_af_neg, q_oP_cmp, q_ob_cmp, q_al_cmp, q_am_cmp, q_af_cmp, q_oP_cmp2, q_ob_cmp2, q_al_cmp2, q_am_cmp2, q_af_cmp2, q_oP_and, q_ob_and, q_al_and, q_am_and, q_af_and, q_oP_or, q_ob_or, q_al_or, q_am_or, q_af_or, q_oP_not, q_ob_not, q_al_not, q_am_not, q_af_not, q_oP_ite, q_ob_ite, q_al_ite, q_am_ite, q_af_ite, q_oP_tup, q_ob_tup, q_al_tup, q_am_tup, q_af_tup, q_oP_lst, q_ob_lst, q_al_lst, q_am_lst, q_af_lst, q_oP_dct, q_ob_dct, q_al_dct, q_am_dct, q_af_dct, q_oP_idx, q_ob_idx, q_al_idx, q_am_idx, q_af_idx, q_oP_slc, q_ob_slc, q_al_slc, q_am_slc, q_af_slc, q_oP_rev, q_ob_rev, q_al_rev, q_am_rev, q_af_rev, q_oP_call, q_ob_call, q_al_call, q_am_call, q_af_call, q_oP_bi, q_ob_bi, q_al_bi, q_am_bi, q_af_bi, q_oP_isi, q_ob_isi, q_al_isi, q_am_isi, q_af_isi, q_oP_mut, q_ob_mut, q_al_mut, q_am_mut, q_af_mut, q_oP_op, q_ob_op, q_al_op, q_am_op, q_af_op, q_oP_comp, q_ob_comp, q_al_comp, q_am_comp, q_af_comp, q_c_nil, q_c_cons, q_s_lst, q_s_tup, q_s_range, q_s_enum, q_s_zip, q_s_items, q_s_keys, q_s_vals, q_t_ex, q_t_asg, q_t_asgP, q_t_asgT, q_t_aug, q_t_setI, q_t_setI2, q_t_whl, q_t_ifs, q_t_for, q_t_retv, q_tr_non, q_tr_bl, q_tr_int, q_tr_str, q_tr_glo, q_tr_bin, q_tr_neg, q_tr_cmp, q_tr_cmp2, q_tr_and, q_tr_or, q_tr_not, q_tr_ite, q_tr_tup, q_tr_lst, q_tr_dct, q_tr_idx, q_tr_slc, q_tr_rev, q_tr_call, q_tr_bi, q_tr_isi, q_tr_mut, q_tr_op, q_tr_comp, q_t_retN, q_t_brk, q_t_cont, q_t_pass, q_ss_n, P_bind, P_ok, lc_P, f_slcl, f_slcs, f_slct, part0, part1, P_boolOf, bk_b, P_d, br_t, br_f, sq_n, sq_r, sq_b, sq_c, rv_, rv_val, rv_lst, rv_dct, rt_, rt_val, rt_own, rt_io, op_, op_val, op_own, av_, av_val, av_own, rd_v, rd_, rd_sv, rd_sl, rd_sd, lo_v, lo_, lo_val, lo_own, lo_lk, or_n, or_a, or_d, au_i, au_ii, au_add, au_sub, pb_n, pb_v, pb_s, p1_oo, p1_ov, p1_v, rds_n, rds_c, sv_val, sv_own, ss_, ss_no, ss_val, ss_own, oa_, oa_own, dd_val, dd_lst, dd_dct, bo_ok, bin2_c, cmp2_c, idx2_c, neg1_c, rev1_c, svs_n, svs_c, sps_n, sps_i, sps_t, untup_c, unlst_c, unseq_l, unseq_t, sel_t, sel_f, undct_c, untwo_c, b_ok, b_no, l_some, l_none, frz_val, frz_lst, frz_dct, f_add, f_addl, f_addt, f_sub, f_mulL, f_mulR, f_fdiv, f_mod, f_pow, f_lt, f_le, f_gt, f_ge, f_eq, f_ne, f_eqb, f_eqT2, f_isn, f_isni, f_isnb, f_isnl, f_isnt, f_nisn, f_nisni, f_nisnl, f_nisnt, f_neb, f_isb, f_nisb, f_nenil, f_lenl, f_lent, f_abs, f_min, f_max, f_min3, f_max3, f_intb, f_int, f_listl, f_listt, f_tupl, f_tupt, f_set, isl_l, pre_lenSet, pre_sortSet, pre_inVals, pre_ninVals, pre_lr1, pre_lr2, pre_dictOf, pre_min1, pre_max1, rest_n, rest_c, rst_s, pre_repr, f_neshw, f_eqshw, pre_get1, pre_get2, f_lenSet, f_sortSet, f_get1, f_get2, f_get2b, f_inVals, f_ninVals, f_lr1, f_min1, f_max1, f_sort, f_sum, f_anyb, f_allb, f_meml, f_nmeml, f_memd, f_nmemd, f_ixd, f_lend, f_setd, f_dct0, f_ins, isl_d, f_app, f_mkT, f_mkL, sm64_of, ix0, ix1, ix2, ix3, ixm1, f_isi1, f_isi2, f_isi3, f_isi4, f_isi5, f_isi6, f_isi7, f_isi8, f_isi9, f_isi10, f_isi11, f_isi12, f_isi13, f_isi14, f_isi15, f_isi16, f_isi17, f_isi18, f_isi19, f_isi20, f_isi21, f_isi22, f_isi23, f_isi24, f_isi25, f_isi26, f_isi27, f_isi28, f_isi29, f_isi30, List.getElem?_cons_zero, List.getElem?_cons_succ, List.set_cons_zero, List.set_cons_succ, List.map_cons, List.map_nil, List.cons_append, List.nil_append, List.replicate, Option.bind_some, Option.map_some, List.length_cons, List.length_nil, inOf, outOf, C.toD, Cst.d, Nat.reduceAdd, Int.reduceNeg, Bool.not_true, Bool.not_false, decide_true, decide_false, List.isEmpty_nil, List.isEmpty_cons, Bool.and_true, Bool.true_and, if_true, if_false, true_and, and_true, Bool.false_eq_true, Int.reduceLT, Nat.reduceLT, Nat.reduceLeDiff, Int.reduceLE, Nat.zero_le, ne_eq, not_false_eq_true, not_true_eq_false, Int.reduceEq, Nat.reducePow, Int.reducePow, Int.reduceToNat, Int.cast_ofNat_Int, Int.reduceBEq, beq_self_eq_true, Int.reduceAdd, Int.reduceSub, Int.reduceMul, $ls,*] $[$l]?)
/-! ### the pen that the laws draw with -/
def takeB : Ss :=
  (.cons (.ifs (.cmp .gt (.idx (.var 0) (.int 2)) (.int 0)) (.cons (.asg 5 (.bin .mod (.idx (.var 0) (.int 2)) (.var 1)))
    (.cons (.setI 0 (.int 2) (.bin .fdiv (.idx (.var 0) (.int 2)) (.var 1)))
    (.cons (.ret (.var 5))
    .nil))) .nil)
    (.cons (.asg 2 (.idx (.var 0) (.int 1)))
    (.cons (.setI 0 (.int 1) (.bin .add (.var 2) (.int 1)))
    (.cons (.asg 3 (.bin .add (.bin .mul (.int 41) (.var 2)) (.int 13)))
    (.cons (.ifs (.cmp .ne (.idx (.var 0) (.int 0)) (.lst .nil)) (.cons (.asg 3 (.idx (.idx (.var 0) (.int 0)) (.bin .mod (.var 2) (.bi .len (.cons (.idx (.var 0) (.int 0)) .nil)))))
    .nil) .nil)
    (.cons (.ifs (.and (.cmp .lt (.var 2) (.bi .len (.cons (.idx (.var 0) (.int 0)) .nil))) (.cmp .ge (.bi .abs (.cons (.var 3) .nil)) (.bin .pow (.int 10) (.int 18)))) (.cons (.asg 6 (.bin .add (.bin .mul (.int 2) (.bin .sub (.bi .abs (.cons (.var 3) .nil)) (.bin .pow (.int 10) (.int 18)))) (.bi .int (.cons (.cmp .lt (.var 3) (.int 0)) .nil))))
    (.cons (.setI 0 (.int 2) (.bin .fdiv (.var 6) (.var 1)))
    (.cons (.ret (.bin .mod (.var 6) (.var 1)))
    .nil))) .nil)
    (.cons (.asg 4 (.bin .mod (.bin .pow (.bin .add (.bin .add (.bin .add (.bin .mod (.var 3) (.int 2147483629)) (.bin .mul (.int 40709) (.var 2))) (.bin .mul (.bin .mul (.int 7919) (.var 2)) (.var 2))) (.int 31)) (.int 5)) (.int 2147483647)))
    (.cons (.asg 4 (.bin .mod (.bin .pow (.bin .add (.bin .add (.bin .mul (.var 4) (.int 48271)) (.bin .mul (.int 69621) (.var 2))) (.int 11)) (.int 3)) (.int 2147483587)))
    (.cons (.ifs (.cmp .gt (.var 1) (.bin .pow (.int 10) (.int 8))) (.cons (.asg 4 (.bin .pow (.bin .add (.var 4) (.int 17)) (.int 7)))
    .nil) .nil)
    (.cons (.ret (.bin .mod (.bin .fdiv (.var 4) (.int 7)) (.var 1)))
    .nil))))))))))
def takeFn : Fn := ⟨2, 7, takeB⟩
def penB : Ss :=
  (.cons (.ret (.lst (.cons (.comp (.var 1) (.name 1) (.lst (.slc (.var 0) .nil (.cons (.int 63) .nil))) .nil [1]) (.cons (.int 0) (.cons (.int 0) .nil)))))
    .nil)
def takeC : Ss := match takeB with
  | .cons _ (.cons _ (.cons _ (.cons _ (.cons _ s)))) => s
  | s => s
def takeD : Ss := match takeB with
  | .cons _ (.cons _ (.cons _ (.cons _ (.cons _ (.cons _ s))))) => s
  | s => s
def penFn : Fn := ⟨1, 2, penB⟩
def pen (cells : List Int) (at_ great : Int) : C := .lst [.lst (cells.map .int), .int at_, .int great]
section
variable {T : Nat → Option Fn} {n f : Nat}
theorem fmod_in {a b : Int} (h : 1 ≤ b) : 0 ≤ a.fmod b ∧ a.fmod b < b := ⟨Int.fmod_nonneg_of_pos a (by omega), Int.fmod_lt_of_pos a (by omega)⟩
theorem get_map {ns : List Int} {k : Nat} (h : k < ns.length) : (ns.map D.int)[k]? = some (.int ns[k]) := by
  rw [List.getElem?_map, List.getElem?_eq_getElem h]; rfl
theorem take_Q (hf : T f = some takeFn) (cells : List Int) (at_ great upto : Int) (cs : List C) (h0 : 0 ≤ at_) (h1 : at_ ≤ 16777216) (h2 : 1 ≤ upto) (h3 : upto ≤ 536870912) :
    (dCall T (n + 1) f [.own (pen cells at_ great), .val (.int upto)] cs).Q fun v outs cs' => ∃ i at' great', v = .val (.int i) ∧ 0 ≤ i ∧ i < upto ∧ at_ ≤ at' ∧ at' ≤ at_ + 1 ∧ outs = [.own (pen cells at' great'), .val (.int upto)] ∧ cs' = cs := by
  have hu0 : upto ≠ 0 := by omega
  have hub : upto < 1073741824 := by omega
  have hul : -1073741824 < upto := by omega
  refine call_Q hf rfl ?_
  simp only [takeFn, takeB, pen]
  simp! only [q_ss_c, f_ixl, f_ixt]
  refine P_br (fun hg => ?_) (fun hg => ?_)
  · simp! only [q_ss_c, f_ixl, f_ixt, hu0, hub, hul]
    exact ⟨_, at_, _, rfl, (fmod_in h2).1, (fmod_in h2).2, Int.le_refl _, by omega, rfl⟩
  · simp! only [q_ss_c, f_ixl, f_ixt, hu0, hub, hul]
    -- the number, whatever the cell
    have hsa : small64 at_ = true := sm64_of (by omega) (by omega)
    have hq : 0 ≤ 7919 * at_ * at_ ∧ 7919 * at_ * at_ ≤ 7919 * 16777216 * 16777216 :=
      ⟨Int.mul_nonneg (by omega) h0, Int.mul_le_mul (by omega) h1 h0 (by omega)⟩
    have hp1 : ∀ cell : Int, -18446744073709551616 < cell.fmod 2147483629 + 40709 * at_ + 7919 * at_ * at_ + 31 ∧ cell.fmod 2147483629 + 40709 * at_ + 7919 * at_ * at_ + 31 < 18446744073709551616 := fun cell => by
      have := fmod_in (a := cell) (b := 2147483629) (by decide)
      generalize 7919 * at_ * at_ = q at hq
      omega
    have hp2 : ∀ x : Int, -18446744073709551616 < x.fmod 2147483647 * 48271 + 69621 * at_ + 11 ∧ x.fmod 2147483647 * 48271 + 69621 * at_ + 11 < 18446744073709551616 := fun x => by
      have := fmod_in (a := x) (b := 2147483647) (by decide)
      omega
    have hp3 : ∀ x : Int, -18446744073709551616 < x.fmod 2147483587 + 17 ∧ x.fmod 2147483587 + 17 < 18446744073709551616 := fun x => by
      have := fmod_in (a := x) (b := 2147483587) (by decide)
      omega
    have num : ∀ cell : Int, (evSs (dCall T n) takeD [.own true false (pen cells (at_ + 1) great), .val false (.int upto), .val false (.int at_), .val false (.int cell), .no, .no, .no] cs).P (fun fl r cs' => match fl with
        | .rt v => ∃ i at' great', v = .val (.int i) ∧ 0 ≤ i ∧ i < upto ∧ at_ ≤ at' ∧ at' ≤ at_ + 1 ∧ (r.take 2).map outOf = [.own (pen cells at' great'), .val (.int upto)] ∧ cs' = cs
        | _ => False) PF := by
      intro cell
      simp only [takeD, takeB, pen]
      simp! only [q_ss_c, f_ixl, f_ixt, hu0, hub, hul, hsa, (hp1 _).1, (hp1 _).2, (hp2 _).1, (hp2 _).2]
      refine P_br (fun hc => ?_) (fun hc => ?_)
      · simp! only [q_ss_c, f_ixl, f_ixt, hu0, hub, hul, (hp3 _).1, (hp3 _).2]
        exact ⟨_, at_ + 1, great, rfl, (fmod_in h2).1, (fmod_in h2).2, by omega, Int.le_refl _, rfl⟩
      · simp! only [q_ss_c, f_ixl, f_ixt, hu0, hub, hul, (hp3 _).1, (hp3 _).2]
        exact ⟨_, at_ + 1, great, rfl, (fmod_in h2).1, (fmod_in h2).2, by omega, Int.le_refl _, rfl⟩
    have tail : ∀ cell : Int, (evSs (dCall T n) takeC [.own true false (pen cells (at_ + 1) great), .val false (.int upto), .val false (.int at_), .val false (.int cell), .no, .no, .no] cs).P (fun fl r cs' => match fl with
        | .rt v => ∃ i at' great', v = .val (.int i) ∧ 0 ≤ i ∧ i < upto ∧ at_ ≤ at' ∧ at' ≤ at_ + 1 ∧ (r.take 2).map outOf = [.own (pen cells at' great'), .val (.int upto)] ∧ cs' = cs
        | _ => False) PF := by
      intro cell
      have num := num cell
      simp only [takeC, takeD, takeB, pen] at num ⊢
      simp! only [q_ss_c, f_ixl, f_ixt, hu0, hub, hul, hsa]
      refine P_br (fun hc => ?_) (fun hc => ?_)
      · simp! only [q_ss_c, f_ixl, f_ixt, hu0, hub, hul, hsa]
        refine P_br (fun hd => ?_) (fun hd => ?_)
        · simp! only [q_ss_c, f_ixl, f_ixt, hu0, hub, hul, hsa]
          exact ⟨_, at_ + 1, _, rfl, (fmod_in h2).1, (fmod_in h2).2, by omega, Int.le_refl _, rfl⟩
        · simp only [P_bind, P_ok, sq_n, q_ss_n]
          exact num
      · simp only [P_bind, P_ok, sq_n, q_ss_n]
        exact num
    refine P_brB (fun hc => ?_) (fun hc => ?_)
    · have hn : cells ≠ [] := fun z => by rw [z] at hc; cases hc
      have hl : 0 < (cells.map D.int).length := by
        rw [List.length_map]
        exact List.length_pos_iff.mpr hn
      have hm := fmod_in (a := at_) (b := ((cells.map D.int).length : Int)) (by omega)
      have hk : (at_.fmod ((cells.map D.int).length : Int)).toNat < cells.length := by
        rw [List.length_map] at hm ⊢
        omega
      have hix : idxD (.lst (cells.map D.int)) (.int (at_.fmod ((cells.map D.int).length : Int))) = some (.int cells[(at_.fmod ((cells.map D.int).length : Int)).toNat]) := ix_l hm.1 hm.2 (get_map hk)
      have hln : ((cells.map D.int).length : Int) ≠ 0 := by omega
      simp! only [f_ixl, f_ixt, hix, hln]
      exact (tail _).mono (fun fl r cs z => by cases fl <;> first | exact z | exact z.elim) fun _ _ _ z => z
    · simp only [P_bind, P_ok, sq_n, q_ss_n]
      exact (tail _).mono (fun fl r cs z => by cases fl <;> first | exact z | exact z.elim) fun _ _ _ z => z
/-- a slot that may be set -/
def Fr (x : Sl) : Prop := x = .no ∨ (∃ d, x = .val false d) ∨ ∃ c, x = .own false false c
theorem Fr.st {x : Sl} (h : Fr x) (i : Nat) (y : Sl) (r : List Sl) : stO (some x) i y r = some (r.set i y) := by
  rcases h with rfl | ⟨d, rfl⟩ | ⟨d, rfl⟩ <;> rfl
theorem Fr.no : Fr .no := .inl rfl
theorem Fr.val {d : D} : Fr (.val false d) := .inr (.inl ⟨d, rfl⟩)
theorem Fr.own {c : C} : Fr (.own false false c) := .inr (.inr ⟨c, rfl⟩)
theorem Rc.Q.tells {m : Rc} {b : Bool} (h : m.Q fun v _ _ => v = .val (.bl b)) : ∃ outs cs, m = .ok (.val (.bl b)) outs cs := by
  cases m with
  | ok v o cs => exact ⟨o, cs, by rw [show v = .val (.bl b) from h]⟩
  | ex _ _ _ => exact h.elim
  | no => exact h.elim
/-- a drawn number: the pen behind it -/
theorem pen_Q (hf : T f = some penFn) (ns : List Int) (hl : ns.length ≤ 63) (cs : List C) :
    (dCall T (n + 1) f [.val (.scr (ns.map .int))] cs).Q fun v outs cs' => v = .own (pen ns 0 0) ∧ outs = [.val (.scr (ns.map .int))] ∧ cs' = cs := by
  refine call_Q hf rfl ?_
  simp only [penFn, penB]
  have hcut : cutD (ns.map D.int) none (some 63) = ns.map D.int := by
    have hm : (ns.map D.int).length ≤ 63 := by rw [List.length_map]; exact hl
    show ((ns.map D.int).drop 0).take (min 63 (ns.map D.int).length - 0) = _
    rw [List.drop_zero]
    exact List.take_of_length_le (by omega)
  simp! only [q_ss_c, f_ixl, f_ixt, hcut]
  refine lcB_P (wr := [.val false (.scr (ns.map .int)), .no]) (fun dn acc => acc = dn) rfl (fun j hj => nomatch hj) rfl rfl (fun d dn acc rest hd hi => ?_) fun a ha => ?_
  · have hl2 := congrArg List.length hd
    simp at hl2
    refine ⟨[.val false (.scr (ns.map .int)), .val false d], rfl, ?_⟩
    subst hi
    simp! only [q_ss_c, f_ixl, f_ixt]
    exact ⟨rfl, by omega⟩
  · subst ha
    simp! only [q_ss_c, f_ixl, f_ixt]
    exact ⟨rfl, rfl⟩
end
/-- for, over a source of any kind: what it locks is locked while it runs -/
theorem forG_P {tg : Tg} {m : List Sl → List C → Res Fl} {p : List D × List Nat} {r r0 : List Sl} {cs : List C} {k : Fl → List Sl → List C → Prop} (I : Nat → List Sl → List C → Prop) (hl : lockAll true p.2 r = r0) (h0 : I 0 r0 cs)
    (hs : ∀ j d r cs, p.1[j]? = some d → I j r cs → ∃ r1, bindT tg d r = some r1 ∧ (m r1 cs).P (fun fl r cs => match fl with
      | .nx => I (j + 1) r cs
      | .ct => I (j + 1) r cs
      | .bk => k .nx (lockAll false p.2 r) cs
      | .rt v => k (.rt v) (lockAll false p.2 r) cs) PF) (hd : ∀ r cs, I p.1.length r cs → k .nx (lockAll false p.2 r) cs) : (forB tg m p r cs).P k PF := by
  subst hl
  have h : (forL (bindT tg) m p.1 (lockAll true p.2 r) cs).P (fun fl r cs => k fl (lockAll false p.2 r) cs) PF := for_P (k := fun fl r cs => k fl (lockAll false p.2 r) cs) I (i := 0) h0 (fun j d r cs q hi => by
    rw [Nat.zero_add] at hi ⊢
    exact hs j d r cs q hi) fun r cs hi => hd r cs (by rw [Nat.zero_add] at hi; exact hi)
  show (unlockR p.2 (forL (bindT tg) m p.1 (lockAll true p.2 r) cs)).P k PF
  cases q : forL (bindT tg) m p.1 (lockAll true p.2 r) cs <;> rw [q] at h <;> exact h
theorem while_P {c : List Sl → List C → Res Bool} {body : List Sl → List C → Res Fl} {k : Fl → List Sl → List C → Prop} (I : Nat → List Sl → List C → Prop)
    (hs : ∀ j r cs, I j r cs → (c r cs).P (fun b r cs => match b with
      | true => (body r cs).P (fun fl r cs => match fl with
        | .nx => ∃ i, i < j ∧ I i r cs
        | .ct => ∃ i, i < j ∧ I i r cs
        | .bk => k .nx r cs
        | .rt v => k (.rt v) r cs) PF
      | false => k .nx r cs) PF) : ∀ (m j : Nat) (r : List Sl) (cs : List C), j < m → I j r cs → (whileL c body m r cs).P k PF
  | 0, _, _, _, h, _ => absurd h (Nat.not_lt_zero _)
  | m + 1, j, r, cs, h, hi => by
    show ((c r cs).bind fun b r cs => match b with
      | true => (body r cs).bind fun fl r cs => match fl with
        | .nx => whileL c body m r cs
        | .ct => whileL c body m r cs
        | .bk => .ok .nx r cs
        | .rt v => .ok (.rt v) r cs
      | false => .ok .nx r cs).P k PF
    rw [P_bind]
    refine (hs j r cs hi).mono (fun b r cs z => ?_) fun _ _ _ z => z
    cases b with
    | false => exact z
    | true =>
      show ((body r cs).bind _).P k PF
      rw [P_bind]
      refine Res.P.mono z (fun fl r cs y => ?_) fun _ _ _ z => z
      cases fl with
      | nx => obtain ⟨i, h1, h2⟩ := y; exact while_P I hs m i r cs (by omega) h2
      | ct => obtain ⟨i, h1, h2⟩ := y; exact while_P I hs m i r cs (by omega) h2
      | bk => exact y
      | rt v => exact y
theorem whB_P {c : List Sl → List C → Res Bool} {body : List Sl → List C → Res Fl} {k : Fl → List Sl → List C → Prop} {r : List Sl} {cs : List C} (I : Nat → List Sl → List C → Prop) (j : Nat) (hj : j < 1000000) (h0 : I j r cs)
    (hs : ∀ j r cs, I j r cs → (c r cs).P (fun b r cs => match b with
      | true => (body r cs).P (fun fl r cs => match fl with
        | .nx => ∃ i, i < j ∧ I i r cs
        | .ct => ∃ i, i < j ∧ I i r cs
        | .bk => k .nx r cs
        | .rt v => k (.rt v) r cs) PF
      | false => k .nx r cs) PF) : (whB c body r cs).P k PF := while_P I hs wF j r cs hj h0
/-- a written list of numbers within bounds -/
inductive MI (lo hi : Int) : List D → Prop where
  | nil : MI lo hi []
  | cons {i : Int} {ds : List D} : lo ≤ i → i ≤ hi → MI lo hi ds → MI lo hi (.int i :: ds)
theorem MI.get {lo hi : Int} {ds : List D} (h : MI lo hi ds) : ∀ d ∈ ds, ∃ z : Int, d = .int z ∧ lo ≤ z ∧ z ≤ hi := by
  induction h with
  | nil => intro d hd; cases hd
  | cons h1 h2 _ ih =>
    intro d hd
    rcases List.mem_cons.mp hd with rfl | hd
    · exact ⟨_, rfl, h1, h2⟩
    · exact ih d hd
theorem lixI_P {α : Type} {ds : List D} {i lo hi : Int} {r : List Sl} {cs : List C} {f : D → List Sl → List C → Res α} {k : α → List Sl → List C → Prop} {e : Ex → List Sl → List C → Prop} (h0 : 0 ≤ i) (h1 : i < ds.length) (hm : MI lo hi ds) (h : ∀ z : Int, lo ≤ z → z ≤ hi → (f (.int z) r cs).P k e) : ((liftO (idxD (.lst ds) (.int i)) r cs).bind f).P k e := by
  obtain ⟨d, m, q⟩ := ix_ex h0 h1
  obtain ⟨z, rfl, h2, h3⟩ := hm.get d m
  rw [q]
  exact h z h2 h3
theorem lixJ_P {ds : List D} {i lo hi : Int} {r : List Sl} {cs : List C} {k : D → List Sl → List C → Prop} {e : Ex → List Sl → List C → Prop} (h0 : 0 ≤ i) (h1 : i < ds.length) (hm : MI lo hi ds) (h : ∀ z : Int, lo ≤ z → z ≤ hi → k (.int z) r cs) : (liftO (idxD (.lst ds) (.int i)) r cs).P k e := by
  refine lix_P h0 h1 fun d m => ?_
  obtain ⟨z, rfl, h2, h3⟩ := hm.get d m
  exact h z h2 h3
theorem br_and {b x : Bool} {r : List Sl} {cs : List C} : br b (Res.ok (Rv.val (D.bl x)) r cs) (Res.ok (Rv.val (D.bl false)) r cs) = Res.ok (Rv.val (D.bl (b && x))) r cs := by cases b <;> rfl
theorem br_or {b x : Bool} {r : List Sl} {cs : List C} : br b (Res.ok (Rv.val (D.bl true)) r cs) (Res.ok (Rv.val (D.bl x)) r cs) = Res.ok (Rv.val (D.bl (b || x))) r cs := by cases b <;> rfl
theorem ints_get : ∀ {ds : List D} {ns : List Int}, ints? ds = some ns → ∀ d ∈ ds, ∃ z : Int, d = .int z
  | [], _, _, d, hd => by cases hd
  | x :: ds, ns, h, d, hd => by
    cases x <;> simp [ints?] at h
    case int i =>
      obtain ⟨ms, e1, rfl⟩ := h
      rcases List.mem_cons.mp hd with rfl | hd
      · exact ⟨_, rfl⟩
      · exact ints_get e1 d hd
theorem lixA_P {ds : List D} {ns : List Int} {i : Int} {r : List Sl} {cs : List C} {k : D → List Sl → List C → Prop} {e : Ex → List Sl → List C → Prop} (h0 : 0 ≤ i) (h1 : i < ds.length) (hm : ints? ds = some ns) (h : ∀ z : Int, k (.int z) r cs) : (liftO (idxD (.lst ds) (.int i)) r cs).P k e := by
  refine lix_P h0 h1 fun d m => ?_
  obtain ⟨z, rfl⟩ := ints_get hm d m
  exact h z
end Vi

namespace Vi
open PySem L2
local macro_rules
  | `(tactic| simp! only [$ls,*] $[$l:location]?) => `(tactic| simp only [q_e_var, q_e_non, q_e_bl, q_e_int, q_e_str, q_e_glo, q_e_bin, q_e_neg, q_e_cmp, q_e_cmp2, q_e_and, q_e_or, q_e_not, q_e_ite, q_e_tup, q_e_lst, q_e_dct, q_e_idx, q_e_slc, q_e_rev, q_e_call, q_e_bi, q_e_op, q_op_cons, q_e_isi, q_e_mut, q_e_comp, q_d_nil, q_d_cons, q_o_nil, q_o_cons, q_a_nil, q_a_var, q_oP_non, q_ob_non, q_al_non, q_am_non, q_af_non, q_oP_bl, q_ob_bl, q_al_bl, q_am_bl, q_af_bl, q_oP_int, q_ob_int, q_al_int, q_am_int, q_af_int, q_oP_str, q_ob_str, q_al_str, q_am_str, q_af_str, q_oP_glo, q_ob_glo, q_al_glo, q_am_glo, q_af_glo, q_oP_bin, q_ob_bin, q_al_bin, q_am_bin, q_af_bin, q_oP_neg, q_ob_neg, q_al_neg, q_am_neg, q_af_neg, q_oP_cmp, q_ob_cmp, q_al_cmp, q_am_cmp, q_af_cmp, q_oP_cmp2, q_ob_cmp2, q_al_cmp2, q_am_cmp2, q_af_cmp2, q_oP_and, q_ob_and, q_al_and, q_am_and, q_af_and, q_oP_or, q_ob_or, q_al_or, q_am_or, q_af_or, q_oP_not, q_ob_not, q_al_not, q_am_not, q_af_not, q_oP_ite, q_ob_ite, q_al_ite, q_am_ite, q_af_ite, q_oP_tup, q_ob_tup, q_al_tup, q_am_tup, q_af_tup, q_oP_lst, q_ob_lst, q_al_lst, q_am_lst, q_af_lst, q_oP_dct, q_ob_dct, q_al_dct, q_am_dct, q_af_dct, q_oP_idx, q_ob_idx, q_al_idx, q_am_idx, q_af_idx, q_oP_slc, q_ob_slc, q_al_slc, q_am_slc, q_af_slc, q_oP_rev, q_ob_rev, q_al_rev, q_am_rev, q_af_rev, q_oP_call, q_ob_call, q_al_call, q_am_call, q_af_call, q_oP_bi, q_ob_bi, q_al_bi, q_am_bi, q_af_bi, q_oP_isi, q_ob_isi, q_al_isi, q_am_isi, q_af_isi, q_oP_mut, q_ob_mut, q_al_mut, q_am_mut, q_af_mut, q_oP_op, q_ob_op, q_al_op, q_am_op, q_af_op, q_oP_comp, q_ob_comp, q_al_comp, q_am_comp, q_af_comp, q_c_nil, q_c_cons, q_s_lst, q_s_tup, q_s_range, q_s_enum, q_s_zip, q_s_items, q_s_keys, q_s_vals, q_t_ex, q_t_asg, q_t_asgP, q_t_asgT, q_t_aug, q_t_setI, q_t_setI2, q_t_whl, q_t_ifs, q_t_for, q_t_retv, q_tr_non, q_tr_bl, q_tr_int, q_tr_str, q_tr_glo, q_tr_bin, q_tr_neg, q_tr_cmp, q_tr_cmp2, q_tr_and, q_tr_or, q_tr_not, q_tr_ite, q_tr_tup, q_tr_lst, q_tr_dct, q_tr_idx, q_tr_slc, q_tr_rev, q_tr_call, q_tr_bi, q_tr_isi, q_tr_mut, q_tr_op, q_tr_comp, q_t_retN, q_t_brk, q_t_cont, q_t_pass, q_ss_n, P_bind, P_ok, lc_P, f_slcl, f_slcs, f_slct, part0, part1, P_boolOf, bk_b, P_d, br_t, br_f, sq_n, sq_r, sq_b, sq_c, rv_, rv_val, rv_lst, rv_dct, rt_, rt_val, rt_own, rt_io, op_, op_val, op_own, av_, av_val, av_own, rd_v, rd_, rd_sv, rd_sl, rd_sd, lo_v, lo_, lo_val, lo_own, lo_lk, or_n, or_a, or_d, au_i, au_ii, au_add, au_sub, pb_n, pb_v, pb_s, p1_oo, p1_ov, p1_v, rds_n, rds_c, sv_val, sv_own, ss_, ss_no, ss_val, ss_own, oa_, oa_own, dd_val, dd_lst, dd_dct, bo_ok, bin2_c, cmp2_c, idx2_c, neg1_c, rev1_c, svs_n, svs_c, sps_n, sps_i, sps_t, untup_c, unlst_c, unseq_l, unseq_t, sel_t, sel_f, undct_c, untwo_c, b_ok, b_no, l_some, l_none, frz_val, frz_lst, frz_dct, f_add, f_addl, f_addt, f_sub, f_mulL, f_mulR, f_fdiv, f_mod, f_pow, f_lt, f_le, f_gt, f_ge, f_eq, f_ne, f_eqb, f_eqT2, f_isn, f_isni, f_isnb, f_isnl, f_isnt, f_nisn, f_nisni, f_nisnl, f_nisnt, f_neb, f_isb, f_nisb, f_nenil, f_lenl, f_lent, f_abs, f_min, f_max, f_min3, f_max3, f_intb, f_int, f_listl, f_listt, f_tupl, f_tupt, f_set, isl_l, pre_lenSet, pre_sortSet, pre_inVals, pre_ninVals, pre_lr1, pre_lr2, pre_dictOf, pre_min1, pre_max1, rest_n, rest_c, rst_s, pre_repr, f_neshw, f_eqshw, pre_get1, pre_get2, f_lenSet, f_sortSet, f_get1, f_get2, f_get2b, f_inVals, f_ninVals, f_lr1, f_min1, f_max1, f_sort, f_sum, f_anyb, f_allb, f_meml, f_nmeml, f_memd, f_nmemd, f_ixd, f_lend, f_setd, f_dct0, f_ins, isl_d, f_app, f_mkT, f_mkL, sm64_of, ix0, ix1, ix2, ix3, ixm1, f_isi1, f_isi2, f_isi3, f_isi4, f_isi5, f_isi6, f_isi7, f_isi8, f_isi9, f_isi10, f_isi11, f_isi12, f_isi13, f_isi14, f_isi15, f_isi16, f_isi17, f_isi18, f_isi19, f_isi20, f_isi21, f_isi22, f_isi23, f_isi24, f_isi25, f_isi26, f_isi27, f_isi28, f_isi29, f_isi30, List.getElem?_cons_zero, List.getElem?_cons_succ, List.set_cons_zero, List.set_cons_succ, List.map_cons, List.map_nil, List.cons_append, List.nil_append, List.replicate, Option.bind_some, Option.map_some, List.length_cons, List.length_nil, inOf, outOf, C.toD, Cst.d, Nat.reduceAdd, Int.reduceNeg, Bool.not_true, Bool.not_false, decide_true, decide_false, List.isEmpty_nil, List.isEmpty_cons, Bool.and_true, Bool.true_and, if_true, if_false, true_and, and_true, Bool.false_eq_true, Int.reduceLT, Nat.reduceLT, Nat.reduceLeDiff, Int.reduceLE, Nat.zero_le, ne_eq, not_false_eq_true, not_true_eq_false, Int.reduceEq, Nat.reducePow, Int.reducePow, Int.reduceToNat, Int.cast_ofNat_Int, Int.reduceBEq, beq_self_eq_true, Int.reduceAdd, Int.reduceSub, Int.reduceMul, $ls,*] $[$l]?)
/-! ### matchings -/
abbrev Rows := List (List Int)
abbrev Hs := List (Int × Int)
/-- a person's row -/
def rowOf (rows : Rows) (p : Int) : List Int := rows[p.toNat]?.getD []
def edge (rows : Rows) (s p : Int) : Prop := 0 ≤ p ∧ p < rows.length ∧ s ∈ rowOf rows p
def setH (hs : Hs) (s p : Int) : Hs := if s ∈ hs.map (·.1) then hs.map (fun q => if q.1 = s then (s, p) else q) else hs ++ [(s, p)]
theorem mem_setH {hs : Hs} {s0 p0 s p : Int} : (s, p) ∈ setH hs s0 p0 ↔ (s = s0 ∧ p = p0) ∨ (s ≠ s0 ∧ (s, p) ∈ hs) := by
  unfold setH
  split
  · rename_i h
    obtain ⟨q, hq, e⟩ := List.mem_map.mp h
    constructor
    · intro hm
      obtain ⟨q2, h2, e2⟩ := List.mem_map.mp hm
      split at e2
      · cases e2; exact .inl ⟨rfl, rfl⟩
      · rename_i n
        subst e2
        exact .inr ⟨n, h2⟩
    · rintro (⟨rfl, rfl⟩ | ⟨n, h2⟩)
      · exact List.mem_map.mpr ⟨q, hq, by rw [if_pos e]⟩
      · exact List.mem_map.mpr ⟨(s, p), h2, by rw [if_neg n]⟩
  · rename_i h
    rw [List.mem_append, List.mem_singleton]
    constructor
    · rintro (h2 | h2)
      · exact .inr ⟨fun z => h (List.mem_map.mpr ⟨(s, p), h2, z⟩), h2⟩
      · cases h2; exact .inl ⟨rfl, rfl⟩
    · rintro (⟨rfl, rfl⟩ | ⟨_, h2⟩)
      · exact .inr rfl
      · exact .inl h2
theorem keys_setH {hs : Hs} {s p : Int} : (setH hs s p).map (·.1) = if s ∈ hs.map (·.1) then hs.map (·.1) else hs.map (·.1) ++ [s] := by
  unfold setH
  split
  · rw [List.map_map]
    apply List.map_congr_left
    intro q _
    show (if q.1 = s then (s, p) else q).1 = q.1
    split
    · rename_i h; exact h.symm
    · rfl
  · rw [List.map_append]; rfl
theorem nodup_snoc {α : Type} {l : List α} {x : α} (h : l.Nodup) (hx : x ∉ l) : (l ++ [x]).Nodup :=
  List.nodup_append.mpr ⟨h, List.nodup_cons.mpr ⟨List.not_mem_nil, List.nodup_nil⟩, fun a ha b hb z => by rw [List.mem_singleton.mp hb] at z; exact hx (z ▸ ha)⟩
theorem nodup_setH {hs : Hs} {s p : Int} (h : (hs.map (·.1)).Nodup) : ((setH hs s p).map (·.1)).Nodup := by
  rw [keys_setH]
  split
  · exact h
  · rename_i n; exact nodup_snoc h n
theorem nodup_sub_len {α : Type} [DecidableEq α] : ∀ {l m : List α}, l.Nodup → (∀ x ∈ l, x ∈ m) → l.length ≤ m.length
  | [], m, _, _ => Nat.zero_le _
  | x :: l, m, h, hs => by
    obtain ⟨h1, h2⟩ := List.nodup_cons.mp h
    have hx := hs x List.mem_cons_self
    have := nodup_sub_len (l := l) (m := m.erase x) h2 fun y hy => (List.mem_erase_of_ne (by rintro rfl; exact h1 hy)).mpr (hs y (List.mem_cons_of_mem _ hy))
    rw [List.length_erase_of_mem hx] at this
    have : 0 < m.length := List.length_pos_of_mem hx
    rw [List.length_cons]
    omega
theorem key_uniq {hs : Hs} (h : (hs.map (·.1)).Nodup) {s p p' : Int} (h1 : (s, p) ∈ hs) (h2 : (s, p') ∈ hs) : p = p' := by
  induction hs with
  | nil => cases h1
  | cons q hs ih =>
    rw [List.map_cons, List.nodup_cons] at h
    rcases List.mem_cons.mp h1 with e1 | h1 <;> rcases List.mem_cons.mp h2 with e2 | h2
    · rw [← e1] at e2; cases e2; rfl
    · exact absurd (List.mem_map.mpr ⟨(s, p'), h2, by rw [← e1]⟩) h.1
    · exact absurd (List.mem_map.mpr ⟨(s, p), h1, by rw [← e2]⟩) h.1
    · exact ih h.2 h1 h2
structure Mat (rows : Rows) (hs : Hs) : Prop where
  nd : (hs.map (·.1)).Nodup
  e : ∀ s p, (s, p) ∈ hs → edge rows s p
  inj : ∀ s s' p, (s, p) ∈ hs → (s', p) ∈ hs → s = s'
/-- an even way's end: what one more call may leave -/
structure Aug (rows : Rows) (hs hs' : Hs) (one : Int) (met : List Int) : Prop where
  nd : (hs'.map (·.1)).Nodup
  e : ∀ s p, (s, p) ∈ hs' → edge rows s p
  inj : ∀ s s' p, (s, p) ∈ hs' → (s', p) ∈ hs' → (s ∉ met ∨ p ≠ one) → (s' ∉ met ∨ p ≠ one) → s = s'
  key : ∃ t, t ∉ hs.map (·.1) ∧ t ∉ met ∧ hs'.map (·.1) = hs.map (·.1) ++ [t]
  stab : ∀ s ∈ met, ∀ p, (s, p) ∈ hs' ↔ (s, p) ∈ hs
  has : ∃ s, s ∉ met ∧ (s, one) ∈ hs'
  to : ∀ s p, (s, p) ∈ hs' → p = one ∨ ∃ s', (s', p) ∈ hs
  fro : ∀ s p, (s, p) ∈ hs → ∃ s', (s', p) ∈ hs' ∧ (s' ∉ met ∨ p ≠ one)
theorem Aug.new {rows : Rows} {hs : Hs} {one spot : Int} {met : List Int} (m : Mat rows hs) (own : ∀ s, (s, one) ∈ hs → s ∈ met) (h1 : spot ∉ met) (h2 : spot ∉ hs.map (·.1)) (h3 : edge rows spot one) : Aug rows hs (setH hs spot one) one met where
  nd := nodup_setH m.nd
  e := fun s p h => by
    rcases mem_setH.mp h with ⟨rfl, rfl⟩ | ⟨_, h⟩
    · exact h3
    · exact m.e s p h
  inj := fun s s' p a b c d => by
    rcases mem_setH.mp a with ⟨rfl, rfl⟩ | ⟨_, a1⟩ <;> rcases mem_setH.mp b with ⟨rfl, e⟩ | ⟨_, b1⟩
    · rfl
    · have := own _ b1
      rcases d with d | d
      · exact absurd this d
      · exact absurd rfl d
    · subst e
      have := own _ a1
      rcases c with d | d
      · exact absurd this d
      · exact absurd rfl d
    · exact m.inj _ _ _ a1 b1
  key := ⟨spot, h2, h1, by rw [keys_setH, if_neg h2]⟩
  stab := fun s hs p => by
    rw [mem_setH]
    constructor
    · rintro (⟨rfl, _⟩ | ⟨_, h⟩)
      · exact absurd hs h1
      · exact h
    · intro h
      exact .inr ⟨fun z => h1 (z ▸ hs), h⟩
  has := ⟨spot, h1, mem_setH.mpr (.inl ⟨rfl, rfl⟩)⟩
  to := fun s p h => by
    rcases mem_setH.mp h with ⟨_, e⟩ | ⟨_, h⟩
    · exact .inl e
    · exact .inr ⟨s, h⟩
  fro := fun s p h => by
    by_cases e : p = one
    · subst e; exact ⟨spot, mem_setH.mpr (.inl ⟨rfl, rfl⟩), .inl h1⟩
    · exact ⟨s, mem_setH.mpr (.inr ⟨fun z => h2 (List.mem_map.mpr ⟨(s, p), h, z⟩), h⟩), .inr e⟩
theorem Aug.old {rows : Rows} {hs hs1 : Hs} {one spot h : Int} {met met1 : List Int} (m : Mat rows hs) (own : ∀ s, (s, one) ∈ hs → s ∈ met) (hsub : ∀ s ∈ met, s ∈ met1) (hsp : spot ∈ met1) (h1 : spot ∉ met) (h2 : (spot, h) ∈ hs) (h3 : edge rows spot one) (a : Aug rows hs hs1 h met1) : Aug rows hs (setH hs1 spot one) one met := by
  have hne : one ≠ h := fun z => h1 (own _ (z ▸ h2))
  obtain ⟨t, t1, t2, t3⟩ := a.key
  have hk : spot ∈ hs1.map (·.1) := by rw [t3]; exact List.mem_append_left _ (List.mem_map.mpr ⟨_, h2, rfl⟩)
  have nin : ∀ s, (s, one) ∈ hs1 → s ∈ met := fun s q => by
    rcases a.to _ _ q with z | ⟨s', q'⟩
    · exact absurd z hne
    · have hm := own _ q'
      have q2 := (a.stab s' (hsub _ hm) one).mpr q'
      have := a.inj _ _ _ q q2 (.inr hne) (.inr hne)
      rw [this]; exact hm
  have out : ∀ s, s ≠ spot → (s, h) ∈ hs1 → s ∉ met1 := fun s n q z => n (m.inj _ _ _ ((a.stab s z h).mp q) h2)
  exact {
    nd := nodup_setH a.nd
    e := fun s p q => by
      rcases mem_setH.mp q with ⟨rfl, rfl⟩ | ⟨_, q⟩
      · exact h3
      · exact a.e s p q
    inj := fun s s' p q q' c d => by
      rcases mem_setH.mp q with ⟨rfl, rfl⟩ | ⟨n, q1⟩ <;> rcases mem_setH.mp q' with ⟨rfl, e⟩ | ⟨n', q2⟩
      · rfl
      · rcases d with d | d
        · exact absurd (nin _ q2) d
        · exact absurd rfl d
      · subst e
        rcases c with d | d
        · exact absurd (nin _ q1) d
        · exact absurd rfl d
      · by_cases e : p = h
        · subst e
          exact a.inj _ _ _ q1 q2 (.inl (out _ n q1)) (.inl (out _ n' q2))
        · exact a.inj _ _ _ q1 q2 (.inr e) (.inr e)
    key := ⟨t, t1, fun z => t2 (hsub _ z), by rw [keys_setH, if_pos hk, t3]⟩
    stab := fun s q p => by
      have n : s ≠ spot := fun z => h1 (z ▸ q)
      rw [mem_setH, ← a.stab s (hsub _ q) p]
      constructor
      · rintro (⟨z, _⟩ | ⟨_, z⟩)
        · exact absurd z n
        · exact z
      · exact fun z => .inr ⟨n, z⟩
    has := ⟨spot, h1, mem_setH.mpr (.inl ⟨rfl, rfl⟩)⟩
    to := fun s p q => by
      rcases mem_setH.mp q with ⟨_, e⟩ | ⟨_, q⟩
      · exact .inl e
      · rcases a.to _ _ q with e | e
        · subst e; exact .inr ⟨spot, h2⟩
        · exact .inr e
    fro := fun s p q => by
      by_cases e : p = one
      · subst e; exact ⟨spot, mem_setH.mpr (.inl ⟨rfl, rfl⟩), .inl h1⟩
      · obtain ⟨s', q1, q2⟩ := a.fro _ _ q
        by_cases n : s' = spot
        · subst n
          have q3 := (a.stab _ hsp p).mp q1
          have := key_uniq m.nd q3 h2
          subst this
          rcases q2 with z | z
          · exact absurd hsp z
          · exact absurd rfl z
        · exact ⟨s', mem_setH.mpr (.inr ⟨n, q1⟩), .inr e⟩ }
structure Shut (rows : Rows) (hs : Hs) (one : Int) (met met' : List Int) : Prop where
  row : ∀ s ∈ rowOf rows one, s ∈ met'
  cl : ∀ s ∈ met', s ∉ met → ∃ h, (s, h) ∈ hs ∧ ∀ t ∈ rowOf rows h, t ∈ met'
/-- no matching of the first k persons is greater -/
def MaxK (rows : Rows) (k : Int) (hs : Hs) : Prop := ∀ N : Hs, Mat rows N → (∀ s p, (s, p) ∈ N → p < k) → N.length ≤ hs.length
theorem mat_nil {rows : Rows} : Mat rows [] := ⟨List.nodup_nil, (fun _ _ h => nomatch h), (fun _ _ _ h => nomatch h)⟩
theorem max_nil {rows : Rows} : MaxK rows 0 [] := fun N m h => by
  cases N with
  | nil => exact Nat.le_refl _
  | cons q N =>
    have := h q.1 q.2 List.mem_cons_self
    have := (m.e q.1 q.2 List.mem_cons_self).1
    omega
theorem nodup_filter_keys {hs : Hs} (f : Int × Int → Bool) (h : (hs.map (·.1)).Nodup) : ((hs.filter f).map (·.1)).Nodup := List.Nodup.sublist (List.Sublist.map _ List.filter_sublist) h
theorem mem_filt {α : Type} {l : List α} {f : α → Bool} {x : α} (h : x ∈ l.filter f) : x ∈ l := (List.mem_filter.mp h).1
theorem Mat.filter {rows : Rows} {hs : Hs} (m : Mat rows hs) (f : Int × Int → Bool) : Mat rows (hs.filter f) :=
  ⟨nodup_filter_keys f m.nd, fun s p h => m.e s p (mem_filt h), fun s s' p h h' => m.inj s s' p (mem_filt h) (mem_filt h')⟩
theorem filter_split {α : Type} (f : α → Bool) : ∀ l : List α, l.length = (l.filter f).length + (l.filter fun x => !f x).length
  | [] => rfl
  | x :: l => by
    have := filter_split f l
    cases h : f x <;> simp [List.filter_cons, h] <;> omega
theorem max_fail {rows : Rows} {k : Int} {hs : Hs} {R : List Int} (m : Mat rows hs) (hk : ∀ s p, (s, p) ∈ hs → p < k) (mx : MaxK rows k hs) (hR : R.Nodup) (row : ∀ s ∈ rowOf rows k, s ∈ R) (cl : ∀ s ∈ R, ∃ h, (s, h) ∈ hs ∧ ∀ t ∈ rowOf rows h, t ∈ R) : MaxK rows (k + 1) hs := by
  intro N mN hN
  let f : Int × Int → Bool := fun q => decide (q.1 ∈ R)
  have e1 := filter_split f N
  have mA := mN.filter (fun x => !f x)
  have mB := m.filter f
  have inA : ∀ s p, (s, p) ∈ N.filter (fun x => !f x) → (s, p) ∈ N ∧ s ∉ R := fun s p h => by
    obtain ⟨a, b⟩ := List.mem_filter.mp h
    exact ⟨a, by simpa [f] using b⟩
  have inB : ∀ s p, (s, p) ∈ hs.filter f → (s, p) ∈ hs ∧ s ∈ R := fun s p h => by
    obtain ⟨a, b⟩ := List.mem_filter.mp h
    exact ⟨a, by simpa [f] using b⟩
  have hB : ∀ s p, (s, p) ∈ hs.filter f → ∀ t ∈ rowOf rows p, t ∈ R := fun s p h => by
    obtain ⟨a, b⟩ := inB s p h
    obtain ⟨q, c, d⟩ := cl s b
    rw [key_uniq m.nd a c]; exact d
  have hA : ∀ s p, (s, p) ∈ N.filter (fun x => !f x) → p < k := fun s p h => by
    obtain ⟨a, b⟩ := inA s p h
    have := hN s p a
    by_cases e : p = k
    · subst e; exact absurd (row s (mN.e s p a).2.2) b
    · omega
  have mN2 : Mat rows (N.filter (fun x => !f x) ++ hs.filter f) := by
    refine ⟨?_, ?_, ?_⟩
    · rw [List.map_append]
      refine List.nodup_append.mpr ⟨mA.nd, mB.nd, fun a ha b hb z => ?_⟩
      subst z
      obtain ⟨⟨s, p⟩, q1, e⟩ := List.mem_map.mp ha
      obtain ⟨⟨s', p'⟩, q2, e'⟩ := List.mem_map.mp hb
      have e : s = a := e
      have e' : s' = a := e'
      subst e
      subst e'
      exact (inA _ _ q1).2 (inB _ _ q2).2
    · intro s p h
      rcases List.mem_append.mp h with h | h
      · exact mA.e s p h
      · exact mB.e s p h
    · intro s s' p h h'
      rcases List.mem_append.mp h with h | h <;> rcases List.mem_append.mp h' with h' | h'
      · exact mA.inj _ _ _ h h'
      · exact absurd (hB _ _ h' s (mA.e s p h).2.2) (inA _ _ h).2
      · exact absurd (hB _ _ h s' (mA.e s' p h').2.2) (inA _ _ h').2
      · exact mB.inj _ _ _ h h'
  have h1 := mx _ mN2 fun s p h => by
    rcases List.mem_append.mp h with h | h
    · exact hA s p h
    · exact hk s p (inB s p h).1
  have h2 : (N.filter f).length ≤ R.length := by
    have := nodup_sub_len (l := (N.filter f).map (·.1)) (m := R) (nodup_filter_keys f mN.nd) fun s h => by
      obtain ⟨q, hq, rfl⟩ := List.mem_map.mp h
      simpa [f] using (List.mem_filter.mp hq).2
    simpa using this
  have h3 : R.length ≤ (hs.filter f).length := by
    have := nodup_sub_len (l := R) (m := (hs.filter f).map (·.1)) hR fun s h => by
      obtain ⟨q, c, _⟩ := cl s h
      exact List.mem_map.mpr ⟨(s, q), List.mem_filter.mpr ⟨c, by simpa [f] using h⟩, rfl⟩
    simpa using this
  rw [List.length_append] at h1
  omega
theorem max_more {rows : Rows} {k : Int} {hs hs' : Hs} (mx : MaxK rows k hs) (hl : hs.length + 1 ≤ hs'.length) : MaxK rows (k + 1) hs' := by
  intro N mN hN
  let f : Int × Int → Bool := fun q => decide (q.2 = k)
  have e1 := filter_split f N
  have h1 := mx _ (mN.filter (fun x => !f x)) fun s p h => by
    obtain ⟨a, b⟩ := List.mem_filter.mp h
    have := hN s p a
    have b : ¬ p = k := by simpa [f] using b
    omega
  have h2 : (N.filter f).length ≤ 1 := by
    have := nodup_sub_len (l := (N.filter f).map (·.1)) (m := ((N.filter f).map (·.1)).take 1) (nodup_filter_keys f mN.nd) fun s h => by
      obtain ⟨⟨a, p⟩, hq, e⟩ := List.mem_map.mp h
      have e : a = s := e
      subst e
      cases q : N.filter f with
      | nil => rw [q] at hq; cases hq
      | cons y l =>
        obtain ⟨b, p'⟩ := y
        have hy : (b, p') ∈ N.filter f := by rw [q]; exact List.mem_cons_self
        obtain ⟨a1, a2⟩ := List.mem_filter.mp hq
        obtain ⟨b1, b2⟩ := List.mem_filter.mp hy
        have a2 : p = k := by simpa [f] using a2
        have b2 : p' = k := by simpa [f] using b2
        subst a2
        subst b2
        have := mN.inj _ _ _ a1 b1
        subst this
        simp
    rw [List.length_map, List.length_take] at this
    omega
  omega
/-- a greatest matching -/
structure Best (rows : Rows) (hs : Hs) : Prop where
  m : Mat rows hs
  mx : ∀ N : Hs, Mat rows N → N.length ≤ hs.length
theorem Best.eq {rows : Rows} {hs hs' : Hs} (h : Best rows hs) (h' : Best rows hs') : hs.length = hs'.length := Nat.le_antisymm (h'.mx _ h.m) (h.mx _ h'.m)
end Vi

namespace Vi
open PySem L2
local macro_rules
  | `(tactic| simp! only [$ls,*] $[$l:location]?) => `(tactic| simp only [q_e_var, q_e_non, q_e_bl, q_e_int, q_e_str, q_e_glo, q_e_bin, q_e_neg, q_e_cmp, q_e_cmp2, q_e_and, q_e_or, q_e_not, q_e_ite, q_e_tup, q_e_lst, q_e_dct, q_e_idx, q_e_slc, q_e_rev, q_e_call, q_e_bi, q_e_op, q_op_cons, q_e_isi, q_e_mut, q_e_comp, q_d_nil, q_d_cons, q_o_nil, q_o_cons, q_a_nil, q_a_var, q_oP_non, q_ob_non, q_al_non, q_am_non, q_af_non, q_oP_bl, q_ob_bl, q_al_bl, q_am_bl, q_af_bl, q_oP_int, q_ob_int, q_al_int, q_am_int, q_af_int, q_oP_str, q_ob_str, q_al_str, q_am_str, q_af_str, q_oP_glo, q_ob_glo, q_al_glo, q_am_glo, q_af_glo, q_oP_bin, q_ob_bin, q_al_bin, q_am_bin, q_af_bin, q_oP_neg, q_ob_neg, q_al_neg, q_am_neg, q_af_neg, q_oP_cmp, q_ob_cmp, q_al_cmp, q_am_cmp, q_af_cmp, q_oP_cmp2, q_ob_cmp2, q_al_cmp2, q_am_cmp2, q_af_cmp2, q_oP_and, q_ob_and, q_al_and, q_am_and, q_af_and, q_oP_or, q_ob_or, q_al_or, q_am_or, q_af_or, q_oP_not, q_ob_not, q_al_not, q_am_not, q_af_not, q_oP_ite, q_ob_ite, q_al_ite, q_am_ite, q_af_ite, q_oP_tup, q_ob_tup, q_al_tup, q_am_tup, q_af_tup, q_oP_lst, q_ob_lst, q_al_lst, q_am_lst, q_af_lst, q_oP_dct, q_ob_dct, q_al_dct, q_am_dct, q_af_dct, q_oP_idx, q_ob_idx, q_al_idx, q_am_idx, q_af_idx, q_oP_slc, q_ob_slc, q_al_slc, q_am_slc, q_af_slc, q_oP_rev, q_ob_rev, q_al_rev, q_am_rev, q_af_rev, q_oP_call, q_ob_call, q_al_call, q_am_call, q_af_call, q_oP_bi, q_ob_bi, q_al_bi, q_am_bi, q_af_bi, q_oP_isi, q_ob_isi, q_al_isi, q_am_isi, q_af_isi, q_oP_mut, q_ob_mut, q_al_mut, q_am_mut, q_af_mut, q_oP_op, q_ob_op, q_al_op, q_am_op, q_af_op, q_oP_comp, q_ob_comp, q_al_comp, q_am_comp, q_af_comp, q_c_nil, q_c_cons, q_s_lst, q_s_tup, q_s_range, q_s_enum, q_s_zip, q_s_items, q_s_keys, q_s_vals, q_t_ex, q_t_asg, q_t_asgP, q_t_asgT, q_t_aug, q_t_setI, q_t_setI2, q_t_whl, q_t_ifs, q_t_for, q_t_retv, q_tr_non, q_tr_bl, q_tr_int, q_tr_str, q_tr_glo, q_tr_bin, q_tr_neg, q_tr_cmp, q_tr_cmp2, q_tr_and, q_tr_or, q_tr_not, q_tr_ite, q_tr_tup, q_tr_lst, q_tr_dct, q_tr_idx, q_tr_slc, q_tr_rev, q_tr_call, q_tr_bi, q_tr_isi, q_tr_mut, q_tr_op, q_tr_comp, q_t_retN, q_t_brk, q_t_cont, q_t_pass, q_ss_n, P_bind, P_ok, lc_P, f_slcl, f_slcs, f_slct, part0, part1, P_boolOf, bk_b, P_d, br_t, br_f, sq_n, sq_r, sq_b, sq_c, rv_, rv_val, rv_lst, rv_dct, rt_, rt_val, rt_own, rt_io, op_, op_val, op_own, av_, av_val, av_own, rd_v, rd_, rd_sv, rd_sl, rd_sd, lo_v, lo_, lo_val, lo_own, lo_lk, or_n, or_a, or_d, au_i, au_ii, au_add, au_sub, pb_n, pb_v, pb_s, p1_oo, p1_ov, p1_v, rds_n, rds_c, sv_val, sv_own, ss_, ss_no, ss_val, ss_own, oa_, oa_own, dd_val, dd_lst, dd_dct, bo_ok, bin2_c, cmp2_c, idx2_c, neg1_c, rev1_c, svs_n, svs_c, sps_n, sps_i, sps_t, untup_c, unlst_c, unseq_l, unseq_t, sel_t, sel_f, undct_c, untwo_c, b_ok, b_no, l_some, l_none, frz_val, frz_lst, frz_dct, f_add, f_addl, f_addt, f_sub, f_mulL, f_mulR, f_fdiv, f_mod, f_pow, f_lt, f_le, f_gt, f_ge, f_eq, f_ne, f_eqb, f_eqT2, f_isn, f_isni, f_isnb, f_isnl, f_isnt, f_nisn, f_nisni, f_nisnl, f_nisnt, f_neb, f_isb, f_nisb, f_nenil, f_lenl, f_lent, f_abs, f_min, f_max, f_min3, f_max3, f_intb, f_int, f_listl, f_listt, f_tupl, f_tupt, f_set, isl_l, pre_lenSet, pre_sortSet, pre_inVals, pre_ninVals, pre_lr1, pre_lr2, pre_dictOf, pre_min1, pre_max1, rest_n, rest_c, rst_s, pre_repr, f_neshw, f_eqshw, pre_get1, pre_get2, f_lenSet, f_sortSet, f_get1, f_get2, f_get2b, f_inVals, f_ninVals, f_lr1, f_min1, f_max1, f_sort, f_sum, f_anyb, f_allb, f_meml, f_nmeml, f_memd, f_nmemd, f_ixd, f_lend, f_setd, f_dct0, f_ins, isl_d, f_app, f_mkT, f_mkL, sm64_of, ix0, ix1, ix2, ix3, ixm1, f_isi1, f_isi2, f_isi3, f_isi4, f_isi5, f_isi6, f_isi7, f_isi8, f_isi9, f_isi10, f_isi11, f_isi12, f_isi13, f_isi14, f_isi15, f_isi16, f_isi17, f_isi18, f_isi19, f_isi20, f_isi21, f_isi22, f_isi23, f_isi24, f_isi25, f_isi26, f_isi27, f_isi28, f_isi29, f_isi30, List.getElem?_cons_zero, List.getElem?_cons_succ, List.set_cons_zero, List.set_cons_succ, List.map_cons, List.map_nil, List.cons_append, List.nil_append, List.replicate, Option.bind_some, Option.map_some, List.length_cons, List.length_nil, inOf, outOf, C.toD, Cst.d, Nat.reduceAdd, Int.reduceNeg, Bool.not_true, Bool.not_false, decide_true, decide_false, List.isEmpty_nil, List.isEmpty_cons, Bool.and_true, Bool.true_and, if_true, if_false, true_and, and_true, Bool.false_eq_true, Int.reduceLT, Nat.reduceLT, Nat.reduceLeDiff, Int.reduceLE, Nat.zero_le, ne_eq, not_false_eq_true, not_true_eq_false, Int.reduceEq, Nat.reducePow, Int.reducePow, Int.reduceToNat, Int.cast_ofNat_Int, Int.reduceBEq, beq_self_eq_true, Int.reduceAdd, Int.reduceSub, Int.reduceMul, $ls,*] $[$l]?)
/-! ### the search for one more, as the laws and the program write it -/
def placedB (f : Nat) : Ss :=
  (.cons (.for_ (.name 4) (.lst (.idx (.var 0) (.var 1))) (.cons (.ifs (.cmp .nmem (.var 4) (.var 3)) (.cons (.setI 3 (.var 4) (.bl true))
    (.cons (.ifs (.or (.cmp .nmem (.var 4) (.var 2)) (.call f (.cons (.var 0) (.cons (.idx (.var 2) (.var 4)) (.cons (.var 2) (.cons (.var 3) .nil)))) [] .nil [.at 0, .at 1, .at 2, .at 3])) (.cons (.setI 2 (.var 4) (.var 1))
    (.cons (.ret (.bl true))
    .nil)) .nil)
    .nil)) .nil)
    .nil))
    (.cons (.ret (.bl false))
    .nil))
def placedFn (f : Nat) : Fn := ⟨4, 5, placedB f⟩
abbrev rowsL (rows : Rows) : List D := rows.map fun r => .lst (r.map .int)
abbrev kI (l : List Int) : List Key := l.map Sum.inl
abbrev hC (hs : Hs) : C := .dct (kI (hs.map (·.1))) (hs.map fun q => .int q.2)
abbrev mC (met : List Int) : C := .dct (kI met) (met.map fun _ => .bl true)
theorem hasK_I {l : List Int} {s : Int} : hasK (kI l) (.inl s) = decide (s ∈ l) := by
  unfold hasK kI
  induction l with
  | nil => rfl
  | cons x l ih =>
    rw [List.map_cons, List.any_cons, ih]
    by_cases h : x = s
    · subst h; simp
    · have h2 : ¬ s = x := fun z => h z.symm
      simp [h, h2]
theorem put_met {met : List Int} {s : Int} (h : s ∉ met) : putK' (kI met) (met.map fun _ => D.bl true) (.inl s) (.bl true) = (kI (met ++ [s]), (met ++ [s]).map fun _ => D.bl true) := by
  unfold putK'
  rw [hasK_I, decide_eq_false h]
  simp [kI]
theorem put_hs {hs : Hs} {s p : Int} : putK' (kI (hs.map (·.1))) (hs.map fun q => D.int q.2) (.inl s) (.int p) = (kI ((setH hs s p).map (·.1)), (setH hs s p).map fun q => D.int q.2) := by
  rw [keys_setH]
  unfold putK' setH
  rw [hasK_I]
  by_cases h : s ∈ hs.map (·.1)
  · rw [decide_eq_true h, if_pos h, if_pos rfl, if_pos h]
    congr 1
    clear h
    induction hs with
    | nil => rfl
    | cons q hs ih =>
      simp only [List.map_cons, kI, List.zipWith_cons_cons]
      congr 1
      by_cases e : q.1 = s
      · rw [if_pos e, if_pos (by rw [e])]
      · rw [if_neg e, if_neg (fun z => e (by injection z))]
  · rw [decide_eq_false h, if_neg h, if_neg (by decide), if_neg h]
    simp [kI]
theorem get_hs {hs : Hs} {s : Int} (h : s ∈ hs.map (·.1)) : ∃ p, (s, p) ∈ hs ∧ getK (kI (hs.map (·.1))) (hs.map fun q => D.int q.2) (.inl s) = some (.int p) := by
  induction hs with
  | nil => cases h
  | cons q hs ih =>
    by_cases e : q.1 = s
    · refine ⟨q.2, ?_, ?_⟩
      · rw [← e]; exact List.mem_cons_self
      · show (if (Sum.inl q.1 : Key) = .inl s then _ else _) = _
        rw [if_pos (by rw [e])]
    · have h2 : s ∈ hs.map (·.1) := by
        rcases List.mem_cons.mp h with z | z
        · exact absurd z.symm e
        · exact z
      obtain ⟨p, h3, h4⟩ := ih h2
      refine ⟨p, List.mem_cons_of_mem _ h3, ?_⟩
      show (if (Sum.inl q.1 : Key) = .inl s then _ else _) = _
      rw [if_neg (fun z => e (by injection z))]
      exact h4
theorem ix_rows {rows : Rows} {p : Int} (h0 : 0 ≤ p) (h1 : p < rows.length) : idxD (.lst (rowsL rows)) (.int p) = some (.lst ((rowOf rows p).map .int)) := by
  have h1 : p < (rowsL rows).length := by rw [List.length_map]; exact h1
  refine ix_l h0 h1 ?_
  have hk : p.toNat < rows.length := by simp at h1; omega
  unfold rowOf rowsL
  rw [List.getElem?_map, List.getElem?_eq_getElem hk]
  rfl
theorem take_more {α : Type} {l : List α} {j : Nat} {x : α} {P : α → Prop} (h : l[j]? = some x) (h1 : ∀ y ∈ l.take j, P y) (h2 : P x) : ∀ y ∈ l.take (j + 1), P y := fun y hy => by
  rw [List.take_add_one, h] at hy
  rcases List.mem_append.mp hy with z | z
  · exact h1 y z
  · rw [List.mem_singleton.mp z]; exact h2
section
variable {T : Nat → Option Fn} {f : Nat}
/-- what a search leaves -/
def PlacedR (rows : Rows) (U : List Int) (hs : Hs) (one : Int) (met : List Int) (A : Rv) (v : Rv) (outs : List Rv) : Prop := ∃ b hs' met', v = .val (.bl b) ∧ outs = [A, .val (.int one), .own (hC hs'), .own (mC met')] ∧ met'.Nodup ∧ (∀ s ∈ met, s ∈ met') ∧ (∀ s ∈ met', s ∈ U) ∧
  (b = false → hs' = hs ∧ Shut rows hs one met met') ∧ (b = true → Aug rows hs hs' one met)
theorem placed_Q (hf : T f = some (placedFn f)) (rows : Rows) (U : List Int) (hU : U.length ≤ 10000) (hr : ∀ s p, edge rows s p → s ∈ U) (hrl : rows.length ≤ 10000) {A : Rv} (hA : A = .val (.lst (rowsL rows)) ∨ A = .own (.lst (rowsL rows))) :
    ∀ (m k : Nat) (one : Int) (hs : Hs) (met : List Int) (cs : List C), U.length ≤ m + met.length → m < k → met.Nodup → (∀ s ∈ met, s ∈ U) → 0 ≤ one → one < rows.length → Mat rows hs → (∀ s, (s, one) ∈ hs → s ∈ met) →
    (dCall T k f [A, .val (.int one), .own (hC hs), .own (mC met)] cs).Q fun v outs cs' => PlacedR rows U hs one met A v outs ∧ cs' = cs := by
  intro m
  induction m using Nat.strongRecOn with
  | _ m ih =>
    intro k one hs met cs hm hk hn hsub h0 h1 mt own
    obtain ⟨k, rfl⟩ : ∃ j, k = j + 1 := ⟨k - 1, by omega⟩
    refine call_Q hf rfl ?_
    simp only [placedFn, placedB]
    have hix := ix_rows h0 h1
    have hl3 : (kI (hs.map (·.1))).length < 16777216 := by
      have := nodup_sub_len (l := hs.map (·.1)) (m := U) mt.nd fun x hx => by
        obtain ⟨⟨x, p⟩, h, rfl⟩ := List.mem_map.mp hx
        exact hr _ _ (mt.e x p h)
      rw [List.length_map]
      omega
    rcases hA with e | e
    · rw [e] at ih
      simp! only [q_ss_c, f_ixl, f_ixt, e, hix, hasK_I]
      refine for0_P (fun j r cs' => ∃ mj x4, r = [inOf A, .val false (.int one), .own true false (hC hs), .own true false (mC mj), x4] ∧ Fr x4 ∧ mj.Nodup ∧ (∀ s ∈ met, s ∈ mj) ∧ (∀ s ∈ mj, s ∈ U) ∧ (∀ s ∈ (rowOf rows one).take j, s ∈ mj) ∧ (∀ s ∈ mj, s ∉ met → ∃ h, (s, h) ∈ hs ∧ ∀ t ∈ rowOf rows h, t ∈ mj) ∧ cs' = cs)
        ⟨met, .no, by rw [e]; rfl, Fr.no, hn, (fun _ h => h), hsub, (fun s h => by rw [List.take_zero] at h; cases h), (fun s h h2 => absurd h h2), rfl⟩ ?_ ?_
      · rintro j d r cs' hj ⟨mj, x4, rfl, f4, m1, m2, m3, m4, m5, rfl⟩
        rw [List.getElem?_map] at hj
        obtain ⟨s, hs1, rfl⟩ := Option.map_eq_some_iff.mp hj
        have hed : edge rows s one := ⟨h0, h1, List.mem_of_getElem? hs1⟩
        refine ⟨_, by show setS _ _ _ = some _; rw [ss_]; exact f4.st _ _ _, ?_⟩
        simp! only [q_ss_c, f_ixl, f_ixt, e, hasK_I]
        refine P_brB (fun hc => ?_) (fun hc => ?_)
        · have hc : s ∉ mj := by simpa using hc
          have hn1 := nodup_snoc m1 hc
          have hu1 : ∀ x ∈ mj ++ [s], x ∈ U := fun x hx => by
            rcases List.mem_append.mp hx with h | h
            · exact m3 x h
            · rw [List.mem_singleton.mp h]; exact hr _ _ hed
          have hl1 := nodup_sub_len hn1 hu1
          rw [List.length_append, List.length_singleton] at hl1
          have hl2 : (kI mj).length < 16777216 := by
            rw [List.length_map]
            omega
          simp! only [q_ss_c, f_ixl, f_ixt, e, hasK_I, hl2, put_met hc]
          refine P_brB (fun hk1 => ?_) (fun hk1 => ?_)
          · have hk1 : s ∉ hs.map (·.1) := by simpa using hk1
            simp! only [q_ss_c, f_ixl, f_ixt, hl3, put_hs]
            exact ⟨true, _, _, rfl, rfl, hn1, fun x hx => List.mem_append_left _ (m2 x hx), hu1, (fun z => nomatch z), fun _ => Aug.new mt own (fun z => hc (m2 s z)) hk1 hed⟩
          · have hk1 : s ∈ hs.map (·.1) := by simpa using hk1
            obtain ⟨p, hp, hg⟩ := get_hs hk1
            simp! only [q_ss_c, f_ixl, f_ixt, hg]
            have hpe := mt.e _ _ hp
            have hml : met.length ≤ mj.length := nodup_sub_len hn m2
            refine do_P rfl rfl ((ih (m - 1) (by omega) k p hs (mj ++ [s]) _ (by rw [List.length_append, List.length_singleton]; omega) (by omega) hn1 hu1 hpe.1 hpe.2.1 mt (fun x hx => by
              rw [mt.inj _ _ _ hx hp]; exact List.mem_append_right _ (List.mem_singleton.mpr rfl))).mono ?_)
            rintro v_ q_ c_ ⟨⟨b, hs2, met2, rfl, rfl, n2, s2, u2, fl, tr⟩, rfl⟩
            simp! only [q_ss_c, f_ixl, f_ixt]
            cases b with
            | true =>
              have hl4 : (kI (hs2.map (·.1))).length < 16777216 := by
                have := nodup_sub_len (l := hs2.map (·.1)) (m := U) (tr rfl).nd fun x hx => by
                  obtain ⟨⟨x, p⟩, h, rfl⟩ := List.mem_map.mp hx
                  exact hr _ _ ((tr rfl).e x p h)
                rw [List.length_map]
                omega
              simp! only [q_ss_c, f_ixl, f_ixt, hl4, put_hs]
              exact ⟨true, _, _, rfl, rfl, n2, fun x hx => s2 _ (List.mem_append_left _ (m2 x hx)), u2, (fun z => nomatch z), fun _ => Aug.old mt own (fun x hx => List.mem_append_left _ (m2 x hx)) (List.mem_append_right _ (List.mem_singleton.mpr rfl)) (fun z => hc (m2 s z)) hp hed (tr rfl)⟩
            | false =>
              simp! only [q_ss_c, f_ixl, f_ixt]
              obtain ⟨rfl, sh⟩ := fl rfl
              refine ⟨met2, _, rfl, Fr.val, n2, fun x hx => s2 _ (List.mem_append_left _ (m2 x hx)), u2, take_more hs1 (fun y hy => s2 _ (List.mem_append_left _ (m4 y hy))) (s2 _ (List.mem_append_right _ (List.mem_singleton.mpr rfl))), fun x hx hn => ?_⟩
              by_cases hx1 : x ∈ mj ++ [s]
              · rcases List.mem_append.mp hx1 with hx2 | hx2
                · obtain ⟨h, q1, q2⟩ := m5 x hx2 hn
                  exact ⟨h, q1, fun t ht => s2 _ (List.mem_append_left _ (q2 t ht))⟩
                · rw [List.mem_singleton.mp hx2]
                  exact ⟨p, hp, sh.row⟩
              · exact sh.cl x hx hx1
        · have hc : s ∈ mj := by simpa using hc
          simp! only [q_ss_c, f_ixl, f_ixt]
          exact ⟨mj, _, rfl, Fr.val, m1, m2, m3, take_more hs1 m4 hc, m5⟩
      · rintro r cs' ⟨mj, x4, rfl, f4, m1, m2, m3, m4, m5, rfl⟩
        simp! only [q_ss_c, f_ixl, f_ixt, e]
        refine ⟨false, hs, mj, rfl, rfl, m1, m2, m3, (fun _ => ⟨rfl, ⟨fun s h => m4 s ?_, m5⟩⟩), (fun z => nomatch z)⟩
        rw [List.length_map, List.take_length]
        exact h
    · rw [e] at ih
      simp! only [q_ss_c, f_ixl, f_ixt, e, hix, hasK_I]
      refine for0_P (fun j r cs' => ∃ mj x4, r = [inOf A, .val false (.int one), .own true false (hC hs), .own true false (mC mj), x4] ∧ Fr x4 ∧ mj.Nodup ∧ (∀ s ∈ met, s ∈ mj) ∧ (∀ s ∈ mj, s ∈ U) ∧ (∀ s ∈ (rowOf rows one).take j, s ∈ mj) ∧ (∀ s ∈ mj, s ∉ met → ∃ h, (s, h) ∈ hs ∧ ∀ t ∈ rowOf rows h, t ∈ mj) ∧ cs' = cs)
        ⟨met, .no, by rw [e]; rfl, Fr.no, hn, (fun _ h => h), hsub, (fun s h => by rw [List.take_zero] at h; cases h), (fun s h h2 => absurd h h2), rfl⟩ ?_ ?_
      · rintro j d r cs' hj ⟨mj, x4, rfl, f4, m1, m2, m3, m4, m5, rfl⟩
        rw [List.getElem?_map] at hj
        obtain ⟨s, hs1, rfl⟩ := Option.map_eq_some_iff.mp hj
        have hed : edge rows s one := ⟨h0, h1, List.mem_of_getElem? hs1⟩
        refine ⟨_, by show setS _ _ _ = some _; rw [ss_]; exact f4.st _ _ _, ?_⟩
        simp! only [q_ss_c, f_ixl, f_ixt, e, hasK_I]
        refine P_brB (fun hc => ?_) (fun hc => ?_)
        · have hc : s ∉ mj := by simpa using hc
          have hn1 := nodup_snoc m1 hc
          have hu1 : ∀ x ∈ mj ++ [s], x ∈ U := fun x hx => by
            rcases List.mem_append.mp hx with h | h
            · exact m3 x h
            · rw [List.mem_singleton.mp h]; exact hr _ _ hed
          have hl1 := nodup_sub_len hn1 hu1
          rw [List.length_append, List.length_singleton] at hl1
          have hl2 : (kI mj).length < 16777216 := by
            rw [List.length_map]
            omega
          simp! only [q_ss_c, f_ixl, f_ixt, e, hasK_I, hl2, put_met hc]
          refine P_brB (fun hk1 => ?_) (fun hk1 => ?_)
          · have hk1 : s ∉ hs.map (·.1) := by simpa using hk1
            simp! only [q_ss_c, f_ixl, f_ixt, hl3, put_hs]
            exact ⟨true, _, _, rfl, rfl, hn1, fun x hx => List.mem_append_left _ (m2 x hx), hu1, (fun z => nomatch z), fun _ => Aug.new mt own (fun z => hc (m2 s z)) hk1 hed⟩
          · have hk1 : s ∈ hs.map (·.1) := by simpa using hk1
            obtain ⟨p, hp, hg⟩ := get_hs hk1
            simp! only [q_ss_c, f_ixl, f_ixt, hg]
            have hpe := mt.e _ _ hp
            have hml : met.length ≤ mj.length := nodup_sub_len hn m2
            refine do_P rfl rfl ((ih (m - 1) (by omega) k p hs (mj ++ [s]) _ (by rw [List.length_append, List.length_singleton]; omega) (by omega) hn1 hu1 hpe.1 hpe.2.1 mt (fun x hx => by
              rw [mt.inj _ _ _ hx hp]; exact List.mem_append_right _ (List.mem_singleton.mpr rfl))).mono ?_)
            rintro v_ q_ c_ ⟨⟨b, hs2, met2, rfl, rfl, n2, s2, u2, fl, tr⟩, rfl⟩
            simp! only [q_ss_c, f_ixl, f_ixt]
            cases b with
            | true =>
              have hl4 : (kI (hs2.map (·.1))).length < 16777216 := by
                have := nodup_sub_len (l := hs2.map (·.1)) (m := U) (tr rfl).nd fun x hx => by
                  obtain ⟨⟨x, p⟩, h, rfl⟩ := List.mem_map.mp hx
                  exact hr _ _ ((tr rfl).e x p h)
                rw [List.length_map]
                omega
              simp! only [q_ss_c, f_ixl, f_ixt, hl4, put_hs]
              exact ⟨true, _, _, rfl, rfl, n2, fun x hx => s2 _ (List.mem_append_left _ (m2 x hx)), u2, (fun z => nomatch z), fun _ => Aug.old mt own (fun x hx => List.mem_append_left _ (m2 x hx)) (List.mem_append_right _ (List.mem_singleton.mpr rfl)) (fun z => hc (m2 s z)) hp hed (tr rfl)⟩
            | false =>
              simp! only [q_ss_c, f_ixl, f_ixt]
              obtain ⟨rfl, sh⟩ := fl rfl
              refine ⟨met2, _, rfl, Fr.val, n2, fun x hx => s2 _ (List.mem_append_left _ (m2 x hx)), u2, take_more hs1 (fun y hy => s2 _ (List.mem_append_left _ (m4 y hy))) (s2 _ (List.mem_append_right _ (List.mem_singleton.mpr rfl))), fun x hx hn => ?_⟩
              by_cases hx1 : x ∈ mj ++ [s]
              · rcases List.mem_append.mp hx1 with hx2 | hx2
                · obtain ⟨h, q1, q2⟩ := m5 x hx2 hn
                  exact ⟨h, q1, fun t ht => s2 _ (List.mem_append_left _ (q2 t ht))⟩
                · rw [List.mem_singleton.mp hx2]
                  exact ⟨p, hp, sh.row⟩
              · exact sh.cl x hx hx1
        · have hc : s ∈ mj := by simpa using hc
          simp! only [q_ss_c, f_ixl, f_ixt]
          exact ⟨mj, _, rfl, Fr.val, m1, m2, m3, take_more hs1 m4 hc, m5⟩
      · rintro r cs' ⟨mj, x4, rfl, f4, m1, m2, m3, m4, m5, rfl⟩
        simp! only [q_ss_c, f_ixl, f_ixt, e]
        refine ⟨false, hs, mj, rfl, rfl, m1, m2, m3, (fun _ => ⟨rfl, ⟨fun s h => m4 s ?_, m5⟩⟩), (fun z => nomatch z)⟩
        rw [List.length_map, List.take_length]
        exact h
end
end Vi

namespace Vi
open PySem L2
local macro_rules
  | `(tactic| simp! only [$ls,*] $[$l:location]?) => `(tactic| simp only [q_e_var, q_e_non, q_e_bl, q_e_int, q_e_str, q_e_glo, q_e_bin, q_e_neg, q_e_cmp, q_e_cmp2, q_e_and, q_e_or, q_e_not, q_e_ite, q_e_tup, q_e_lst, q_e_dct, q_e_idx, q_e_slc, q_e_rev, q_e_call, q_e_bi, q_e_op, q_op_cons, q_e_isi, q_e_mut, q_e_comp, q_d_nil, q_d_cons, q_o_nil, q_o_cons, q_a_nil, q_a_var, q_oP_non, q_ob_non, q_al_non, q_am_non, q_af_non, q_oP_bl, q_ob_bl, q_al_bl, q_am_bl, q_af_bl, q_oP_int, q_ob_int, q_al_int, q_am_int, q_af_int, q_oP_str, q_ob_str, q_al_str, q_am_str, q_af_str, q_oP_glo, q_ob_glo, q_al_glo, q_am_glo, q_af_glo, q_oP_bin, q_ob_bin, q_al_bin, q_am_bin, q_af_bin, q_oP_neg, q_ob_neg, q_al_neg, q_am_neg, q_af_neg, q_oP_cmp, q_ob_cmp, q_al_cmp, q_am_cmp, q_af_cmp, q_oP_cmp2, q_ob_cmp2, q_al_cmp2, q_am_cmp2, q_af_cmp2, q_oP_and, q_ob_and, q_al_and, q_am_and, q_af_and, q_oP_or, q_ob_or, q_al_or, q_am_or, q_af_or, q_oP_not, q_ob_not, q_al_not, q_am_not, q_af_not, q_oP_ite, q_ob_ite, q_al_ite, q_am_ite, q_af_ite, q_oP_tup, q_ob_tup, q_al_tup, q_am_tup, q_af_tup, q_oP_lst, q_ob_lst, q_al_lst, q_am_lst, q_af_lst, q_oP_dct, q_ob_dct, q_al_dct, q_am_dct, q_af_dct, q_oP_idx, q_ob_idx, q_al_idx, q_am_idx, q_af_idx, q_oP_slc, q_ob_slc, q_al_slc, q_am_slc, q_af_slc, q_oP_rev, q_ob_rev, q_al_rev, q_am_rev, q_af_rev, q_oP_call, q_ob_call, q_al_call, q_am_call, q_af_call, q_oP_bi, q_ob_bi, q_al_bi, q_am_bi, q_af_bi, q_oP_isi, q_ob_isi, q_al_isi, q_am_isi, q_af_isi, q_oP_mut, q_ob_mut, q_al_mut, q_am_mut, q_af_mut, q_oP_op, q_ob_op, q_al_op, q_am_op, q_af_op, q_oP_comp, q_ob_comp, q_al_comp, q_am_comp, q_af_comp, q_c_nil, q_c_cons, q_s_lst, q_s_tup, q_s_range, q_s_enum, q_s_zip, q_s_items, q_s_keys, q_s_vals, q_t_ex, q_t_asg, q_t_asgP, q_t_asgT, q_t_aug, q_t_setI, q_t_setI2, q_t_whl, q_t_ifs, q_t_for, q_t_retv, q_tr_non, q_tr_bl, q_tr_int, q_tr_str, q_tr_glo, q_tr_bin, q_tr_neg, q_tr_cmp, q_tr_cmp2, q_tr_and, q_tr_or, q_tr_not, q_tr_ite, q_tr_tup, q_tr_lst, q_tr_dct, q_tr_idx, q_tr_slc, q_tr_rev, q_tr_call, q_tr_bi, q_tr_isi, q_tr_mut, q_tr_op, q_tr_comp, q_t_retN, q_t_brk, q_t_cont, q_t_pass, q_ss_n, P_bind, P_ok, lc_P, f_slcl, f_slcs, f_slct, part0, part1, P_boolOf, bk_b, P_d, br_t, br_f, sq_n, sq_r, sq_b, sq_c, rv_, rv_val, rv_lst, rv_dct, rt_, rt_val, rt_own, rt_io, op_, op_val, op_own, av_, av_val, av_own, rd_v, rd_, rd_sv, rd_sl, rd_sd, lo_v, lo_, lo_val, lo_own, lo_lk, or_n, or_a, or_d, au_i, au_ii, au_add, au_sub, pb_n, pb_v, pb_s, p1_oo, p1_ov, p1_v, rds_n, rds_c, sv_val, sv_own, ss_, ss_no, ss_val, ss_own, oa_, oa_own, dd_val, dd_lst, dd_dct, bo_ok, bin2_c, cmp2_c, idx2_c, neg1_c, rev1_c, svs_n, svs_c, sps_n, sps_i, sps_t, untup_c, unlst_c, unseq_l, unseq_t, sel_t, sel_f, undct_c, untwo_c, b_ok, b_no, l_some, l_none, frz_val, frz_lst, frz_dct, f_add, f_addl, f_addt, f_sub, f_mulL, f_mulR, f_fdiv, f_mod, f_pow, f_lt, f_le, f_gt, f_ge, f_eq, f_ne, f_eqb, f_eqT2, f_isn, f_isni, f_isnb, f_isnl, f_isnt, f_nisn, f_nisni, f_nisnl, f_nisnt, f_neb, f_isb, f_nisb, f_nenil, f_lenl, f_lent, f_abs, f_min, f_max, f_min3, f_max3, f_intb, f_int, f_listl, f_listt, f_tupl, f_tupt, f_set, isl_l, pre_lenSet, pre_sortSet, pre_inVals, pre_ninVals, pre_lr1, pre_lr2, pre_dictOf, pre_min1, pre_max1, rest_n, rest_c, rst_s, pre_repr, f_neshw, f_eqshw, pre_get1, pre_get2, f_lenSet, f_sortSet, f_get1, f_get2, f_get2b, f_inVals, f_ninVals, f_lr1, f_min1, f_max1, f_sort, f_sum, f_anyb, f_allb, f_meml, f_nmeml, f_memd, f_nmemd, f_ixd, f_lend, f_setd, f_dct0, f_ins, isl_d, f_app, f_mkT, f_mkL, sm64_of, ix0, ix1, ix2, ix3, ixm1, f_isi1, f_isi2, f_isi3, f_isi4, f_isi5, f_isi6, f_isi7, f_isi8, f_isi9, f_isi10, f_isi11, f_isi12, f_isi13, f_isi14, f_isi15, f_isi16, f_isi17, f_isi18, f_isi19, f_isi20, f_isi21, f_isi22, f_isi23, f_isi24, f_isi25, f_isi26, f_isi27, f_isi28, f_isi29, f_isi30, List.getElem?_cons_zero, List.getElem?_cons_succ, List.set_cons_zero, List.set_cons_succ, List.map_cons, List.map_nil, List.cons_append, List.nil_append, List.replicate, Option.bind_some, Option.map_some, List.length_cons, List.length_nil, inOf, outOf, C.toD, Cst.d, Nat.reduceAdd, Int.reduceNeg, Bool.not_true, Bool.not_false, decide_true, decide_false, List.isEmpty_nil, List.isEmpty_cons, Bool.and_true, Bool.true_and, if_true, if_false, true_and, and_true, Bool.false_eq_true, Int.reduceLT, Nat.reduceLT, Nat.reduceLeDiff, Int.reduceLE, Nat.zero_le, ne_eq, not_false_eq_true, not_true_eq_false, Int.reduceEq, Nat.reducePow, Int.reducePow, Int.reduceToNat, Int.cast_ofNat_Int, Int.reduceBEq, beq_self_eq_true, Int.reduceAdd, Int.reduceSub, Int.reduceMul, $ls,*] $[$l]?)
def holdersB (f : Nat) : Ss :=
  (.cons (.asg 1 (.dct .nil))
    (.cons (.for_ (.name 2) (.range (.cons (.bi .len (.cons (.var 0) .nil)) .nil)) (.cons (.ex (.call f (.cons (.var 0) (.cons (.var 2) (.cons (.var 1) (.cons (.dct .nil) .nil)))) [] .nil [.at 0, .at 1, .at 2, .at 3]))
    .nil))
    (.cons (.ret (.var 1))
    .nil)))
def holdersFn (f : Nat) : Fn := ⟨1, 3, holdersB f⟩
theorem rangeD_get {lo : Int} {n j : Nat} {d : D} (h : (rangeD lo n)[j]? = some d) : j < n ∧ d = .int (lo + j) := by
  have hl := (List.getElem?_eq_some_iff.mp h).1
  have hl : j < n := by simpa [rangeD] using hl
  refine ⟨hl, ?_⟩
  unfold rangeD at h
  rw [List.getElem?_map, List.getElem?_range hl] at h
  cases h; rfl
theorem rng1 {j : Int} (h0 : 0 ≤ j) (h1 : j < 4611686018427387904) : rngD [.int j] = some (rangeD 0 j.toNat) := by
  refine if_pos ?_
  show (decide ((-j).toNat ≤ 4611686018427387904) && decide (j.toNat < 4611686018427387904)) = true
  rw [decide_eq_true (by omega), decide_eq_true (by omega)]; rfl
theorem rangeD_len {lo : Int} {n : Nat} : (rangeD lo n).length = n := by simp [rangeD]
section
variable {T : Nat → Option Fn} {f fh : Nat}
theorem holders_Q (hfh : T fh = some (holdersFn f)) (hf : T f = some (placedFn f)) (rows : Rows) (U : List Int) (hU : U.length ≤ 10000) (hr : ∀ s p, edge rows s p → s ∈ U) (hrl : rows.length ≤ 10000) {A : Rv} (hA : A = .val (.lst (rowsL rows)) ∨ A = .own (.lst (rowsL rows))) (k : Nat) (hk : U.length < k) (cs : List C) :
    (dCall T (k + 1) fh [A] cs).Q fun v outs cs' => ∃ hs, Best rows hs ∧ v = .own (hC hs) ∧ outs = [A] ∧ cs' = cs := by
  refine call_Q hfh rfl ?_
  simp only [holdersFn, holdersB]
  have hrg : rngD [.int ((rowsL rows).length : Int)] = some (rangeD 0 rows.length) := by
    rw [List.length_map, rng1 (by omega) (by omega)]
    rfl
  have hpl := placed_Q hf rows U hU hr hrl hA
  rcases hA with e | e
  · rw [e] at hpl
    simp! only [q_ss_c, f_ixl, f_ixt, e, hrg]
    refine for0_P (fun j r cs' => ∃ hs x2, r = [inOf A, .own false false (hC hs), x2] ∧ Fr x2 ∧ Mat rows hs ∧ (∀ s p, (s, p) ∈ hs → p < j) ∧ MaxK rows j hs ∧ cs' = cs)
      ⟨[], .no, by rw [e]; rfl, Fr.no, mat_nil, (fun _ _ h => nomatch h), max_nil, rfl⟩ ?_ ?_
    · rintro j d r cs' hj ⟨hs, x2, rfl, f2, m1, m2, m3, rfl⟩
      obtain ⟨hjl, rfl⟩ := rangeD_get hj
      rw [Int.zero_add] at *
      refine ⟨_, by show setS _ _ _ = some _; rw [ss_]; exact f2.st _ _ _, ?_⟩
      simp! only [q_ss_c, f_ixl, f_ixt, e]
      refine do_P rfl rfl ((hpl U.length k (j : Int) hs [] cs' (by simp) hk List.nodup_nil (fun _ h => nomatch h) (by omega) (by omega) m1 (fun s h => absurd (m2 s _ h) (by omega))).mono ?_)
      rintro v_ q_ c_ ⟨⟨b, hs2, met2, rfl, rfl, n2, s2, u2, fl, tr⟩, rfl⟩
      simp! only [q_ss_c, f_ixl, f_ixt]
      cases b with
      | true =>
        obtain ⟨t, t1, t2, t3⟩ := (tr rfl).key
        refine ⟨hs2, _, rfl, Fr.val, ⟨(tr rfl).nd, (tr rfl).e, fun s s' p h h' => (tr rfl).inj s s' p h h' (.inl (fun z => nomatch z)) (.inl (fun z => nomatch z))⟩, fun s p h => ?_, ?_⟩
        · rcases (tr rfl).to s p h with z | ⟨s', z⟩
          · omega
          · have := m2 _ _ z
            omega
        · refine max_more m3 ?_
          have := congrArg List.length t3
          simp at this
          omega
      | false =>
        obtain ⟨rfl, sh⟩ := fl rfl
        refine ⟨hs2, _, rfl, Fr.val, m1, fun s p h => ?_, max_fail m1 m2 m3 n2 sh.row (fun s h => sh.cl s h (fun z => nomatch z))⟩
        have := m2 _ _ h
        omega
    · rintro r cs' ⟨hs, x2, rfl, f2, m1, m2, m3, rfl⟩
      simp! only [q_ss_c, f_ixl, f_ixt, e]
      refine ⟨hs, ⟨m1, fun N mN => m3 N mN fun s p h => ?_⟩, rfl, rfl⟩
      have := (mN.e s p h).2.1
      rw [rangeD_len]
      exact this
  · rw [e] at hpl
    simp! only [q_ss_c, f_ixl, f_ixt, e, hrg]
    refine for0_P (fun j r cs' => ∃ hs x2, r = [inOf A, .own false false (hC hs), x2] ∧ Fr x2 ∧ Mat rows hs ∧ (∀ s p, (s, p) ∈ hs → p < j) ∧ MaxK rows j hs ∧ cs' = cs)
      ⟨[], .no, by rw [e]; rfl, Fr.no, mat_nil, (fun _ _ h => nomatch h), max_nil, rfl⟩ ?_ ?_
    · rintro j d r cs' hj ⟨hs, x2, rfl, f2, m1, m2, m3, rfl⟩
      obtain ⟨hjl, rfl⟩ := rangeD_get hj
      rw [Int.zero_add] at *
      refine ⟨_, by show setS _ _ _ = some _; rw [ss_]; exact f2.st _ _ _, ?_⟩
      simp! only [q_ss_c, f_ixl, f_ixt, e]
      refine do_P rfl rfl ((hpl U.length k (j : Int) hs [] cs' (by simp) hk List.nodup_nil (fun _ h => nomatch h) (by omega) (by omega) m1 (fun s h => absurd (m2 s _ h) (by omega))).mono ?_)
      rintro v_ q_ c_ ⟨⟨b, hs2, met2, rfl, rfl, n2, s2, u2, fl, tr⟩, rfl⟩
      simp! only [q_ss_c, f_ixl, f_ixt]
      cases b with
      | true =>
        obtain ⟨t, t1, t2, t3⟩ := (tr rfl).key
        refine ⟨hs2, _, rfl, Fr.val, ⟨(tr rfl).nd, (tr rfl).e, fun s s' p h h' => (tr rfl).inj s s' p h h' (.inl (fun z => nomatch z)) (.inl (fun z => nomatch z))⟩, fun s p h => ?_, ?_⟩
        · rcases (tr rfl).to s p h with z | ⟨s', z⟩
          · omega
          · have := m2 _ _ z
            omega
        · refine max_more m3 ?_
          have := congrArg List.length t3
          simp at this
          omega
      | false =>
        obtain ⟨rfl, sh⟩ := fl rfl
        refine ⟨hs2, _, rfl, Fr.val, m1, fun s p h => ?_, max_fail m1 m2 m3 n2 sh.row (fun s h => sh.cl s h (fun z => nomatch z))⟩
        have := m2 _ _ h
        omega
    · rintro r cs' ⟨hs, x2, rfl, f2, m1, m2, m3, rfl⟩
      simp! only [q_ss_c, f_ixl, f_ixt, e]
      refine ⟨hs, ⟨m1, fun N mN => m3 N mN fun s p h => ?_⟩, rfl, rfl⟩
      have := (mN.e s p h).2.1
      rw [rangeD_len]
      exact this
end
end Vi

namespace Vi
open PySem L2
local macro_rules
  | `(tactic| simp! only [$ls,*] $[$l:location]?) => `(tactic| simp only [q_e_var, q_e_non, q_e_bl, q_e_int, q_e_str, q_e_glo, q_e_bin, q_e_neg, q_e_cmp, q_e_cmp2, q_e_and, q_e_or, q_e_not, q_e_ite, q_e_tup, q_e_lst, q_e_dct, q_e_idx, q_e_slc, q_e_rev, q_e_call, q_e_bi, q_e_op, q_op_cons, q_e_isi, q_e_mut, q_e_comp, q_d_nil, q_d_cons, q_o_nil, q_o_cons, q_a_nil, q_a_var, q_oP_non, q_ob_non, q_al_non, q_am_non, q_af_non, q_oP_bl, q_ob_bl, q_al_bl, q_am_bl, q_af_bl, q_oP_int, q_ob_int, q_al_int, q_am_int, q_af_int, q_oP_str, q_ob_str, q_al_str, q_am_str, q_af_str, q_oP_glo, q_ob_glo, q_al_glo, q_am_glo, q_af_glo, q_oP_bin, q_ob_bin, q_al_bin, q_am_bin, q_af_bin, q_oP_neg, q_ob_neg, q_al_neg, q_am_neg, q_af_neg, q_oP_cmp, q_ob_cmp, q_al_cmp, q_am_cmp, q_af_cmp, q_oP_cmp2, q_ob_cmp2, q_al_cmp2, q_am_cmp2, q_af_cmp2, q_oP_and, q_ob_and, q_al_and, q_am_and, q_af_and, q_oP_or, q_ob_or, q_al_or, q_am_or, q_af_or, q_oP_not, q_ob_not, q_al_not, q_am_not, q_af_not, q_oP_ite, q_ob_ite, q_al_ite, q_am_ite, q_af_ite, q_oP_tup, q_ob_tup, q_al_tup, q_am_tup, q_af_tup, q_oP_lst, q_ob_lst, q_al_lst, q_am_lst, q_af_lst, q_oP_dct, q_ob_dct, q_al_dct, q_am_dct, q_af_dct, q_oP_idx, q_ob_idx, q_al_idx, q_am_idx, q_af_idx, q_oP_slc, q_ob_slc, q_al_slc, q_am_slc, q_af_slc, q_oP_rev, q_ob_rev, q_al_rev, q_am_rev, q_af_rev, q_oP_call, q_ob_call, q_al_call, q_am_call, q_af_call, q_oP_bi, q_ob_bi, q_al_bi, q_am_bi, q_af_bi, q_oP_isi, q_ob_isi, q_al_isi, q_am_isi, q_af_isi, q_oP_mut, q_ob_mut, q_al_mut, q_am_mut, q_af_mut, q_oP_op, q_ob_op, q_al_op, q_am_op, q_af_op, q_oP_comp, q_ob_comp, q_al_comp, q_am_comp, q_af_comp, q_c_nil, q_c_cons, q_s_lst, q_s_tup, q_s_range, q_s_enum, q_s_zip, q_s_items, q_s_keys, q_s_vals, q_t_ex, q_t_asg, q_t_asgP, q_t_asgT, q_t_aug, q_t_setI, q_t_setI2, q_t_whl, q_t_ifs, q_t_for, q_t_retv, q_tr_non, q_tr_bl, q_tr_int, q_tr_str, q_tr_glo, q_tr_bin, q_tr_neg, q_tr_cmp, q_tr_cmp2, q_tr_and, q_tr_or, q_tr_not, q_tr_ite, q_tr_tup, q_tr_lst, q_tr_dct, q_tr_idx, q_tr_slc, q_tr_rev, q_tr_call, q_tr_bi, q_tr_isi, q_tr_mut, q_tr_op, q_tr_comp, q_t_retN, q_t_brk, q_t_cont, q_t_pass, q_ss_n, P_bind, P_ok, lc_P, f_slcl, f_slcs, f_slct, part0, part1, P_boolOf, bk_b, P_d, br_t, br_f, sq_n, sq_r, sq_b, sq_c, rv_, rv_val, rv_lst, rv_dct, rt_, rt_val, rt_own, rt_io, op_, op_val, op_own, av_, av_val, av_own, rd_v, rd_, rd_sv, rd_sl, rd_sd, lo_v, lo_, lo_val, lo_own, lo_lk, or_n, or_a, or_d, au_i, au_ii, au_add, au_sub, pb_n, pb_v, pb_s, p1_oo, p1_ov, p1_v, rds_n, rds_c, sv_val, sv_own, ss_, ss_no, ss_val, ss_own, oa_, oa_own, dd_val, dd_lst, dd_dct, bo_ok, bin2_c, cmp2_c, idx2_c, neg1_c, rev1_c, svs_n, svs_c, sps_n, sps_i, sps_t, untup_c, unlst_c, unseq_l, unseq_t, sel_t, sel_f, undct_c, untwo_c, b_ok, b_no, l_some, l_none, frz_val, frz_lst, frz_dct, f_add, f_addl, f_addt, f_sub, f_mulL, f_mulR, f_fdiv, f_mod, f_pow, f_lt, f_le, f_gt, f_ge, f_eq, f_ne, f_eqb, f_eqT2, f_isn, f_isni, f_isnb, f_isnl, f_isnt, f_nisn, f_nisni, f_nisnl, f_nisnt, f_neb, f_isb, f_nisb, f_nenil, f_lenl, f_lent, f_abs, f_min, f_max, f_min3, f_max3, f_intb, f_int, f_listl, f_listt, f_tupl, f_tupt, f_set, isl_l, pre_lenSet, pre_sortSet, pre_inVals, pre_ninVals, pre_lr1, pre_lr2, pre_dictOf, pre_min1, pre_max1, rest_n, rest_c, rst_s, pre_repr, f_neshw, f_eqshw, pre_get1, pre_get2, f_lenSet, f_sortSet, f_get1, f_get2, f_get2b, f_inVals, f_ninVals, f_lr1, f_min1, f_max1, f_sort, f_sum, f_anyb, f_allb, f_meml, f_nmeml, f_memd, f_nmemd, f_ixd, f_lend, f_setd, f_dct0, f_ins, isl_d, f_app, f_mkT, f_mkL, sm64_of, ix0, ix1, ix2, ix3, ixm1, f_isi1, f_isi2, f_isi3, f_isi4, f_isi5, f_isi6, f_isi7, f_isi8, f_isi9, f_isi10, f_isi11, f_isi12, f_isi13, f_isi14, f_isi15, f_isi16, f_isi17, f_isi18, f_isi19, f_isi20, f_isi21, f_isi22, f_isi23, f_isi24, f_isi25, f_isi26, f_isi27, f_isi28, f_isi29, f_isi30, List.getElem?_cons_zero, List.getElem?_cons_succ, List.set_cons_zero, List.set_cons_succ, List.map_cons, List.map_nil, List.cons_append, List.nil_append, List.replicate, Option.bind_some, Option.map_some, List.length_cons, List.length_nil, inOf, outOf, C.toD, Cst.d, Nat.reduceAdd, Int.reduceNeg, Bool.not_true, Bool.not_false, decide_true, decide_false, List.isEmpty_nil, List.isEmpty_cons, Bool.and_true, Bool.true_and, if_true, if_false, true_and, and_true, Bool.false_eq_true, Int.reduceLT, Nat.reduceLT, Nat.reduceLeDiff, Int.reduceLE, Nat.zero_le, ne_eq, not_false_eq_true, not_true_eq_false, Int.reduceEq, Nat.reducePow, Int.reducePow, Int.reduceToNat, Int.cast_ofNat_Int, Int.reduceBEq, beq_self_eq_true, Int.reduceAdd, Int.reduceSub, Int.reduceMul, $ls,*] $[$l]?)
/-- a comprehension that keeps some and turns each, its state as it was -/
theorem lcX_P {β : Type} {tg : Tg} {cd : List Sl → List C → Res Bool} {el : List Sl → List C → Res D} {vs : List Nat} {p : List D × List Nat} {r wr : List Sl} {cs : List C} {k : Rv → List Sl → List C → Prop} {e : Ex → List Sl → List C → Prop} (xs : List β) (enc : β → D) (keep : β → Bool) (out : β → D) (hp : p.1 = xs.map enc) (hlen : xs.length ≤ 16777216)
    (hv : noOwn vs r = true) (hfr : ∀ j ∈ p.2, ∃ io c, r[j]? = some (.own io false c)) (hw : wipeS vs (lockAll true p.2 r) = wr)
    (hs : ∀ x ∈ xs, ∃ r1, bindT tg (enc x) wr = some r1 ∧ (cd r1 cs).P (fun b r2 cs' => cs' = cs ∧ b = keep x ∧ if keep x = true then (el r2 cs).P (fun v r3 cs' => cs' = cs ∧ wipeS vs r3 = wr ∧ v = out x) PF else wipeS vs r2 = wr) PF)
    (hk : k (.own (.lst ((xs.filter keep).map out))) r cs) : (lcB tg cd el vs p r cs).P k e := by
  refine lcB_P (wr := wr) (fun dn acc => ∃ ys zs, xs = ys ++ zs ∧ dn = ys.map enc ∧ acc = (ys.filter keep).map out) hv hfr hw ⟨[], xs, rfl, rfl, rfl⟩ ?_ ?_
  · rintro d dn acc rest hd ⟨ys, zs, rfl, rfl, rfl⟩
    rw [hp, List.map_append] at hd
    have hd := List.append_cancel_left hd
    cases zs with
    | nil => cases hd
    | cons x zs =>
      rw [List.map_cons] at hd
      injection hd with h1 h2
      subst h1
      obtain ⟨r1, e1, e2⟩ := hs x (List.mem_append_right _ List.mem_cons_self)
      refine ⟨r1, e1, e2.mono (fun b r2 cs' ⟨q1, q2, q3⟩ => ⟨q1, ?_⟩) fun _ _ _ z => z⟩
      subst q2
      have he : ys ++ x :: zs = (ys ++ [x]) ++ zs := by simp
      have hm : ys.map enc ++ [enc x] = (ys ++ [x]).map enc := by simp
      cases hkp : keep x with
      | true =>
        rw [if_pos hkp] at q3
        rw [if_pos rfl]
        refine q3.mono (fun v r3 cs' ⟨z1, z2, z3⟩ => ⟨z1, z2, ?_, ys ++ [x], zs, he, hm, ?_⟩) fun _ _ _ z => z
        · have := List.length_filter_le keep ys
          rw [List.length_append, List.length_cons] at hlen
          rw [List.length_map]
          omega
        · subst z3
          rw [List.filter_append, List.map_append]
          simp [hkp]
      | false =>
        rw [if_neg (by rw [hkp]; decide)] at q3
        rw [if_neg (by decide)]
        refine ⟨q3, ys ++ [x], zs, he, hm, ?_⟩
        rw [List.filter_append, List.map_append]
        simp [hkp]
  · rintro a ⟨ys, zs, rfl, h1, rfl⟩
    have : zs = [] := by
      have := congrArg List.length (hp.symm.trans h1)
      simp at this
      exact this
    subst this
    rw [List.append_nil] at hk
    exact hk
/-! ### robes -/
abbrev Robe := Int × Int × Int
abbrev robeD (g : Robe) : D := .tup [.int g.1, .int g.2.1, .int g.2.2]
def fitsB (g : Robe) (one loose : Int) : Bool := decide (g.1 - g.2.1 - loose ≤ one) && decide (one ≤ g.1 + g.2.2)
def boundsFn : Fn := ⟨1, 4, (.cons (.asgT [1, 2, 3] (.var 0))
    (.cons (.ret (.tup (.cons (.bin .sub (.var 1) (.var 2)) (.cons (.bin .add (.var 1) (.var 3)) .nil))))
    .nil))⟩
def windowFn (b : Nat) : Fn := ⟨2, 4, (.cons (.asgT [2, 3] (.call b (.cons (.var 0) .nil) [] .nil [.at 0]))
    (.cons (.ret (.tup (.cons (.bin .sub (.var 2) (.var 1)) (.cons (.var 3) .nil))))
    .nil))⟩
def fitsFn (w : Nat) : Fn := ⟨3, 5, (.cons (.asgT [3, 4] (.call w (.cons (.var 0) (.cons (.var 2) .nil)) [] .nil [.at 0, .at 1]))
    (.cons (.ret (.cmp2 .le .le (.var 3) (.var 1) (.var 4)))
    .nil))⟩
def lfitsFn : Fn := ⟨3, 3, (.cons (.ret (.cmp2 .le .le (.bin .sub (.bin .sub (.idx (.var 0) (.int 0)) (.idx (.var 0) (.int 1))) (.var 2)) (.var 1) (.bin .add (.idx (.var 0) (.int 0)) (.idx (.var 0) (.int 2)))))
    .nil)⟩
def FitsOk (T : Nat → Option Fn) (k f : Nat) : Prop := ∀ (g : Robe) (one loose : Int) (cs : List C), (dCall T k f [.val (robeD g), .val (.int one), .val (.int loose)] cs).Q fun v outs cs' => v = .val (.bl (fitsB g one loose)) ∧ outs = [.val (robeD g), .val (.int one), .val (.int loose)] ∧ cs' = cs
section
variable {T : Nat → Option Fn} {n : Nat}
theorem bounds_Q {f : Nat} (hf : T f = some boundsFn) {s t o : Int} {cs : List C} : (dCall T (n + 1) f [.val (.tup [.int s, .int t, .int o])] cs).Q fun v outs cs' => v = .val (.tup [.int (s - t), .int (s + o)]) ∧ outs = [.val (.tup [.int s, .int t, .int o])] ∧ cs' = cs := by
  refine call_Q hf rfl ?_
  simp only [boundsFn]
  simp! only [q_ss_c, f_ixl, f_ixt]
  rfl
theorem window_Q {f b : Nat} (hb : T b = some boundsFn) (hf : T f = some (windowFn b)) {s t o l : Int} {cs : List C} : (dCall T (n + 2) f [.val (.tup [.int s, .int t, .int o]), .val (.int l)] cs).Q fun v outs cs' => v = .val (.tup [.int (s - t - l), .int (s + o)]) ∧ outs = [.val (.tup [.int s, .int t, .int o]), .val (.int l)] ∧ cs' = cs := by
  refine call_Q hf rfl ?_
  simp only [windowFn]
  simp! only [q_ss_c, f_ixl, f_ixt]
  refine do_P rfl rfl ((bounds_Q hb).mono ?_)
  rintro v_ q_ c_ ⟨rfl, rfl, rfl⟩
  simp! only [q_ss_c, f_ixl, f_ixt]
  rfl
theorem fits_Q {f b w : Nat} (hb : T b = some boundsFn) (hw : T w = some (windowFn b)) (hf : T f = some (fitsFn w)) : FitsOk T (n + 3) f := by
  intro g one loose cs
  refine call_Q hf rfl ?_
  simp only [fitsFn]
  simp! only [q_ss_c, f_ixl, f_ixt]
  refine do_P rfl rfl ((window_Q hb hw).mono ?_)
  rintro v_ q_ c_ ⟨rfl, rfl, rfl⟩
  simp! only [q_ss_c, f_ixl, f_ixt, br_and, br_or]
  exact ⟨rfl, rfl⟩
theorem lfits_Q {f : Nat} (hf : T f = some lfitsFn) : FitsOk T (n + 1) f := by
  intro g one loose cs
  refine call_Q hf rfl ?_
  simp only [lfitsFn]
  simp! only [q_ss_c, f_ixl, f_ixt, br_and, br_or]
  exact ⟨rfl, rfl⟩
/-! ### for each person the robes that fit it -/
def rowF (stock : List Robe) (loose one : Int) : List Int := (stock.zipIdx.filter fun p => fitsB p.1 one loose).map fun p => (p.2 : Int)
def ableF (crowd : List Int) (stock : List Robe) (loose : Int) : Rows := crowd.map (rowF stock loose)
abbrev crowdD (crowd : List Int) : D := .lst (crowd.map .int)
abbrev stockD (stock : List Robe) : D := .lst (stock.map robeD)
def ableB (f : Nat) : Ss := (.cons (.asg 3 (.lst .nil))
    (.cons (.for_ (.name 4) (.lst (.var 0)) (.cons (.ex (.mut .append 3 (.cons (.comp (.var 5) (.tup [5, 6]) (.enum (.var 1)) (.cons (.call f (.cons (.var 6) (.cons (.var 4) (.cons (.var 2) .nil))) [] .nil [.at 0, .at 1, .at 2]) .nil) [5, 6]) .nil)))
    .nil))
    (.cons (.ret (.var 3))
    .nil)))
def ableFn (f : Nat) : Fn := ⟨3, 7, ableB f⟩
theorem enum_robes (stock : List Robe) : enumD (stock.map robeD) = stock.zipIdx.map fun p => .tup [.int (p.2 : Int), robeD p.1] := by
  unfold enumD
  rw [List.zipIdx_map, List.map_map]
  rfl
theorem able_Q {f ff : Nat} (hf : T f = some (ableFn ff)) (hF : FitsOk T n ff) (crowd : List Int) (stock : List Robe) (loose : Int) (cs : List C) (hc : crowd.length ≤ 10000) (hs : stock.length ≤ 10000) :
    (dCall T (n + 1) f [.val (crowdD crowd), .val (stockD stock), .val (.int loose)] cs).Q fun v outs cs' => v = .own (.lst (rowsL (ableF crowd stock loose))) ∧ outs = [.val (crowdD crowd), .val (stockD stock), .val (.int loose)] ∧ cs' = cs := by
  refine call_Q hf rfl ?_
  simp only [ableFn, ableB]
  simp! only [q_ss_c, f_ixl, f_ixt]
  refine for0_P (fun j r cs' => ∃ x4 x5 x6, r = [.val false (crowdD crowd), .val false (stockD stock), .val false (.int loose), .own false false (.lst (rowsL (ableF (crowd.take j) stock loose))), x4, x5, x6] ∧ (Fr x4 ∧ x5 = .no ∧ x6 = .no) ∧ cs' = cs) ⟨_, _, _, rfl, ⟨Fr.no, rfl, rfl⟩, rfl⟩ ?_ ?_
  · rintro j d r cs' hj ⟨x4, x5, x6, rfl, ⟨f4, rfl, rfl⟩, rfl⟩
    rw [List.getElem?_map] at hj
    obtain ⟨one, ho, rfl⟩ := Option.map_eq_some_iff.mp hj
    refine ⟨_, by show setS _ _ _ = some _; rw [ss_]; exact f4.st _ _ _, ?_⟩
    simp! only [q_ss_c, f_ixl, f_ixt]
    refine lcX_P stock.zipIdx (fun p => .tup [.int (p.2 : Int), robeD p.1]) (fun p => fitsB p.1 one loose) (fun p => .int (p.2 : Int)) (enum_robes stock) (by rw [List.length_zipIdx]; omega) rfl (fun j hj => nomatch hj) rfl (fun q hq => ?_) ?_
    · refine ⟨[.val false (crowdD crowd), .val false (stockD stock), .val false (.int loose), .own false false (.lst (rowsL (ableF (crowd.take j) stock loose))), .val false (.int one), .val false (.int (q.2 : Int)), .val false (robeD q.1)], rfl, ?_⟩
      simp! only [q_ss_c, f_ixl, f_ixt]
      refine do_P rfl rfl ((hF q.1 one loose cs').mono ?_)
      rintro v_ q_ c_ ⟨rfl, rfl, rfl⟩
      simp! only [q_ss_c, f_ixl, f_ixt]
      by_cases hk : fitsB q.1 one loose = true
      · rw [if_pos hk]
        first | rfl | exact ⟨rfl, rfl⟩
      · rw [if_neg hk]; rfl
    · have hl : (rowsL (ableF (crowd.take j) stock loose)).length < 16777216 := by
        unfold ableF
        rw [List.length_map, List.length_map, List.length_take]
        omega
      simp! only [q_ss_c, f_ixl, f_ixt, hl]
      have : rowsL (ableF (crowd.take (j + 1)) stock loose) = rowsL (ableF (crowd.take j) stock loose) ++ [.lst (((stock.zipIdx.filter fun p => fitsB p.1 one loose).map fun p => D.int (p.2 : Int)))] := by
        rw [List.take_add_one, ho]
        unfold ableF rowF
        simp [List.map_append]
      rw [this]
      exact ⟨_, _, _, rfl, ⟨Fr.val, rfl, rfl⟩⟩
  · rintro r cs' ⟨x4, x5, x6, rfl, ⟨f4, rfl, rfl⟩, rfl⟩
    rw [List.length_map, List.take_length]
    simp! only [q_ss_c, f_ixl, f_ixt]
    rfl
end
end Vi

namespace Vi
open PySem L2
local macro_rules
  | `(tactic| simp! only [$ls,*] $[$l:location]?) => `(tactic| simp only [q_e_var, q_e_non, q_e_bl, q_e_int, q_e_str, q_e_glo, q_e_bin, q_e_neg, q_e_cmp, q_e_cmp2, q_e_and, q_e_or, q_e_not, q_e_ite, q_e_tup, q_e_lst, q_e_dct, q_e_idx, q_e_slc, q_e_rev, q_e_call, q_e_bi, q_e_op, q_op_cons, q_e_isi, q_e_mut, q_e_comp, q_d_nil, q_d_cons, q_o_nil, q_o_cons, q_a_nil, q_a_var, q_oP_non, q_ob_non, q_al_non, q_am_non, q_af_non, q_oP_bl, q_ob_bl, q_al_bl, q_am_bl, q_af_bl, q_oP_int, q_ob_int, q_al_int, q_am_int, q_af_int, q_oP_str, q_ob_str, q_al_str, q_am_str, q_af_str, q_oP_glo, q_ob_glo, q_al_glo, q_am_glo, q_af_glo, q_oP_bin, q_ob_bin, q_al_bin, q_am_bin, q_af_bin, q_oP_neg, q_ob_neg, q_al_neg, q_am_neg, q_af_neg, q_oP_cmp, q_ob_cmp, q_al_cmp, q_am_cmp, q_af_cmp, q_oP_cmp2, q_ob_cmp2, q_al_cmp2, q_am_cmp2, q_af_cmp2, q_oP_and, q_ob_and, q_al_and, q_am_and, q_af_and, q_oP_or, q_ob_or, q_al_or, q_am_or, q_af_or, q_oP_not, q_ob_not, q_al_not, q_am_not, q_af_not, q_oP_ite, q_ob_ite, q_al_ite, q_am_ite, q_af_ite, q_oP_tup, q_ob_tup, q_al_tup, q_am_tup, q_af_tup, q_oP_lst, q_ob_lst, q_al_lst, q_am_lst, q_af_lst, q_oP_dct, q_ob_dct, q_al_dct, q_am_dct, q_af_dct, q_oP_idx, q_ob_idx, q_al_idx, q_am_idx, q_af_idx, q_oP_slc, q_ob_slc, q_al_slc, q_am_slc, q_af_slc, q_oP_rev, q_ob_rev, q_al_rev, q_am_rev, q_af_rev, q_oP_call, q_ob_call, q_al_call, q_am_call, q_af_call, q_oP_bi, q_ob_bi, q_al_bi, q_am_bi, q_af_bi, q_oP_isi, q_ob_isi, q_al_isi, q_am_isi, q_af_isi, q_oP_mut, q_ob_mut, q_al_mut, q_am_mut, q_af_mut, q_oP_op, q_ob_op, q_al_op, q_am_op, q_af_op, q_oP_comp, q_ob_comp, q_al_comp, q_am_comp, q_af_comp, q_c_nil, q_c_cons, q_s_lst, q_s_tup, q_s_range, q_s_enum, q_s_zip, q_s_items, q_s_keys, q_s_vals, q_t_ex, q_t_asg, q_t_asgP, q_t_asgT, q_t_aug, q_t_setI, q_t_setI2, q_t_whl, q_t_ifs, q_t_for, q_t_retv, q_tr_non, q_tr_bl, q_tr_int, q_tr_str, q_tr_glo, q_tr_bin, q_tr_neg, q_tr_cmp, q_tr_cmp2, q_tr_and, q_tr_or, q_tr_not, q_tr_ite, q_tr_tup, q_tr_lst, q_tr_dct, q_tr_idx, q_tr_slc, q_tr_rev, q_tr_call, q_tr_bi, q_tr_isi, q_tr_mut, q_tr_op, q_tr_comp, q_t_retN, q_t_brk, q_t_cont, q_t_pass, q_ss_n, P_bind, P_ok, lc_P, f_slcl, f_slcs, f_slct, part0, part1, P_boolOf, bk_b, P_d, br_t, br_f, sq_n, sq_r, sq_b, sq_c, rv_, rv_val, rv_lst, rv_dct, rt_, rt_val, rt_own, rt_io, op_, op_val, op_own, av_, av_val, av_own, rd_v, rd_, rd_sv, rd_sl, rd_sd, lo_v, lo_, lo_val, lo_own, lo_lk, or_n, or_a, or_d, au_i, au_ii, au_add, au_sub, pb_n, pb_v, pb_s, p1_oo, p1_ov, p1_v, rds_n, rds_c, sv_val, sv_own, ss_, ss_no, ss_val, ss_own, oa_, oa_own, dd_val, dd_lst, dd_dct, bo_ok, bin2_c, cmp2_c, idx2_c, neg1_c, rev1_c, svs_n, svs_c, sps_n, sps_i, sps_t, untup_c, unlst_c, unseq_l, unseq_t, sel_t, sel_f, undct_c, untwo_c, b_ok, b_no, l_some, l_none, frz_val, frz_lst, frz_dct, f_add, f_addl, f_addt, f_sub, f_mulL, f_mulR, f_fdiv, f_mod, f_pow, f_lt, f_le, f_gt, f_ge, f_eq, f_ne, f_eqb, f_eqT2, f_isn, f_isni, f_isnb, f_isnl, f_isnt, f_nisn, f_nisni, f_nisnl, f_nisnt, f_neb, f_isb, f_nisb, f_nenil, f_lenl, f_lent, f_abs, f_min, f_max, f_min3, f_max3, f_intb, f_int, f_listl, f_listt, f_tupl, f_tupt, f_set, isl_l, pre_lenSet, pre_sortSet, pre_inVals, pre_ninVals, pre_lr1, pre_lr2, pre_dictOf, pre_min1, pre_max1, rest_n, rest_c, rst_s, pre_repr, f_neshw, f_eqshw, pre_get1, pre_get2, f_lenSet, f_sortSet, f_get1, f_get2, f_get2b, f_inVals, f_ninVals, f_lr1, f_min1, f_max1, f_sort, f_sum, f_anyb, f_allb, f_meml, f_nmeml, f_memd, f_nmemd, f_ixd, f_lend, f_setd, f_dct0, f_ins, isl_d, f_app, f_mkT, f_mkL, sm64_of, ix0, ix1, ix2, ix3, ixm1, f_isi1, f_isi2, f_isi3, f_isi4, f_isi5, f_isi6, f_isi7, f_isi8, f_isi9, f_isi10, f_isi11, f_isi12, f_isi13, f_isi14, f_isi15, f_isi16, f_isi17, f_isi18, f_isi19, f_isi20, f_isi21, f_isi22, f_isi23, f_isi24, f_isi25, f_isi26, f_isi27, f_isi28, f_isi29, f_isi30, List.getElem?_cons_zero, List.getElem?_cons_succ, List.set_cons_zero, List.set_cons_succ, List.map_cons, List.map_nil, List.cons_append, List.nil_append, List.replicate, Option.bind_some, Option.map_some, List.length_cons, List.length_nil, inOf, outOf, C.toD, Cst.d, Nat.reduceAdd, Int.reduceNeg, Bool.not_true, Bool.not_false, decide_true, decide_false, List.isEmpty_nil, List.isEmpty_cons, Bool.and_true, Bool.true_and, if_true, if_false, true_and, and_true, Bool.false_eq_true, Int.reduceLT, Nat.reduceLT, Nat.reduceLeDiff, Int.reduceLE, Nat.zero_le, ne_eq, not_false_eq_true, not_true_eq_false, Int.reduceEq, Nat.reducePow, Int.reducePow, Int.reduceToNat, Int.cast_ofNat_Int, Int.reduceBEq, beq_self_eq_true, Int.reduceAdd, Int.reduceSub, Int.reduceMul, $ls,*] $[$l]?)
/-! ### pairs, sorted -/
abbrev pairD (q : Int × Int) : D := .tup [.int q.1, .int q.2]
def l2 (q : Int × Int) : List Int := [q.1, q.2]
def leP (a b : Int × Int) : Bool := leL (l2 a) (l2 b)
def sortP (ps : Hs) : Hs := ps.mergeSort leP
theorem tups_pairs : ∀ ps : Hs, tupsI? (ps.map pairD) = some (ps.map l2)
  | [] => rfl
  | q :: ps => by
    show ((tupsI? (ps.map pairD)).map (l2 q :: ·)) = _
    rw [tups_pairs ps]; rfl
theorem leP_iff {a b : Int × Int} : leP a b = true ↔ a.1 < b.1 ∨ (a.1 = b.1 ∧ a.2 ≤ b.2) := by
  obtain ⟨a1, a2⟩ := a
  obtain ⟨b1, b2⟩ := b
  simp only [leP, l2, leL]
  by_cases h1 : a1 < b1
  · simp [h1]
  · by_cases h2 : a1 = b1
    · subst h2
      by_cases h3 : a2 < b2
      · simp [h3]; omega
      · by_cases h4 : a2 = b2
        · subst h4; simp
        · simp [h3, h4]; omega
    · simp [h1, h2]
theorem sorted_pairs {ps : Hs} (h : ∀ q ∈ ps, 0 ≤ q.1 ∧ 0 ≤ q.2) (hl : ps.length ≤ 63) : biD .sorted [.lst (ps.map pairD)] = some (.own (.lst ((sortP ps).map pairD))) := by
  cases ps with
  | nil => simp [sortP, biD, ints?, sortI]
  | cons q ps =>
    have e1 : (sortL ((q :: ps).map l2)).map tupI = (sortP (q :: ps)).map pairD := by
      unfold sortL sortP
      rw [← List.map_mergeSort (r := leP) (f := l2) (s := leL) (fun a _ b _ => rfl), List.map_map]
      rfl
    show (tupsI? ((q :: ps).map pairD)).bind sortTs = _
    rw [tups_pairs, Option.bind_some]
    show (if decide (1 ≤ (l2 q).length) && decide ((ps.map l2).length < 63) && ((q :: ps).map l2).all (fun m => decide (m.length = (l2 q).length) && m.all fun i => decide (0 ≤ i)) then some (Rv.own (.lst ((sortL ((q :: ps).map l2)).map tupI))) else none) = _
    rw [if_pos, e1]
    simp only [Bool.and_eq_true, decide_eq_true_eq, List.all_eq_true]
    refine ⟨⟨by simp [l2], by rw [List.length_map]; rw [List.length_cons] at hl; omega⟩, fun m hm => ?_⟩
    obtain ⟨x, hx, rfl⟩ := List.mem_map.mp hm
    refine ⟨rfl, fun i hi => ?_⟩
    have := h x hx
    simp only [l2, List.mem_cons, List.not_mem_nil, or_false] at hi
    rcases hi with rfl | rfl
    · exact this.1
    · exact this.2
theorem sortP_perm (ps : Hs) : (sortP ps).Perm ps := List.mergeSort_perm ps leP
theorem sortP_pw (ps : Hs) : (sortP ps).Pairwise fun a b => leP a b = true := by
  refine List.pairwise_mergeSort (fun a b c h1 h2 => ?_) (fun a b => ?_) ps
  · rw [leP_iff] at *
    omega
  · rw [Bool.or_eq_true, leP_iff, leP_iff]
    omega
theorem pw_strict {ps : Hs} (h : ps.Pairwise fun a b => leP a b = true) (hn : (ps.map (·.1)).Nodup) : ps.Pairwise fun a b => a.1 < b.1 := by
  induction ps with
  | nil => exact .nil
  | cons q ps ih =>
    obtain ⟨h1, h2⟩ := List.pairwise_cons.mp h
    rw [List.map_cons, List.nodup_cons] at hn
    refine List.pairwise_cons.mpr ⟨fun b hb => ?_, ih h2 hn.2⟩
    have := leP_iff.mp (h1 b hb)
    have : q.1 ≠ b.1 := fun z => hn.1 (z ▸ List.mem_map.mpr ⟨b, hb, rfl⟩)
    omega
/-- what a robing of the most is: pairs of a person and a robe, the persons rising -/
def Told (rows : Rows) (ms : Hs) : Prop := ∃ hs, Best rows hs ∧ ms.Perm (hs.map fun q => (q.2, q.1)) ∧ ms.Pairwise fun a b => a.1 < b.1
theorem nodup_vals {rows : Rows} {hs : Hs} (m : Mat rows hs) : (hs.map (·.2)).Nodup := by
  have h1 := m.nd
  have h2 := m.inj
  clear m
  induction hs with
  | nil => exact List.nodup_nil
  | cons q hs ih =>
    rw [List.map_cons, List.nodup_cons] at h1 ⊢
    refine ⟨fun hm => ?_, ih h1.2 fun s s' p a b => h2 s s' p (List.mem_cons_of_mem _ a) (List.mem_cons_of_mem _ b)⟩
    obtain ⟨⟨s, p⟩, ha, e⟩ := List.mem_map.mp hm
    have e : p = q.2 := e
    have := h2 q.1 s q.2 List.mem_cons_self (List.mem_cons_of_mem _ (e ▸ ha))
    exact h1.1 (List.mem_map.mpr ⟨(s, p), ha, this.symm⟩)
theorem items_hs : ∀ hs : Hs, itemsD (kI (hs.map (·.1))) (hs.map fun q => D.int q.2) = hs.map pairD
  | [] => rfl
  | q :: hs => by
    show D.tup [.int q.1, .int q.2] :: itemsD (kI (hs.map (·.1))) (hs.map fun q => D.int q.2) = _
    rw [items_hs hs]; rfl
def matchingFn (h : Nat) : Fn := ⟨1, 3, (.cons (.ret (.bi .sorted (.cons (.comp (.tup (.cons (.var 2) (.cons (.var 1) .nil))) (.tup [1, 2]) (.items (.call h (.cons (.var 0) .nil) [] .nil [.at 0])) .nil [1, 2]) .nil)))
    .nil)⟩
section
variable {T : Nat → Option Fn}
theorem mat_len {rows : Rows} {hs : Hs} (m : Mat rows hs) : hs.length ≤ rows.length := by
  have := nodup_sub_len (l := (hs.map (·.2)).map Int.toNat) (m := List.range rows.length) ?_ fun x hx => ?_
  · simpa using this
  · have h2 := nodup_vals m
    have h3 : ∀ x ∈ hs.map (·.2), 0 ≤ x := fun x hx => by
      obtain ⟨⟨s, p⟩, ha, rfl⟩ := List.mem_map.mp hx
      exact (m.e s p ha).1
    clear m
    generalize hs.map (·.2) = l at h2 h3
    induction l with
    | nil => exact List.nodup_nil
    | cons x l ih =>
      rw [List.map_cons, List.nodup_cons]
      rw [List.nodup_cons] at h2
      refine ⟨fun hm => ?_, ih h2.2 fun y hy => h3 y (List.mem_cons_of_mem _ hy)⟩
      obtain ⟨y, hy, e⟩ := List.mem_map.mp hm
      have a := h3 x List.mem_cons_self
      have b := h3 y (List.mem_cons_of_mem _ hy)
      exact h2.1 ((show y = x by omega) ▸ hy)
  · obtain ⟨y, hy, rfl⟩ := List.mem_map.mp hx
    obtain ⟨⟨s, p⟩, ha, rfl⟩ := List.mem_map.mp hy
    have := m.e s p ha
    rw [List.mem_range]
    have h1 := this.1
    have h2 := this.2.1
    show p.toNat < _
    omega
theorem matching_Q {fm fh f : Nat} (hfm : T fm = some (matchingFn fh)) (hfh : T fh = some (holdersFn f)) (hf : T f = some (placedFn f)) (rows : Rows) (U : List Int) (hU : U.length ≤ 10000) (hr : ∀ s p, edge rows s p → s ∈ U ∧ 0 ≤ s) (hrl : rows.length ≤ 63) {A : Rv} (hA : A = .val (.lst (rowsL rows)) ∨ A = .own (.lst (rowsL rows))) (k : Nat) (hk : U.length < k) (cs : List C) :
    (dCall T (k + 2) fm [A] cs).Q fun v outs cs' => ∃ ms, Told rows ms ∧ v = .own (.lst (ms.map pairD)) ∧ outs = [A] ∧ cs' = cs := by
  refine call_Q hfm rfl ?_
  simp only [matchingFn]
  have hq := holders_Q (f := f) hfh hf rows U hU (fun s p h => (hr s p h).1) (by omega) hA k hk cs
  have fin : ∀ hs : Hs, Best rows hs → biD .sorted [.lst (hs.map fun q => .tup [.int q.2, .int q.1])] = some (.own (.lst ((sortP (hs.map fun q => (q.2, q.1))).map pairD))) ∧ Told rows (sortP (hs.map fun q => (q.2, q.1))) := fun hs b => by
    refine ⟨?_, hs, b, sortP_perm _, pw_strict (sortP_pw _) ?_⟩
    · have := sorted_pairs (ps := hs.map fun q => (q.2, q.1)) (fun q hq => by
        obtain ⟨⟨s, p⟩, ha, rfl⟩ := List.mem_map.mp hq
        have := b.m.e s p ha
        exact ⟨this.1, (hr s p this).2⟩) (by rw [List.length_map]; have := mat_len b.m; omega)
      rw [List.map_map] at this
      exact this
    · refine ((sortP_perm _).map _).nodup_iff.mpr ?_
      rw [List.map_map]
      exact nodup_vals b.m
  rcases hA with e | e
  · rw [e] at hq
    simp! only [q_ss_c, f_ixl, f_ixt, e]
    refine do_P rfl rfl (hq.mono ?_)
    rintro v_ q_ c_ ⟨hs, b, rfl, rfl, rfl⟩
    obtain ⟨f1, f2⟩ := fin hs b
    simp! only [q_ss_c, f_ixl, f_ixt, items_hs]
    refine lcX_P hs pairD (fun _ => true) (fun q => .tup [.int q.2, .int q.1]) rfl (by have := mat_len b.m; omega) rfl (fun j hj => nomatch hj) rfl (fun q hq => ⟨[.val false (.lst (rowsL rows)), .val false (.int q.1), .val false (.int q.2)], rfl, ?_⟩) ?_
    · simp! only [q_ss_c, f_ixl, f_ixt]
      first | rfl | exact ⟨rfl, rfl⟩
    · have hft : hs.filter (fun _ => true) = hs := List.filter_eq_self.mpr fun _ _ => rfl
      rw [hft]
      simp! only [q_ss_c, f_ixl, f_ixt, f1]
      exact ⟨_, f2, rfl, rfl⟩
  · rw [e] at hq
    simp! only [q_ss_c, f_ixl, f_ixt, e]
    refine do_P rfl rfl (hq.mono ?_)
    rintro v_ q_ c_ ⟨hs, b, rfl, rfl, rfl⟩
    obtain ⟨f1, f2⟩ := fin hs b
    simp! only [q_ss_c, f_ixl, f_ixt, items_hs]
    refine lcX_P hs pairD (fun _ => true) (fun q => .tup [.int q.2, .int q.1]) rfl (by have := mat_len b.m; omega) rfl (fun j hj => nomatch hj) rfl (fun q hq => ⟨[.own true false (.lst (rowsL rows)), .val false (.int q.1), .val false (.int q.2)], rfl, ?_⟩) ?_
    · simp! only [q_ss_c, f_ixl, f_ixt]
      first | rfl | exact ⟨rfl, rfl⟩
    · have hft : hs.filter (fun _ => true) = hs := List.filter_eq_self.mpr fun _ _ => rfl
      rw [hft]
      simp! only [q_ss_c, f_ixl, f_ixt, f1]
      exact ⟨_, f2, rfl, rfl⟩
/-! ### a robing -/
def spotsU (n : Nat) : List Int := (List.range n).map fun (i : Nat) => (i : Int)
theorem spotsU_len {n : Nat} : (spotsU n).length = n := by simp [spotsU]
theorem mem_rowF {stock : List Robe} {loose one s : Int} : s ∈ rowF stock loose one ↔ 0 ≤ s ∧ ∃ g, stock[s.toNat]? = some g ∧ fitsB g one loose = true := by
  unfold rowF
  rw [List.mem_map]
  constructor
  · rintro ⟨⟨g, i⟩, h1, rfl⟩
    obtain ⟨h2, h3⟩ := List.mem_filter.mp h1
    have h2 := List.mem_zipIdx_iff_getElem?.mp h2
    refine ⟨by omega, g, ?_, h3⟩
    simpa using h2
  · rintro ⟨h0, g, h1, h2⟩
    refine ⟨(g, s.toNat), List.mem_filter.mpr ⟨List.mem_zipIdx_iff_getElem?.mpr h1, h2⟩, ?_⟩
    show ((s.toNat : Nat) : Int) = s
    omega
theorem edge_able {crowd : List Int} {stock : List Robe} {loose s p : Int} : edge (ableF crowd stock loose) s p ↔ 0 ≤ p ∧ 0 ≤ s ∧ ∃ one g, crowd[p.toNat]? = some one ∧ stock[s.toNat]? = some g ∧ fitsB g one loose = true := by
  unfold edge rowOf ableF
  rw [List.length_map, List.getElem?_map]
  constructor
  · rintro ⟨h0, h1, h2⟩
    cases e : crowd[p.toNat]? with
    | none => rw [e] at h2; cases h2
    | some one =>
      rw [e] at h2
      obtain ⟨h3, g, h4, h5⟩ := mem_rowF.mp (show s ∈ rowF stock loose one from h2)
      exact ⟨h0, h3, one, g, rfl, h4, h5⟩
  · rintro ⟨h0, h1, one, g, h2, h3, h4⟩
    have := (List.getElem?_eq_some_iff.mp h2).1
    refine ⟨h0, by omega, ?_⟩
    rw [h2]
    exact mem_rowF.mpr ⟨h1, g, h3, h4⟩
theorem edge_U {crowd : List Int} {stock : List Robe} {loose s p : Int} (h : edge (ableF crowd stock loose) s p) : s ∈ spotsU stock.length ∧ 0 ≤ s := by
  obtain ⟨_, h0, one, g, _, h2, _⟩ := edge_able.mp h
  have := (List.getElem?_eq_some_iff.mp h2).1
  refine ⟨List.mem_map.mpr ⟨s.toNat, List.mem_range.mpr this, ?_⟩, h0⟩
  show ((s.toNat : Nat) : Int) = s
  omega
def robingFn (m a : Nat) : Fn := ⟨3, 3, (.cons (.ret (.call m (.cons (.call a (.cons (.var 0) (.cons (.var 1) (.cons (.var 2) .nil))) [] .nil [.at 0, .at 1, .at 2]) .nil) [] .nil [.at 0]))
    .nil)⟩
theorem robing_Q {fr fa ff fm fh f : Nat} (hfr : T fr = some (robingFn fm fa)) (hfa : T fa = some (ableFn ff)) (hfm : T fm = some (matchingFn fh)) (hfh : T fh = some (holdersFn f)) (hf : T f = some (placedFn f)) {k : Nat} (hF : FitsOk T (k + 1) ff)
    (crowd : List Int) (stock : List Robe) (loose : Int) (cs : List C) (hc : crowd.length ≤ 63) (hs : stock.length < k) (hs2 : stock.length ≤ 10000) :
    (dCall T (k + 3) fr [.val (crowdD crowd), .val (stockD stock), .val (.int loose)] cs).Q fun v outs cs' => ∃ ms, Told (ableF crowd stock loose) ms ∧ v = .own (.lst (ms.map pairD)) ∧ outs = [.val (crowdD crowd), .val (stockD stock), .val (.int loose)] ∧ cs' = cs := by
  refine call_Q hfr rfl ?_
  simp only [robingFn]
  simp! only [q_ss_c, f_ixl, f_ixt]
  refine do_P rfl rfl ((able_Q hfa hF crowd stock loose cs (by omega) hs2).mono ?_)
  rintro v_ q_ c_ ⟨rfl, rfl, rfl⟩
  simp! only [q_ss_c, f_ixl, f_ixt]
  refine do_P rfl rfl ((matching_Q hfm hfh hf (ableF crowd stock loose) (spotsU stock.length) (by rw [spotsU_len]; omega) (fun s p h => edge_U h) (by unfold ableF; rw [List.length_map]; omega) (.inr rfl) k (by rw [spotsU_len]; omega) _).mono ?_)
  rintro v_ q_ c_ ⟨ms, h1, rfl, rfl, rfl⟩
  simp! only [q_ss_c, f_ixl, f_ixt]
  exact ⟨ms, h1, rfl, rfl⟩
end
end Vi

namespace Vi
open PySem L2
local macro_rules
  | `(tactic| simp! only [$ls,*] $[$l:location]?) => `(tactic| simp only [q_e_var, q_e_non, q_e_bl, q_e_int, q_e_str, q_e_glo, q_e_bin, q_e_neg, q_e_cmp, q_e_cmp2, q_e_and, q_e_or, q_e_not, q_e_ite, q_e_tup, q_e_lst, q_e_dct, q_e_idx, q_e_slc, q_e_rev, q_e_call, q_e_bi, q_e_op, q_op_cons, q_e_isi, q_e_mut, q_e_comp, q_d_nil, q_d_cons, q_o_nil, q_o_cons, q_a_nil, q_a_var, q_oP_non, q_ob_non, q_al_non, q_am_non, q_af_non, q_oP_bl, q_ob_bl, q_al_bl, q_am_bl, q_af_bl, q_oP_int, q_ob_int, q_al_int, q_am_int, q_af_int, q_oP_str, q_ob_str, q_al_str, q_am_str, q_af_str, q_oP_glo, q_ob_glo, q_al_glo, q_am_glo, q_af_glo, q_oP_bin, q_ob_bin, q_al_bin, q_am_bin, q_af_bin, q_oP_neg, q_ob_neg, q_al_neg, q_am_neg, q_af_neg, q_oP_cmp, q_ob_cmp, q_al_cmp, q_am_cmp, q_af_cmp, q_oP_cmp2, q_ob_cmp2, q_al_cmp2, q_am_cmp2, q_af_cmp2, q_oP_and, q_ob_and, q_al_and, q_am_and, q_af_and, q_oP_or, q_ob_or, q_al_or, q_am_or, q_af_or, q_oP_not, q_ob_not, q_al_not, q_am_not, q_af_not, q_oP_ite, q_ob_ite, q_al_ite, q_am_ite, q_af_ite, q_oP_tup, q_ob_tup, q_al_tup, q_am_tup, q_af_tup, q_oP_lst, q_ob_lst, q_al_lst, q_am_lst, q_af_lst, q_oP_dct, q_ob_dct, q_al_dct, q_am_dct, q_af_dct, q_oP_idx, q_ob_idx, q_al_idx, q_am_idx, q_af_idx, q_oP_slc, q_ob_slc, q_al_slc, q_am_slc, q_af_slc, q_oP_rev, q_ob_rev, q_al_rev, q_am_rev, q_af_rev, q_oP_call, q_ob_call, q_al_call, q_am_call, q_af_call, q_oP_bi, q_ob_bi, q_al_bi, q_am_bi, q_af_bi, q_oP_isi, q_ob_isi, q_al_isi, q_am_isi, q_af_isi, q_oP_mut, q_ob_mut, q_al_mut, q_am_mut, q_af_mut, q_oP_op, q_ob_op, q_al_op, q_am_op, q_af_op, q_oP_comp, q_ob_comp, q_al_comp, q_am_comp, q_af_comp, q_c_nil, q_c_cons, q_s_lst, q_s_tup, q_s_range, q_s_enum, q_s_zip, q_s_items, q_s_keys, q_s_vals, q_t_ex, q_t_asg, q_t_asgP, q_t_asgT, q_t_aug, q_t_setI, q_t_setI2, q_t_whl, q_t_ifs, q_t_for, q_t_retv, q_tr_non, q_tr_bl, q_tr_int, q_tr_str, q_tr_glo, q_tr_bin, q_tr_neg, q_tr_cmp, q_tr_cmp2, q_tr_and, q_tr_or, q_tr_not, q_tr_ite, q_tr_tup, q_tr_lst, q_tr_dct, q_tr_idx, q_tr_slc, q_tr_rev, q_tr_call, q_tr_bi, q_tr_isi, q_tr_mut, q_tr_op, q_tr_comp, q_t_retN, q_t_brk, q_t_cont, q_t_pass, q_ss_n, P_bind, P_ok, lc_P, f_slcl, f_slcs, f_slct, part0, part1, P_boolOf, bk_b, P_d, br_t, br_f, sq_n, sq_r, sq_b, sq_c, rv_, rv_val, rv_lst, rv_dct, rt_, rt_val, rt_own, rt_io, op_, op_val, op_own, av_, av_val, av_own, rd_v, rd_, rd_sv, rd_sl, rd_sd, lo_v, lo_, lo_val, lo_own, lo_lk, or_n, or_a, or_d, au_i, au_ii, au_add, au_sub, pb_n, pb_v, pb_s, p1_oo, p1_ov, p1_v, rds_n, rds_c, sv_val, sv_own, ss_, ss_no, ss_val, ss_own, oa_, oa_own, dd_val, dd_lst, dd_dct, bo_ok, bin2_c, cmp2_c, idx2_c, neg1_c, rev1_c, svs_n, svs_c, sps_n, sps_i, sps_t, untup_c, unlst_c, unseq_l, unseq_t, sel_t, sel_f, undct_c, untwo_c, b_ok, b_no, l_some, l_none, frz_val, frz_lst, frz_dct, f_add, f_addl, f_addt, f_sub, f_mulL, f_mulR, f_fdiv, f_mod, f_pow, f_lt, f_le, f_gt, f_ge, f_eq, f_ne, f_eqb, f_eqT2, f_isn, f_isni, f_isnb, f_isnl, f_isnt, f_nisn, f_nisni, f_nisnl, f_nisnt, f_neb, f_isb, f_nisb, f_nenil, f_lenl, f_lent, f_abs, f_min, f_max, f_min3, f_max3, f_intb, f_int, f_listl, f_listt, f_tupl, f_tupt, f_set, isl_l, pre_lenSet, pre_sortSet, pre_inVals, pre_ninVals, pre_lr1, pre_lr2, pre_dictOf, pre_min1, pre_max1, rest_n, rest_c, rst_s, pre_repr, f_neshw, f_eqshw, pre_get1, pre_get2, f_lenSet, f_sortSet, f_get1, f_get2, f_get2b, f_inVals, f_ninVals, f_lr1, f_min1, f_max1, f_sort, f_sum, f_anyb, f_allb, f_meml, f_nmeml, f_memd, f_nmemd, f_ixd, f_lend, f_setd, f_dct0, f_ins, isl_d, f_app, f_mkT, f_mkL, sm64_of, ix0, ix1, ix2, ix3, ixm1, f_isi1, f_isi2, f_isi3, f_isi4, f_isi5, f_isi6, f_isi7, f_isi8, f_isi9, f_isi10, f_isi11, f_isi12, f_isi13, f_isi14, f_isi15, f_isi16, f_isi17, f_isi18, f_isi19, f_isi20, f_isi21, f_isi22, f_isi23, f_isi24, f_isi25, f_isi26, f_isi27, f_isi28, f_isi29, f_isi30, List.getElem?_cons_zero, List.getElem?_cons_succ, List.set_cons_zero, List.set_cons_succ, List.map_cons, List.map_nil, List.cons_append, List.nil_append, List.replicate, Option.bind_some, Option.map_some, List.length_cons, List.length_nil, inOf, outOf, C.toD, Cst.d, Nat.reduceAdd, Int.reduceNeg, Bool.not_true, Bool.not_false, decide_true, decide_false, List.isEmpty_nil, List.isEmpty_cons, Bool.and_true, Bool.true_and, if_true, if_false, true_and, and_true, Bool.false_eq_true, Int.reduceLT, Nat.reduceLT, Nat.reduceLeDiff, Int.reduceLE, Nat.zero_le, ne_eq, not_false_eq_true, not_true_eq_false, Int.reduceEq, Nat.reducePow, Int.reducePow, Int.reduceToNat, Int.cast_ofNat_Int, Int.reduceBEq, beq_self_eq_true, Int.reduceAdd, Int.reduceSub, Int.reduceMul, $ls,*] $[$l]?)
/-! ### folk and robes, drawn -/
def feastFn (tk : Nat) : Fn := ⟨2, 11, (.cons (.asg 2 (.idx (.lst (.cons (.int 1) (.cons (.int 20) (.cons (.int 470) (.cons (.bin .add (.int 1) (.call tk (.cons (.var 0) (.cons (.int 440) .nil)) [] .nil [.at 0, .at 1])) .nil))))) (.call tk (.cons (.var 0) (.cons (.int 4) .nil)) [] .nil [.at 0, .at 1])))
    (.cons (.asg 3 (.idx (.lst (.cons (.int 1) (.cons (.int 4) (.cons (.int 12) (.cons (.int 40) .nil))))) (.call tk (.cons (.var 0) (.cons (.int 4) .nil)) [] .nil [.at 0, .at 1])))
    (.cons (.asg 4 (.idx (.lst (.cons (.int 1) (.cons (.int 3) (.cons (.int 12) (.cons (.int 100) .nil))))) (.call tk (.cons (.var 0) (.cons (.int 4) .nil)) [] .nil [.at 0, .at 1])))
    (.cons (.asg 5 (.call tk (.cons (.var 0) (.cons (.int 3) .nil)) [] .nil [.at 0, .at 1]))
    (.cons (.asg 6 (.lst .nil))
    (.cons (.for_ (.name 7) (.range (.cons (.idx (.lst (.cons (.call tk (.cons (.var 0) (.cons (.bin .add (.var 1) (.int 1)) .nil)) [] .nil [.at 0, .at 1]) (.cons (.var 1) (.cons (.call tk (.cons (.var 0) (.cons (.bi .min (.cons (.int 5) (.cons (.bin .add (.var 1) (.int 1)) .nil))) .nil)) [] .nil [.at 0, .at 1]) .nil)))) (.call tk (.cons (.var 0) (.cons (.int 3) .nil)) [] .nil [.at 0, .at 1])) .nil)) (.cons (.ex (.mut .append 6 (.cons (.bi .min (.cons (.int 500) (.cons (.bin .add (.var 2) (.call tk (.cons (.var 0) (.cons (.var 3) .nil)) [] .nil [.at 0, .at 1])) .nil))) .nil)))
    .nil))
    (.cons (.asg 8 (.lst .nil))
    (.cons (.for_ (.name 7) (.range (.cons (.idx (.lst (.cons (.call tk (.cons (.var 0) (.cons (.bin .add (.var 1) (.int 3)) .nil)) [] .nil [.at 0, .at 1]) (.cons (.var 1) (.cons (.call tk (.cons (.var 0) (.cons (.int 6) .nil)) [] .nil [.at 0, .at 1]) .nil)))) (.call tk (.cons (.var 0) (.cons (.int 3) .nil)) [] .nil [.at 0, .at 1])) .nil)) (.cons (.asg 9 (.bi .max (.cons (.int 1) (.cons (.bin .sub (.bin .add (.var 2) (.call tk (.cons (.var 0) (.cons (.bin .add (.var 3) (.int 4)) .nil)) [] .nil [.at 0, .at 1])) (.int 2)) .nil))))
    (.cons (.asg 10 (.bi .min (.cons (.bin .sub (.var 9) (.int 1)) (.cons (.call tk (.cons (.var 0) (.cons (.var 4) .nil)) [] .nil [.at 0, .at 1]) .nil))))
    (.cons (.ex (.mut .append 8 (.cons (.tup (.cons (.var 9) (.cons (.var 10) (.cons (.call tk (.cons (.var 0) (.cons (.var 4) .nil)) [] .nil [.at 0, .at 1]) .nil)))) .nil)))
    (.cons (.ifs (.cmp .eq (.var 5) (.int 0)) (.cons (.setI 8 (.neg (.int 1)) (.tup (.cons (.bi .max (.cons (.var 9) (.cons (.var 4) .nil))) (.cons (.bin .sub (.var 4) (.int 1)) (.cons (.bin .fdiv (.var 4) (.int 2)) .nil)))))
    .nil) .nil)
    .nil)))))
    (.cons (.ret (.tup (.cons (.var 6) (.cons (.var 8) (.cons (.idx (.lst (.cons (.int 0) (.cons (.int 0) (.cons (.call tk (.cons (.var 0) (.cons (.int 4) .nil)) [] .nil [.at 0, .at 1]) (.cons (.int 9) .nil))))) (.call tk (.cons (.var 0) (.cons (.int 4) .nil)) [] .nil [.at 0, .at 1])) .nil)))))
    .nil)))))))))⟩
def RobeOk (g : Robe) : Prop := 1 ≤ g.1 ∧ g.1 ≤ 999 ∧ 0 ≤ g.2.1 ∧ g.2.1 ≤ 99 ∧ g.2.1 < g.1 ∧ 0 ≤ g.2.2 ∧ g.2.2 ≤ 99
theorem ixN_last {n : Nat} : ixN (n + 1) (-1) = some n := ixm1
theorem set_last {α : Type} {l : List α} {x y : α} : (l ++ [x]).set l.length y = l ++ [y] := by
  rw [List.set_append]
  simp
section
variable {T : Nat → Option Fn} {tk n : Nat}
theorem feast_Q {ff : Nat} (htk : T tk = some takeFn) (hf : T ff = some (feastFn tk)) {cells : List Int} {at_ great most : Int} {cs : List C} (h0 : 0 ≤ at_) (h1 : at_ ≤ 16770000) (hm0 : 0 ≤ most) (hm1 : most ≤ 12) :
    (dCall T (n + 2) ff [.own (pen cells at_ great), .val (.int most)] cs).Q fun v outs cs' => ∃ crowd stock loose at' gr', v = .val (.tup [crowdD crowd, stockD stock, .int loose]) ∧ crowd.length ≤ most.toNat ∧ (∀ c ∈ crowd, 1 ≤ c ∧ c ≤ 500) ∧ (stock.length ≤ most.toNat + 2 ∨ stock.length ≤ 5) ∧ (∀ g ∈ stock, RobeOk g) ∧ 0 ≤ loose ∧ loose ≤ 9 ∧ at_ ≤ at' ∧ at' ≤ at_ + 100 ∧ outs = [.own (pen cells at' gr'), .val (.int most)] ∧ cs' = cs := by
  refine call_Q hf rfl ?_
  simp only [feastFn]
  simp! only [q_ss_c]
  refine do_P rfl rfl ((take_Q (T := T) (f := tk) htk _ _ _ _ _ (by omega) (by omega) (by first | decide | omega | ((repeat' split) <;> omega)) (by first | decide | omega | ((repeat' split) <;> omega))).mono ?_)
  rintro v_ q_ c_ ⟨x1, at_a1, gr_a1, rfl, hx1, hx1', ha1, ha1', rfl, rfl⟩
  simp! only [q_ss_c]
  refine do_P rfl rfl ((take_Q (T := T) (f := tk) htk _ _ _ _ _ (by omega) (by omega) (by first | decide | omega | ((repeat' split) <;> omega)) (by first | decide | omega | ((repeat' split) <;> omega))).mono ?_)
  rintro v_ q_ c_ ⟨x2, at_a2, gr_a2, rfl, hx2, hx2', ha2, ha2', rfl, rfl⟩
  simp! only [q_ss_c]
  refine lixJ_P (lo := 1) (hi := 470) hx2 (by exact hx2') (by repeat (first | exact MI.nil | refine MI.cons (by first | omega | ((repeat' split) <;> omega)) (by first | omega | ((repeat' split) <;> omega)) ?_)) fun base hbase hbase' => ?_
  simp! only [q_ss_c]
  refine do_P rfl rfl ((take_Q (T := T) (f := tk) htk _ _ _ _ _ (by omega) (by omega) (by first | decide | omega | ((repeat' split) <;> omega)) (by first | decide | omega | ((repeat' split) <;> omega))).mono ?_)
  rintro v_ q_ c_ ⟨x3, at_a3, gr_a3, rfl, hx3, hx3', ha3, ha3', rfl, rfl⟩
  simp! only [q_ss_c]
  refine lixJ_P (lo := 1) (hi := 40) hx3 (by exact hx3') (by repeat (first | exact MI.nil | refine MI.cons (by first | omega | ((repeat' split) <;> omega)) (by first | omega | ((repeat' split) <;> omega)) ?_)) fun broad hbroad hbroad' => ?_
  simp! only [q_ss_c]
  refine do_P rfl rfl ((take_Q (T := T) (f := tk) htk _ _ _ _ _ (by omega) (by omega) (by first | decide | omega | ((repeat' split) <;> omega)) (by first | decide | omega | ((repeat' split) <;> omega))).mono ?_)
  rintro v_ q_ c_ ⟨x4, at_a4, gr_a4, rfl, hx4, hx4', ha4, ha4', rfl, rfl⟩
  simp! only [q_ss_c]
  refine lixJ_P (lo := 1) (hi := 100) hx4 (by exact hx4') (by repeat (first | exact MI.nil | refine MI.cons (by first | omega | ((repeat' split) <;> omega)) (by first | omega | ((repeat' split) <;> omega)) ?_)) fun seam hseam hseam' => ?_
  simp! only [q_ss_c]
  refine do_P rfl rfl ((take_Q (T := T) (f := tk) htk _ _ _ _ _ (by omega) (by omega) (by first | decide | omega | ((repeat' split) <;> omega)) (by first | decide | omega | ((repeat' split) <;> omega))).mono ?_)
  rintro v_ q_ c_ ⟨x5, at_a5, gr_a5, rfl, hx5, hx5', ha5, ha5', rfl, rfl⟩
  simp! only [q_ss_c]
  refine do_P rfl rfl ((take_Q (T := T) (f := tk) htk _ _ _ _ _ (by omega) (by omega) (by first | decide | omega | ((repeat' split) <;> omega)) (by first | decide | omega | ((repeat' split) <;> omega))).mono ?_)
  rintro v_ q_ c_ ⟨x6, at_a6, gr_a6, rfl, hx6, hx6', ha6, ha6', rfl, rfl⟩
  simp! only [q_ss_c]
  refine do_P rfl rfl ((take_Q (T := T) (f := tk) htk _ _ _ _ _ (by omega) (by omega) (by first | decide | omega | ((repeat' split) <;> omega)) (by first | decide | omega | ((repeat' split) <;> omega))).mono ?_)
  rintro v_ q_ c_ ⟨x7, at_a7, gr_a7, rfl, hx7, hx7', ha7, ha7', rfl, rfl⟩
  simp! only [q_ss_c]
  refine do_P rfl rfl ((take_Q (T := T) (f := tk) htk _ _ _ _ _ (by omega) (by omega) (by first | decide | omega | ((repeat' split) <;> omega)) (by first | decide | omega | ((repeat' split) <;> omega))).mono ?_)
  rintro v_ q_ c_ ⟨x8, at_a8, gr_a8, rfl, hx8, hx8', ha8, ha8', rfl, rfl⟩
  simp! only [q_ss_c]
  have hx7b : x7 ≤ most := by split at hx7' <;> omega
  refine lixJ_P (lo := 0) (hi := most) hx8 (by exact hx8') (by repeat (first | exact MI.nil | refine MI.cons (by first | omega | ((repeat' split) <;> omega)) (by first | omega | ((repeat' split) <;> omega)) ?_)) fun m1 hm1 hm1' => ?_
  simp! only [q_ss_c]
  have hr1 := rng1 (j := m1) hm1 (by omega)
  simp! only [q_ss_c, hr1]
  refine for0_P (fun j r cs' => ∃ at' gr' crowd y7, r = [.own true false (pen cells at' gr'), .val false (.int most), .val false (.int base), .val false (.int broad), .val false (.int seam), .val false (.int x5), .own false false (.lst (crowd.map .int)), y7, .no, .no, .no] ∧ Fr y7 ∧ crowd.length = j ∧ (∀ c ∈ crowd, 1 ≤ c ∧ c ≤ 500) ∧ at_a8 ≤ at' ∧ at' ≤ at_a8 + (j : Int) ∧ cs' = c_) ⟨_, _, [], _, rfl, Fr.no, rfl, (fun c h => nomatch h), by omega, by omega, rfl⟩ ?_ ?_
  · rintro j d r cs' hj ⟨at2, gr2, crowd, y7, rfl, f7, hl, hc, ha, hb, rfl⟩
    obtain ⟨hjl, rfl⟩ := rangeD_get hj
    refine ⟨_, by show setS _ _ _ = some _; rw [ss_]; exact f7.st _ _ _, ?_⟩
    simp! only [q_ss_c]
    refine do_P rfl rfl ((take_Q (T := T) (f := tk) htk _ _ _ _ _ (by omega) (by omega) (by first | decide | omega | ((repeat' split) <;> omega)) (by first | decide | omega | ((repeat' split) <;> omega))).mono ?_)
    rintro v_ q_ c_ ⟨z1, at_b1, gr_b1, rfl, hz1, hz1', hb1, hb1', rfl, rfl⟩
    simp! only [q_ss_c]
    have hll : (crowd.map D.int).length < 16777216 := by rw [List.length_map]; omega
    simp! only [q_ss_c, hll]
    refine ⟨_, _, crowd ++ [if base + z1 < 500 then base + z1 else 500], _, by rw [List.map_append]; rfl, Fr.val, by rw [List.length_append, hl]; rfl, fun c h => ?_, by omega, by omega⟩
    rcases List.mem_append.mp h with h | h
    · exact hc c h
    · rw [List.mem_singleton.mp h]
      constructor <;> split <;> omega
  · rintro r cs' ⟨at2, gr2, crowd, y7, rfl, f7, hl, hc, ha, hb, rfl⟩
    rw [rangeD_len] at hl hb
    obtain ⟨B2, hB1, hB2, hB3⟩ : ∃ B2 : Int, most + 2 ≤ B2 ∧ 5 ≤ B2 ∧ (B2 = most + 2 ∨ B2 = 5) := by
      by_cases h : most + 2 ≤ 5
      · exact ⟨5, h, by omega, .inr rfl⟩
      · exact ⟨most + 2, by omega, by omega, .inl rfl⟩
    simp! only [q_ss_c]
    refine do_P rfl rfl ((take_Q (T := T) (f := tk) htk _ _ _ _ _ (by omega) (by omega) (by first | decide | omega | ((repeat' split) <;> omega)) (by first | decide | omega | ((repeat' split) <;> omega))).mono ?_)
    rintro v_ q_ c_ ⟨x9, at_a9, gr_a9, rfl, hx9, hx9', ha9, ha9', rfl, rfl⟩
    simp! only [q_ss_c]
    refine do_P rfl rfl ((take_Q (T := T) (f := tk) htk _ _ _ _ _ (by omega) (by omega) (by first | decide | omega | ((repeat' split) <;> omega)) (by first | decide | omega | ((repeat' split) <;> omega))).mono ?_)
    rintro v_ q_ c_ ⟨x10, at_a10, gr_a10, rfl, hx10, hx10', ha10, ha10', rfl, rfl⟩
    simp! only [q_ss_c]
    refine do_P rfl rfl ((take_Q (T := T) (f := tk) htk _ _ _ _ _ (by omega) (by omega) (by first | decide | omega | ((repeat' split) <;> omega)) (by first | decide | omega | ((repeat' split) <;> omega))).mono ?_)
    rintro v_ q_ c_ ⟨x11, at_a11, gr_a11, rfl, hx11, hx11', ha11, ha11', rfl, rfl⟩
    simp! only [q_ss_c]
    refine lixJ_P (lo := 0) (hi := B2) hx11 (by exact hx11') (by repeat (first | exact MI.nil | refine MI.cons (by first | omega | ((repeat' split) <;> omega)) (by first | omega | ((repeat' split) <;> omega)) ?_)) fun m2 hm2 hm2' => ?_
    simp! only [q_ss_c]
    have hr2 := rng1 (j := m2) hm2 (by omega)
    simp! only [q_ss_c, hr2]
    refine for0_P (fun j r cs2 => ∃ at' gr' stock y7 y9 y10, r = [.own true false (pen cells at' gr'), .val false (.int most), .val false (.int base), .val false (.int broad), .val false (.int seam), .val false (.int x5), .own false false (.lst (crowd.map .int)), y7, .own false false (.lst (stock.map robeD)), y9, y10] ∧ (Fr y7 ∧ Fr y9 ∧ Fr y10) ∧ stock.length = j ∧ (∀ g ∈ stock, RobeOk g) ∧ at_a11 ≤ at' ∧ at' ≤ at_a11 + 3 * (j : Int) ∧ cs2 = c_) ⟨_, _, [], _, _, _, rfl, ⟨f7, Fr.no, Fr.no⟩, rfl, (fun c h => nomatch h), by omega, by omega, rfl⟩ ?_ ?_
    · rintro j d r cs2 hj ⟨at3, gr3, stock, y7, y9, y10, rfl, ⟨f7, f9, f10⟩, hl2, hs, ha2, hb2, rfl⟩
      obtain ⟨hjl, rfl⟩ := rangeD_get hj
      refine ⟨_, by show setS _ _ _ = some _; rw [ss_]; exact f7.st _ _ _, ?_⟩
      simp! only [q_ss_c]
      refine do_P rfl rfl ((take_Q (T := T) (f := tk) htk _ _ _ _ _ (by omega) (by omega) (by first | decide | omega | ((repeat' split) <;> omega)) (by first | decide | omega | ((repeat' split) <;> omega))).mono ?_)
      rintro v_ q_ c_ ⟨z1, at_b1, gr_b1, rfl, hz1, hz1', hb1, hb1', rfl, rfl⟩
      simp! only [q_ss_c]
      simp! only [q_ss_c, f9.st]
      refine do_P rfl rfl ((take_Q (T := T) (f := tk) htk _ _ _ _ _ (by omega) (by omega) (by first | decide | omega | ((repeat' split) <;> omega)) (by first | decide | omega | ((repeat' split) <;> omega))).mono ?_)
      rintro v_ q_ c_ ⟨z2, at_b2, gr_b2, rfl, hz2, hz2', hb2, hb2', rfl, rfl⟩
      simp! only [q_ss_c]
      have hll : (stock.map robeD).length < 16777216 := by rw [List.length_map]; omega
      simp! only [q_ss_c, f10.st]
      refine do_P rfl rfl ((take_Q (T := T) (f := tk) htk _ _ _ _ _ (by omega) (by omega) (by first | decide | omega | ((repeat' split) <;> omega)) (by first | decide | omega | ((repeat' split) <;> omega))).mono ?_)
      rintro v_ q_ c_ ⟨z3, at_b3, gr_b3, rfl, hz3, hz3', hb3, hb3', rfl, rfl⟩
      simp! only [q_ss_c]
      have h20 : (2 : Int) ≠ 0 := by decide
      simp! only [q_ss_c, hll]
      refine P_br (fun h5 => ?_) (fun h5 => ?_)
      · have hix : ∀ d : D, ixN (stock.map robeD ++ [d]).length (-1) = some (stock.map robeD).length := fun d => by
          rw [List.length_append]
          exact ixm1
        simp! only [q_ss_c, h20, hix, set_last]
        have hfd : seam.fdiv 2 = seam / 2 := Int.fdiv_eq_ediv_of_nonneg _ (by decide)
        refine ⟨_, _, stock ++ [(if (if 1 < base + z1 - 2 then base + z1 - 2 else 1) < seam then seam else (if 1 < base + z1 - 2 then base + z1 - 2 else 1), seam - 1, seam.fdiv 2)], _, _, _, by rw [List.map_append]; rfl, ⟨Fr.val, Fr.val, Fr.val⟩, by rw [List.length_append, hl2]; rfl, fun g h => ?_, by omega, by omega⟩
        rcases List.mem_append.mp h with h | h
        · exact hs g h
        · rw [List.mem_singleton.mp h, hfd]
          refine ⟨?_, ?_, ?_, ?_, ?_, ?_, ?_⟩ <;> dsimp only <;> (repeat' split) <;> omega
      · simp! only [q_ss_c]
        refine ⟨_, _, stock ++ [((if 1 < base + z1 - 2 then base + z1 - 2 else 1), (if z2 < (if 1 < base + z1 - 2 then base + z1 - 2 else 1) - 1 then z2 else (if 1 < base + z1 - 2 then base + z1 - 2 else 1) - 1), z3)], _, _, _, by rw [List.map_append]; rfl, ⟨Fr.val, Fr.val, Fr.val⟩, by rw [List.length_append, hl2]; rfl, fun g h => ?_, by omega, by omega⟩
        rcases List.mem_append.mp h with h | h
        · exact hs g h
        · rw [List.mem_singleton.mp h]
          refine ⟨?_, ?_, ?_, ?_, ?_, ?_, ?_⟩ <;> dsimp only <;> (repeat' split) <;> omega
    · rintro r cs2 ⟨at3, gr3, stock, y7, y9, y10, rfl, ⟨f7, f9, f10⟩, hl2, hs, ha2, hb2, rfl⟩
      rw [rangeD_len] at hl2 hb2
      simp! only [q_ss_c]
      refine do_P rfl rfl ((take_Q (T := T) (f := tk) htk _ _ _ _ _ (by omega) (by omega) (by first | decide | omega | ((repeat' split) <;> omega)) (by first | decide | omega | ((repeat' split) <;> omega))).mono ?_)
      rintro v_ q_ c_ ⟨x12, at_a12, gr_a12, rfl, hx12, hx12', ha12, ha12', rfl, rfl⟩
      simp! only [q_ss_c]
      refine do_P rfl rfl ((take_Q (T := T) (f := tk) htk _ _ _ _ _ (by omega) (by omega) (by first | decide | omega | ((repeat' split) <;> omega)) (by first | decide | omega | ((repeat' split) <;> omega))).mono ?_)
      rintro v_ q_ c_ ⟨x13, at_a13, gr_a13, rfl, hx13, hx13', ha13, ha13', rfl, rfl⟩
      simp! only [q_ss_c]
      refine lixJ_P (lo := 0) (hi := 9) hx13 (by exact hx13') (by repeat (first | exact MI.nil | refine MI.cons (by first | omega | ((repeat' split) <;> omega)) (by first | omega | ((repeat' split) <;> omega)) ?_)) fun loose hloose hloose' => ?_
      simp! only [q_ss_c]
      exact ⟨crowd, stock, loose, _, _, rfl, by omega, hc, by omega, hs, hloose, hloose', by omega, by omega, rfl⟩
end
end Vi

namespace Vi
open PySem L2
local macro_rules
  | `(tactic| simp! only [$ls,*] $[$l:location]?) => `(tactic| simp only [q_e_var, q_e_non, q_e_bl, q_e_int, q_e_str, q_e_glo, q_e_bin, q_e_neg, q_e_cmp, q_e_cmp2, q_e_and, q_e_or, q_e_not, q_e_ite, q_e_tup, q_e_lst, q_e_dct, q_e_idx, q_e_slc, q_e_rev, q_e_call, q_e_bi, q_e_op, q_op_cons, q_e_isi, q_e_mut, q_e_comp, q_d_nil, q_d_cons, q_o_nil, q_o_cons, q_a_nil, q_a_var, q_oP_non, q_ob_non, q_al_non, q_am_non, q_af_non, q_oP_bl, q_ob_bl, q_al_bl, q_am_bl, q_af_bl, q_oP_int, q_ob_int, q_al_int, q_am_int, q_af_int, q_oP_str, q_ob_str, q_al_str, q_am_str, q_af_str, q_oP_glo, q_ob_glo, q_al_glo, q_am_glo, q_af_glo, q_oP_bin, q_ob_bin, q_al_bin, q_am_bin, q_af_bin, q_oP_neg, q_ob_neg, q_al_neg, q_am_neg, q_af_neg, q_oP_cmp, q_ob_cmp, q_al_cmp, q_am_cmp, q_af_cmp, q_oP_cmp2, q_ob_cmp2, q_al_cmp2, q_am_cmp2, q_af_cmp2, q_oP_and, q_ob_and, q_al_and, q_am_and, q_af_and, q_oP_or, q_ob_or, q_al_or, q_am_or, q_af_or, q_oP_not, q_ob_not, q_al_not, q_am_not, q_af_not, q_oP_ite, q_ob_ite, q_al_ite, q_am_ite, q_af_ite, q_oP_tup, q_ob_tup, q_al_tup, q_am_tup, q_af_tup, q_oP_lst, q_ob_lst, q_al_lst, q_am_lst, q_af_lst, q_oP_dct, q_ob_dct, q_al_dct, q_am_dct, q_af_dct, q_oP_idx, q_ob_idx, q_al_idx, q_am_idx, q_af_idx, q_oP_slc, q_ob_slc, q_al_slc, q_am_slc, q_af_slc, q_oP_rev, q_ob_rev, q_al_rev, q_am_rev, q_af_rev, q_oP_call, q_ob_call, q_al_call, q_am_call, q_af_call, q_oP_bi, q_ob_bi, q_al_bi, q_am_bi, q_af_bi, q_oP_isi, q_ob_isi, q_al_isi, q_am_isi, q_af_isi, q_oP_mut, q_ob_mut, q_al_mut, q_am_mut, q_af_mut, q_oP_op, q_ob_op, q_al_op, q_am_op, q_af_op, q_oP_comp, q_ob_comp, q_al_comp, q_am_comp, q_af_comp, q_c_nil, q_c_cons, q_s_lst, q_s_tup, q_s_range, q_s_enum, q_s_zip, q_s_items, q_s_keys, q_s_vals, q_t_ex, q_t_asg, q_t_asgP, q_t_asgT, q_t_aug, q_t_setI, q_t_setI2, q_t_whl, q_t_ifs, q_t_for, q_t_retv, q_tr_non, q_tr_bl, q_tr_int, q_tr_str, q_tr_glo, q_tr_bin, q_tr_neg, q_tr_cmp, q_tr_cmp2, q_tr_and, q_tr_or, q_tr_not, q_tr_ite, q_tr_tup, q_tr_lst, q_tr_dct, q_tr_idx, q_tr_slc, q_tr_rev, q_tr_call, q_tr_bi, q_tr_isi, q_tr_mut, q_tr_op, q_tr_comp, q_t_retN, q_t_brk, q_t_cont, q_t_pass, q_ss_n, P_bind, P_ok, lc_P, f_slcl, f_slcs, f_slct, part0, part1, P_boolOf, bk_b, P_d, br_t, br_f, sq_n, sq_r, sq_b, sq_c, rv_, rv_val, rv_lst, rv_dct, rt_, rt_val, rt_own, rt_io, op_, op_val, op_own, av_, av_val, av_own, rd_v, rd_, rd_sv, rd_sl, rd_sd, lo_v, lo_, lo_val, lo_own, lo_lk, or_n, or_a, or_d, au_i, au_ii, au_add, au_sub, pb_n, pb_v, pb_s, p1_oo, p1_ov, p1_v, rds_n, rds_c, sv_val, sv_own, ss_, ss_no, ss_val, ss_own, oa_, oa_own, dd_val, dd_lst, dd_dct, bo_ok, bin2_c, cmp2_c, idx2_c, neg1_c, rev1_c, svs_n, svs_c, sps_n, sps_i, sps_t, untup_c, unlst_c, unseq_l, unseq_t, sel_t, sel_f, undct_c, untwo_c, b_ok, b_no, l_some, l_none, frz_val, frz_lst, frz_dct, f_add, f_addl, f_addt, f_sub, f_mulL, f_mulR, f_fdiv, f_mod, f_pow, f_lt, f_le, f_gt, f_ge, f_eq, f_ne, f_eqb, f_eqT2, f_isn, f_isni, f_isnb, f_isnl, f_isnt, f_nisn, f_nisni, f_nisnl, f_nisnt, f_neb, f_isb, f_nisb, f_nenil, f_lenl, f_lent, f_abs, f_min, f_max, f_min3, f_max3, f_intb, f_int, f_listl, f_listt, f_tupl, f_tupt, f_set, isl_l, pre_lenSet, pre_sortSet, pre_inVals, pre_ninVals, pre_lr1, pre_lr2, pre_dictOf, pre_min1, pre_max1, rest_n, rest_c, rst_s, pre_repr, f_neshw, f_eqshw, pre_get1, pre_get2, f_lenSet, f_sortSet, f_get1, f_get2, f_get2b, f_inVals, f_ninVals, f_lr1, f_min1, f_max1, f_sort, f_sum, f_anyb, f_allb, f_meml, f_nmeml, f_memd, f_nmemd, f_ixd, f_lend, f_setd, f_dct0, f_ins, isl_d, f_app, f_mkT, f_mkL, sm64_of, ix0, ix1, ix2, ix3, ixm1, f_isi1, f_isi2, f_isi3, f_isi4, f_isi5, f_isi6, f_isi7, f_isi8, f_isi9, f_isi10, f_isi11, f_isi12, f_isi13, f_isi14, f_isi15, f_isi16, f_isi17, f_isi18, f_isi19, f_isi20, f_isi21, f_isi22, f_isi23, f_isi24, f_isi25, f_isi26, f_isi27, f_isi28, f_isi29, f_isi30, List.getElem?_cons_zero, List.getElem?_cons_succ, List.set_cons_zero, List.set_cons_succ, List.map_cons, List.map_nil, List.cons_append, List.nil_append, List.replicate, Option.bind_some, Option.map_some, List.length_cons, List.length_nil, inOf, outOf, C.toD, Cst.d, Nat.reduceAdd, Int.reduceNeg, Bool.not_true, Bool.not_false, decide_true, decide_false, List.isEmpty_nil, List.isEmpty_cons, Bool.and_true, Bool.true_and, if_true, if_false, true_and, and_true, Bool.false_eq_true, Int.reduceLT, Nat.reduceLT, Nat.reduceLeDiff, Int.reduceLE, Nat.zero_le, ne_eq, not_false_eq_true, not_true_eq_false, Int.reduceEq, Nat.reducePow, Int.reducePow, Int.reduceToNat, Int.cast_ofNat_Int, Int.reduceBEq, beq_self_eq_true, Int.reduceAdd, Int.reduceSub, Int.reduceMul, $ls,*] $[$l]?)
theorem eqvAll_ints : ∀ ns ms : List Int, PyData.eqvAll (D.pys (ns.map .int)) (D.pys (ms.map .int)) = decide (ns = ms)
  | [], [] => rfl
  | [], _ :: _ => rfl
  | _ :: _, [] => rfl
  | i :: ns, j :: ms => by
    show ((i == j) && PyData.eqvAll (D.pys (ns.map .int)) (D.pys (ms.map .int))) = _
    rw [eqvAll_ints ns ms]
    by_cases h : i = j <;> by_cases h2 : ns = ms <;> simp [h, h2]
theorem f_eql {ns ms : List Int} : cmpD .eq (.lst (ns.map .int)) (.lst (ms.map .int)) = some (decide (ns = ms)) := by
  show (if (D.lst (ns.map .int)).plain 60 && (D.lst (ms.map .int)).plain 60 then some (PyData.eqvAll (D.pys (ns.map .int)) (D.pys (ms.map .int))) else none) = _
  rw [show (D.lst (ns.map .int)).plain 60 = true from plains_map 58 ns, show (D.lst (ms.map .int)).plain 60 = true from plains_map 58 ms, eqvAll_ints]
  rfl
theorem f_nel {ns ms : List Int} : cmpD .ne (.lst (ns.map .int)) (.lst (ms.map .int)) = some (!decide (ns = ms)) := by
  show (cmpD .eq (.lst (ns.map .int)) (.lst (ms.map .int))).map (!·) = _
  rw [f_eql]; rfl
theorem ded_acc : ∀ {ns acc : List Int}, (acc ++ ns).Nodup → ns.foldl (fun a k => if a.contains k then a else a ++ [k]) acc = acc ++ ns
  | [], acc, _ => by simp
  | i :: ns, acc, h => by
    rw [List.foldl_cons, if_neg, ded_acc (by simpa using h)]
    · simp
    · have := List.nodup_append.mp h
      intro hc
      exact this.2.2 i (List.contains_iff_mem.mp hc) i List.mem_cons_self rfl
theorem ded_nodup {ns : List Int} (h : ns.Nodup) : dedI ns = ns := by
  have := ded_acc (ns := ns) (acc := []) (by simpa using h)
  simpa [dedI] using this
theorem sortI_rise {ns : List Int} (h : ns.Pairwise (· < ·)) : sortI ns = ns := List.mergeSort_of_pairwise (h.imp fun h => decide_eq_true (by omega))
theorem rise_nodup {ns : List Int} (h : ns.Pairwise (· < ·)) : ns.Nodup := h.imp fun h => by omega
theorem fr1 {i : Nat} {r : List Sl} {io : Bool} {c : C} (h : r[i]? = some (.own io false c)) : ∀ j ∈ [i], ∃ io c, r[j]? = some (.own io false c) := fun j hj => by
  rw [List.mem_singleton.mp hj]
  exact ⟨io, c, h⟩
/-! ### the laws' own tests of a robing -/
def wholeFn : Fn := ⟨2, 2, (.cons (.ret (.and (.isi .int (.var 0)) (.and (.not (.isi .bool (.var 0))) (.cmp2 .le .lt (.int 0) (.var 0) (.var 1)))))
    .nil)⟩
def rightFn (wh lf : Nat) : Fn := ⟨4, 7, (.cons (.ifs (.not (.isi .list (.var 3))) (.cons (.ret (.bl false))
    .nil) .nil)
    (.cons (.for_ (.name 4) (.lst (.var 3)) (.cons (.ifs (.or (.not (.isi .tuple (.var 4))) (.cmp .ne (.bi .len (.cons (.var 4) .nil)) (.int 2))) (.cons (.ret (.bl false))
    .nil) .nil)
    (.cons (.ifs (.or (.not (.call wh (.cons (.idx (.var 4) (.int 0)) (.cons (.bi .len (.cons (.var 0) .nil)) .nil)) [] .nil [.at 0, .at 1])) (.not (.call wh (.cons (.idx (.var 4) (.int 1)) (.cons (.bi .len (.cons (.var 1) .nil)) .nil)) [] .nil [.at 0, .at 1]))) (.cons (.ret (.bl false))
    .nil) .nil)
    (.cons (.ifs (.not (.call lf (.cons (.idx (.var 1) (.idx (.var 4) (.int 1))) (.cons (.idx (.var 0) (.idx (.var 4) (.int 0))) (.cons (.var 2) .nil))) [] .nil [.at 0, .at 1, .at 2])) (.cons (.ret (.bl false))
    .nil) .nil)
    .nil))))
    (.cons (.asg 5 (.comp (.idx (.var 4) (.int 0)) (.name 4) (.lst (.var 3)) .nil [4]))
    (.cons (.asg 6 (.comp (.idx (.var 4) (.int 1)) (.name 4) (.lst (.var 3)) .nil [4]))
    (.cons (.ret (.and (.cmp .eq (.var 5) (.op .sortSet (.cons (.var 5) .nil))) (.cmp .eq (.op .lenSet (.cons (.var 6) .nil)) (.bi .len (.cons (.var 6) .nil)))))
    .nil)))))⟩
/-- a robing, the rule -/
structure Good (crowd : List Int) (stock : List Robe) (loose : Int) (ms : Hs) : Prop where
  e : ∀ q ∈ ms, 0 ≤ q.1 ∧ 0 ≤ q.2 ∧ ∃ one g, crowd[q.1.toNat]? = some one ∧ stock[q.2.toNat]? = some g ∧ fitsB g one loose = true
  r : (ms.map (·.1)).Pairwise (· < ·)
  n : (ms.map (·.2)).Nodup
theorem Told.good {crowd : List Int} {stock : List Robe} {loose : Int} {ms : Hs} (h : Told (ableF crowd stock loose) ms) : Good crowd stock loose ms := by
  obtain ⟨hs, b, p, w⟩ := h
  refine ⟨fun q hq => ?_, ?_, ?_⟩
  · obtain ⟨⟨s, o⟩, ha, e⟩ := List.mem_map.mp (p.mem_iff.mp hq)
    subst e
    obtain ⟨h0, h1, h2⟩ := edge_able.mp (b.m.e s o ha)
    exact ⟨h0, h1, h2⟩
  · exact List.pairwise_map.mpr w
  · have := (p.map (·.2)).nodup_iff.mpr (by rw [List.map_map]; exact b.m.nd)
    exact this
theorem Told.len {rows : Rows} {ms ms' : Hs} (h : Told rows ms) (h' : Told rows ms') : ms.length = ms'.length := by
  obtain ⟨hs, b, p, _⟩ := h
  obtain ⟨hs', b', p', _⟩ := h'
  have e1 := p.length_eq
  have e2 := p'.length_eq
  rw [List.length_map] at e1 e2
  rw [e1, e2]
  exact b.eq b'
theorem Told.lenB {rows : Rows} {ms hs : Hs} (h : Told rows ms) (b : Best rows hs) : ms.length = hs.length := by
  obtain ⟨hs', b', p', _⟩ := h
  have e1 := p'.length_eq
  rw [List.length_map] at e1
  rw [e1]
  exact b'.eq b
section
variable {T : Nat → Option Fn} {n : Nat}
theorem whole_Q {f : Nat} (hf : T f = some wholeFn) {i j : Int} {cs : List C} : (dCall T (n + 1) f [.val (.int i), .val (.int j)] cs).Q fun v outs cs' => v = .val (.bl (decide (0 ≤ i) && decide (i < j))) ∧ outs = [.val (.int i), .val (.int j)] ∧ cs' = cs := by
  refine call_Q hf rfl ?_
  simp only [wholeFn]
  simp! only [q_ss_c, f_ixl, f_ixt, br_and, br_or]
  first | rfl | exact ⟨rfl, rfl⟩
theorem right_Q {f wh lf : Nat} (hf : T f = some (rightFn wh lf)) (hw : T wh = some wholeFn) (hl : T lf = some lfitsFn) (crowd : List Int) (stock : List Robe) (loose : Int) (ms : Hs) (g : Good crowd stock loose ms) (hml : ms.length < 64) (cs : List C) :
    (dCall T (n + 2) f [.val (crowdD crowd), .val (stockD stock), .val (.int loose), .own (.lst (ms.map pairD))] cs).Q fun v outs cs' => v = .val (.bl true) ∧ outs = [.val (crowdD crowd), .val (stockD stock), .val (.int loose), .own (.lst (ms.map pairD))] ∧ cs' = cs := by
  refine call_Q hf rfl ?_
  simp only [rightFn]
  simp! only [q_ss_c, f_ixl, f_ixt]
  refine forG_P (fun j r cs' => ∃ x4, r = [.val false (crowdD crowd), .val false (stockD stock), .val false (.int loose), .own true true (.lst (ms.map pairD)), x4, .no, .no] ∧ (x4 = .no ∨ ∃ d, x4 = .val false d) ∧ cs' = cs) rfl ⟨_, rfl, .inl rfl, rfl⟩ ?_ ?_
  · rintro j d r cs' hj ⟨x4, rfl, f4, rfl⟩
    rw [List.getElem?_map] at hj
    obtain ⟨q, hq, rfl⟩ := Option.map_eq_some_iff.mp hj
    obtain ⟨q0, q1, one, gb, h1, h2, h3⟩ := g.e q (List.mem_of_getElem? hq)
    have f4 : Fr x4 := by
      rcases f4 with rfl | ⟨d, rfl⟩
      · exact Fr.no
      · exact Fr.val
    refine ⟨_, by show setS _ _ _ = some _; rw [ss_]; exact f4.st _ _ _, ?_⟩
    have l1 := (List.getElem?_eq_some_iff.mp h1).1
    have l2 := (List.getElem?_eq_some_iff.mp h2).1
    have i1 : idxD (crowdD crowd) (.int q.1) = some (.int one) := ix_l q0 (by rw [List.length_map]; omega) (by rw [List.getElem?_map, h1]; rfl)
    have i2 : idxD (stockD stock) (.int q.2) = some (robeD gb) := ix_l q1 (by rw [List.length_map]; omega) (by rw [List.getElem?_map, h2]; rfl)
    have d1 : (decide (0 ≤ q.1) && decide (q.1 < ((crowd.map D.int).length : Int))) = true := by
      rw [decide_eq_true q0, decide_eq_true (by rw [List.length_map]; omega)]; rfl
    have d2 : (decide (0 ≤ q.2) && decide (q.2 < ((stock.map robeD).length : Int))) = true := by
      rw [decide_eq_true q1, decide_eq_true (by rw [List.length_map]; omega)]; rfl
    have h20 : ¬ (((0 : Nat) + 1 + 1 : Nat) : Int) ≠ 2 := by decide
    simp! only [q_ss_c, f_ixl, f_ixt]
    refine do_P rfl rfl ((whole_Q hw).mono ?_)
    rintro v_ q_ c_ ⟨rfl, rfl, rfl⟩
    simp! only [q_ss_c, f_ixl, f_ixt, d1]
    refine do_P rfl rfl ((whole_Q hw).mono ?_)
    rintro v_ q_ c_ ⟨rfl, rfl, rfl⟩
    simp! only [q_ss_c, f_ixl, f_ixt, d2, i1, i2]
    refine do_P rfl rfl ((lfits_Q hl gb one loose _).mono ?_)
    rintro v_ q_ c_ ⟨rfl, rfl, rfl⟩
    simp! only [q_ss_c, f_ixl, f_ixt, h3]
    exact ⟨_, rfl, .inr ⟨_, rfl⟩⟩
  · rintro r cs' ⟨x4, rfl, f4, rfl⟩
    have hv : ∀ a b c d x5 x6, noOwn [4] [a, b, c, d, x4, x5, x6] = true := fun a b c d x5 x6 => by
      rcases f4 with rfl | ⟨d, rfl⟩ <;> rfl
    have hft : ms.filter (fun _ => true) = ms := List.filter_eq_self.mpr fun _ _ => rfl
    have e5 : ms.map (fun q => D.int q.1) = (ms.map (·.1)).map .int := by rw [List.map_map]; rfl
    have e6 : ms.map (fun q => D.int q.2) = (ms.map (·.2)).map .int := by rw [List.map_map]; rfl
    have hl1 : (ms.map (·.1)).length < 64 := by rw [List.length_map]; exact hml
    have hl2 : (ms.map (·.2)).length ≤ 4000 := by rw [List.length_map]; omega
    have hd1 : dedI (ms.map (·.1)) = ms.map (·.1) := ded_nodup (rise_nodup g.r)
    have hs1 : sortI (ms.map (·.1)) = ms.map (·.1) := sortI_rise g.r
    have hd2 : dedI (ms.map (·.2)) = ms.map (·.2) := ded_nodup g.n
    have hun : lockAll false [3] [.val false (crowdD crowd), .val false (stockD stock), .val false (.int loose), .own true true (.lst (ms.map pairD)), x4, .no, .no] = [.val false (crowdD crowd), .val false (stockD stock), .val false (.int loose), .own true false (.lst (ms.map pairD)), x4, .no, .no] := rfl
    show (sq Fl.nx _ (lockAll false [3] _) _).P _ _
    rw [hun]
    simp! only [q_ss_c, f_ixl, f_ixt]
    refine lcX_P (wr := [.val false (crowdD crowd), .val false (stockD stock), .val false (.int loose), .own true true (.lst (ms.map pairD)), .no, .no, .no]) ms pairD (fun _ => true) (fun q => .int q.1) rfl (by omega) (hv _ _ _ _ _ _) (fr1 rfl) rfl (fun q hq => ⟨[.val false (crowdD crowd), .val false (stockD stock), .val false (.int loose), .own true true (.lst (ms.map pairD)), .val false (pairD q), .no, .no], rfl, ?_⟩) ?_
    · simp! only [q_ss_c, f_ixl, f_ixt]
      first | rfl | exact ⟨rfl, rfl⟩
    · rw [hft, e5]
      simp! only [q_ss_c, f_ixl, f_ixt]
      refine lcX_P (wr := [.val false (crowdD crowd), .val false (stockD stock), .val false (.int loose), .own true true (.lst (ms.map pairD)), .no, .own false false (.lst ((ms.map (·.1)).map .int)), .no]) ms pairD (fun _ => true) (fun q => .int q.2) rfl (by omega) (hv _ _ _ _ _ _) (fr1 rfl) rfl (fun q hq => ⟨[.val false (crowdD crowd), .val false (stockD stock), .val false (.int loose), .own true true (.lst (ms.map pairD)), .val false (pairD q), .own false false (.lst ((ms.map (·.1)).map .int)), .no], rfl, ?_⟩) ?_
      · simp! only [q_ss_c, f_ixl, f_ixt]
        first | rfl | exact ⟨rfl, rfl⟩
      · rw [hft, e6]
        have hml2 : ms.length ≤ 4000 := by omega
        simp! only [q_ss_c, f_ixl, f_ixt, hml, hml2, hd1, hs1, hd2, f_eql, List.length_map]
        first | done | rfl | exact ⟨rfl, rfl⟩
end
end Vi

namespace Vi
open PySem L2
local macro_rules
  | `(tactic| simp! only [$ls,*] $[$l:location]?) => `(tactic| simp only [q_e_var, q_e_non, q_e_bl, q_e_int, q_e_str, q_e_glo, q_e_bin, q_e_neg, q_e_cmp, q_e_cmp2, q_e_and, q_e_or, q_e_not, q_e_ite, q_e_tup, q_e_lst, q_e_dct, q_e_idx, q_e_slc, q_e_rev, q_e_call, q_e_bi, q_e_op, q_op_cons, q_e_isi, q_e_mut, q_e_comp, q_d_nil, q_d_cons, q_o_nil, q_o_cons, q_a_nil, q_a_var, q_oP_non, q_ob_non, q_al_non, q_am_non, q_af_non, q_oP_bl, q_ob_bl, q_al_bl, q_am_bl, q_af_bl, q_oP_int, q_ob_int, q_al_int, q_am_int, q_af_int, q_oP_str, q_ob_str, q_al_str, q_am_str, q_af_str, q_oP_glo, q_ob_glo, q_al_glo, q_am_glo, q_af_glo, q_oP_bin, q_ob_bin, q_al_bin, q_am_bin, q_af_bin, q_oP_neg, q_ob_neg, q_al_neg, q_am_neg, q_af_neg, q_oP_cmp, q_ob_cmp, q_al_cmp, q_am_cmp, q_af_cmp, q_oP_cmp2, q_ob_cmp2, q_al_cmp2, q_am_cmp2, q_af_cmp2, q_oP_and, q_ob_and, q_al_and, q_am_and, q_af_and, q_oP_or, q_ob_or, q_al_or, q_am_or, q_af_or, q_oP_not, q_ob_not, q_al_not, q_am_not, q_af_not, q_oP_ite, q_ob_ite, q_al_ite, q_am_ite, q_af_ite, q_oP_tup, q_ob_tup, q_al_tup, q_am_tup, q_af_tup, q_oP_lst, q_ob_lst, q_al_lst, q_am_lst, q_af_lst, q_oP_dct, q_ob_dct, q_al_dct, q_am_dct, q_af_dct, q_oP_idx, q_ob_idx, q_al_idx, q_am_idx, q_af_idx, q_oP_slc, q_ob_slc, q_al_slc, q_am_slc, q_af_slc, q_oP_rev, q_ob_rev, q_al_rev, q_am_rev, q_af_rev, q_oP_call, q_ob_call, q_al_call, q_am_call, q_af_call, q_oP_bi, q_ob_bi, q_al_bi, q_am_bi, q_af_bi, q_oP_isi, q_ob_isi, q_al_isi, q_am_isi, q_af_isi, q_oP_mut, q_ob_mut, q_al_mut, q_am_mut, q_af_mut, q_oP_op, q_ob_op, q_al_op, q_am_op, q_af_op, q_oP_comp, q_ob_comp, q_al_comp, q_am_comp, q_af_comp, q_c_nil, q_c_cons, q_s_lst, q_s_tup, q_s_range, q_s_enum, q_s_zip, q_s_items, q_s_keys, q_s_vals, q_t_ex, q_t_asg, q_t_asgP, q_t_asgT, q_t_aug, q_t_setI, q_t_setI2, q_t_whl, q_t_ifs, q_t_for, q_t_retv, q_tr_non, q_tr_bl, q_tr_int, q_tr_str, q_tr_glo, q_tr_bin, q_tr_neg, q_tr_cmp, q_tr_cmp2, q_tr_and, q_tr_or, q_tr_not, q_tr_ite, q_tr_tup, q_tr_lst, q_tr_dct, q_tr_idx, q_tr_slc, q_tr_rev, q_tr_call, q_tr_bi, q_tr_isi, q_tr_mut, q_tr_op, q_tr_comp, q_t_retN, q_t_brk, q_t_cont, q_t_pass, q_ss_n, P_bind, P_ok, lc_P, f_slcl, f_slcs, f_slct, part0, part1, P_boolOf, bk_b, P_d, br_t, br_f, sq_n, sq_r, sq_b, sq_c, rv_, rv_val, rv_lst, rv_dct, rt_, rt_val, rt_own, rt_io, op_, op_val, op_own, av_, av_val, av_own, rd_v, rd_, rd_sv, rd_sl, rd_sd, lo_v, lo_, lo_val, lo_own, lo_lk, or_n, or_a, or_d, au_i, au_ii, au_add, au_sub, pb_n, pb_v, pb_s, p1_oo, p1_ov, p1_v, rds_n, rds_c, sv_val, sv_own, ss_, ss_no, ss_val, ss_own, oa_, oa_own, dd_val, dd_lst, dd_dct, bo_ok, bin2_c, cmp2_c, idx2_c, neg1_c, rev1_c, svs_n, svs_c, sps_n, sps_i, sps_t, untup_c, unlst_c, unseq_l, unseq_t, sel_t, sel_f, undct_c, untwo_c, b_ok, b_no, l_some, l_none, frz_val, frz_lst, frz_dct, f_add, f_addl, f_addt, f_sub, f_mulL, f_mulR, f_fdiv, f_mod, f_pow, f_lt, f_le, f_gt, f_ge, f_eq, f_ne, f_eqb, f_eqT2, f_isn, f_isni, f_isnb, f_isnl, f_isnt, f_nisn, f_nisni, f_nisnl, f_nisnt, f_neb, f_isb, f_nisb, f_nenil, f_lenl, f_lent, f_abs, f_min, f_max, f_min3, f_max3, f_intb, f_int, f_listl, f_listt, f_tupl, f_tupt, f_set, isl_l, pre_lenSet, pre_sortSet, pre_inVals, pre_ninVals, pre_lr1, pre_lr2, pre_dictOf, pre_min1, pre_max1, rest_n, rest_c, rst_s, pre_repr, f_neshw, f_eqshw, pre_get1, pre_get2, f_lenSet, f_sortSet, f_get1, f_get2, f_get2b, f_inVals, f_ninVals, f_lr1, f_min1, f_max1, f_sort, f_sum, f_anyb, f_allb, f_meml, f_nmeml, f_memd, f_nmemd, f_ixd, f_lend, f_setd, f_dct0, f_ins, isl_d, f_app, f_mkT, f_mkL, sm64_of, ix0, ix1, ix2, ix3, ixm1, f_isi1, f_isi2, f_isi3, f_isi4, f_isi5, f_isi6, f_isi7, f_isi8, f_isi9, f_isi10, f_isi11, f_isi12, f_isi13, f_isi14, f_isi15, f_isi16, f_isi17, f_isi18, f_isi19, f_isi20, f_isi21, f_isi22, f_isi23, f_isi24, f_isi25, f_isi26, f_isi27, f_isi28, f_isi29, f_isi30, List.getElem?_cons_zero, List.getElem?_cons_succ, List.set_cons_zero, List.set_cons_succ, List.map_cons, List.map_nil, List.cons_append, List.nil_append, List.replicate, Option.bind_some, Option.map_some, List.length_cons, List.length_nil, inOf, outOf, C.toD, Cst.d, Nat.reduceAdd, Int.reduceNeg, Bool.not_true, Bool.not_false, decide_true, decide_false, List.isEmpty_nil, List.isEmpty_cons, Bool.and_true, Bool.true_and, if_true, if_false, true_and, and_true, Bool.false_eq_true, Int.reduceLT, Nat.reduceLT, Nat.reduceLeDiff, Int.reduceLE, Nat.zero_le, ne_eq, not_false_eq_true, not_true_eq_false, Int.reduceEq, Nat.reducePow, Int.reducePow, Int.reduceToNat, Int.cast_ofNat_Int, Int.reduceBEq, beq_self_eq_true, Int.reduceAdd, Int.reduceSub, Int.reduceMul, $ls,*] $[$l]?)
/-! ### who may go without -/
/-- a matching of the same spots that leaves p out, alike beyond the persons in D -/
def Out (rows : Rows) (hs : Hs) (D : List Int) (p : Int) : Prop := ∃ N : Hs, Mat rows N ∧ N.map (·.1) = hs.map (·.1) ∧ (∀ s, (s, p) ∉ N) ∧ ∀ q, q ∉ D → ∀ s, (s, q) ∈ N ↔ (s, q) ∈ hs
theorem Out.mono {rows : Rows} {hs : Hs} {D D' : List Int} {p : Int} (h : Out rows hs D p) (hd : ∀ q ∈ D, q ∈ D') : Out rows hs D' p := by
  obtain ⟨N, a, b, c, d⟩ := h
  exact ⟨N, a, b, c, fun q hq => d q fun z => hq (hd q z)⟩
theorem Out.held {rows : Rows} {hs : Hs} {D : List Int} {p s : Int} (b : Best rows hs) (h : Out rows hs D p) (e : edge rows s p) : s ∈ hs.map (·.1) := by
  obtain ⟨N, m, hk, hp, _⟩ := h
  rw [← hk]
  refine Classical.byContradiction fun hn => ?_
  have a := Aug.new m (met := []) (fun s q => absurd q (hp s)) (fun z => nomatch z) hn e
  have m2 : Mat rows (setH N s p) := ⟨a.nd, a.e, fun s s' q h h' => a.inj s s' q h h' (.inl (fun z => nomatch z)) (.inl (fun z => nomatch z))⟩
  have h1 := b.mx _ m2
  have h2 := congrArg List.length hk
  have h3 : ((setH N s p).map (·.1)).length = N.length + 1 := by
    rw [keys_setH, if_neg hn, List.length_append, List.length_map]; rfl
  rw [List.length_map, List.length_map] at h2
  rw [List.length_map] at h3
  omega
theorem Out.step {rows : Rows} {hs : Hs} {D : List Int} {p s h : Int} (b : Mat rows hs) (o : Out rows hs D p) (e : edge rows s p) (hm : (s, h) ∈ hs) (hD : h ∉ D) (hp : p ∈ D) : Out rows hs (D ++ [h]) h := by
  obtain ⟨N, m, hk, hpn, al⟩ := o
  have hN : (s, h) ∈ N := (al h hD s).mpr hm
  have hs1 : s ∈ N.map (·.1) := List.mem_map.mpr ⟨_, hN, rfl⟩
  have hne : p ≠ h := fun z => hD (z ▸ hp)
  refine ⟨setH N s p, ⟨nodup_setH m.nd, fun t q ht => ?_, fun t t' q a a' => ?_⟩, by rw [keys_setH, if_pos hs1, hk], fun t ht => ?_, fun q hq t => ?_⟩
  · rcases mem_setH.mp ht with ⟨rfl, rfl⟩ | ⟨_, ht⟩
    · exact e
    · exact m.e t q ht
  · rcases mem_setH.mp a with ⟨rfl, rfl⟩ | ⟨_, a1⟩ <;> rcases mem_setH.mp a' with ⟨rfl, z⟩ | ⟨_, a2⟩
    · rfl
    · exact absurd a2 (hpn _)
    · subst z
      exact absurd a1 (hpn _)
    · exact m.inj _ _ _ a1 a2
  · rcases mem_setH.mp ht with ⟨_, z⟩ | ⟨n, ht⟩
    · exact hne z.symm
    · exact n (m.inj _ _ _ ht hN)
  · have hq1 : q ∉ D := fun z => hq (List.mem_append_left _ z)
    have hq2 : q ≠ h := fun z => hq (List.mem_append_right _ (List.mem_singleton.mpr z))
    rw [mem_setH, ← al q hq1 t]
    constructor
    · rintro (⟨_, z⟩ | ⟨_, z⟩)
      · exact absurd (z ▸ hp) hq1
      · exact z
    · intro z
      refine .inr ⟨fun y => ?_, z⟩
      subst y
      exact hq2 (key_uniq m.nd z hN)
/-- those that may go without: all the unrobed, shut under the even ways -/
structure Left (rows : Rows) (hs : Hs) (zs : List Int) : Prop where
  b : Best rows hs
  nd : zs.Nodup
  un : ∀ p : Int, 0 ≤ p → p < rows.length → (∀ s, (s, p) ∉ hs) → p ∈ zs
  shut : ∀ p ∈ zs, ∀ s ∈ rowOf rows p, ∃ h, (s, h) ∈ hs ∧ h ∈ zs
  out : ∀ p ∈ zs, 0 ≤ p ∧ p < rows.length ∧ ∃ N, Mat rows N ∧ N.length = hs.length ∧ ∀ s, (s, p) ∉ N
/-- the robes of those -/
def nearR (hs : Hs) (zs : List Int) : List Int := (hs.filter fun q => decide (q.2 ∈ zs)).map (·.1)
theorem mem_nearR {hs : Hs} {zs : List Int} {s : Int} : s ∈ nearR hs zs ↔ ∃ h, (s, h) ∈ hs ∧ h ∈ zs := by
  unfold nearR
  rw [List.mem_map]
  constructor
  · rintro ⟨⟨s', h⟩, h1, rfl⟩
    obtain ⟨h2, h3⟩ := List.mem_filter.mp h1
    exact ⟨h, h2, by simpa using h3⟩
  · rintro ⟨h, h1, h2⟩
    exact ⟨(s, h), List.mem_filter.mpr ⟨h1, by simpa using h2⟩, rfl⟩
def persU (n : Nat) : List Int := spotsU n
theorem mem_spotsU {n : Nat} {p : Int} : p ∈ spotsU n ↔ 0 ≤ p ∧ p < n := by
  unfold spotsU
  rw [List.mem_map]
  constructor
  · rintro ⟨i, h, rfl⟩
    rw [List.mem_range] at h
    exact ⟨by omega, by omega⟩
  · rintro ⟨h0, h1⟩
    exact ⟨p.toNat, List.mem_range.mpr (by omega), by omega⟩
theorem nodup_spotsU (n : Nat) : (spotsU n).Nodup := by
  unfold spotsU
  rw [List.nodup_iff_pairwise_ne, List.pairwise_map]
  exact List.nodup_range.imp fun h z => h (by omega)
theorem filter_not_len {l zs : List Int} (h1 : l.Nodup) (h2 : zs.Nodup) (h3 : ∀ z ∈ zs, z ∈ l) : (l.filter fun p => !decide (p ∈ zs)).length + zs.length = l.length := by
  have e1 := filter_split (fun p => decide (p ∈ zs)) l
  have a : (l.filter fun p => decide (p ∈ zs)).length ≤ zs.length := nodup_sub_len (h1.sublist List.filter_sublist) fun x hx => by simpa using (List.mem_filter.mp hx).2
  have b : zs.length ≤ (l.filter fun p => decide (p ∈ zs)).length := nodup_sub_len h2 fun x hx => List.mem_filter.mpr ⟨h3 x hx, by simpa using hx⟩
  omega
theorem vals_len {rows : Rows} {N : Hs} (m : Mat rows N) (f : Int → Bool) (l : List Int) (h : ∀ s p, (s, p) ∈ N → f p = true → p ∈ l) : (N.filter fun q => f q.2).length ≤ l.length := by
  have := nodup_sub_len (l := (N.filter fun q => f q.2).map (·.2)) (m := l) ?_ fun x hx => ?_
  · simpa using this
  · exact nodup_vals (m.filter _)
  · obtain ⟨⟨s, p⟩, h1, rfl⟩ := List.mem_map.mp hx
    obtain ⟨h2, h3⟩ := List.mem_filter.mp h1
    exact h s p h2 h3
/-- those and their robes tell how many can be robed -/
theorem Left.count {rows : Rows} {hs : Hs} {zs : List Int} (L : Left rows hs zs) : hs.length + zs.length = rows.length + (nearR hs zs).length := by
  have e1 := filter_split (fun q : Int × Int => decide (q.2 ∈ zs)) hs
  have hz : ∀ z ∈ zs, z ∈ spotsU rows.length := fun z h => mem_spotsU.mpr ⟨(L.out z h).1, (L.out z h).2.1⟩
  have e2 := filter_not_len (nodup_spotsU rows.length) L.nd hz
  rw [spotsU_len] at e2
  have a := vals_len L.b.m (fun p => !decide (p ∈ zs)) ((spotsU rows.length).filter fun p => !decide (p ∈ zs)) fun s p h1 h2 => List.mem_filter.mpr ⟨mem_spotsU.mpr ⟨(L.b.m.e s p h1).1, (L.b.m.e s p h1).2.1⟩, h2⟩
  have b : ((spotsU rows.length).filter fun p => !decide (p ∈ zs)).length ≤ (hs.filter fun q => !decide (q.2 ∈ zs)).length := by
    have := nodup_sub_len (l := (spotsU rows.length).filter fun p => !decide (p ∈ zs)) (m := (hs.filter fun q => !decide (q.2 ∈ zs)).map (·.2)) ((nodup_spotsU _).sublist List.filter_sublist) fun p hp => by
      obtain ⟨h1, h2⟩ := List.mem_filter.mp hp
      obtain ⟨h0, h1⟩ := mem_spotsU.mp h1
      have h2 : p ∉ zs := by simpa using h2
      refine Classical.byContradiction fun hn => h2 (L.un p h0 h1 fun s hm => hn (List.mem_map.mpr ⟨(s, p), List.mem_filter.mpr ⟨hm, by simpa using h2⟩, rfl⟩))
    simpa using this
  have c : (nearR hs zs).length = (hs.filter fun q => decide (q.2 ∈ zs)).length := by unfold nearR; rw [List.length_map]
  omega
theorem nodup_nearR {rows : Rows} {hs : Hs} {zs : List Int} (m : Mat rows hs) : (nearR hs zs).Nodup := nodup_filter_keys _ m.nd
/-- a robing of the most leaves out only those -/
theorem Left.only {rows : Rows} {hs N : Hs} {zs : List Int} {p : Int} (L : Left rows hs zs) (m : Mat rows N) (hl : N.length = hs.length) (h0 : 0 ≤ p) (h1 : p < rows.length) (hp : ∀ s, (s, p) ∉ N) : p ∈ zs := by
  refine Classical.byContradiction fun hn => ?_
  have e1 := filter_split (fun q : Int × Int => decide (q.2 ∈ zs)) N
  have hz : ∀ z ∈ p :: zs, z ∈ spotsU rows.length := fun z h => by
    rcases List.mem_cons.mp h with rfl | h
    · exact mem_spotsU.mpr ⟨h0, h1⟩
    · exact mem_spotsU.mpr ⟨(L.out z h).1, (L.out z h).2.1⟩
  have e2 := filter_not_len (nodup_spotsU rows.length) (List.nodup_cons.mpr ⟨hn, L.nd⟩) hz
  rw [spotsU_len, List.length_cons] at e2
  have a := vals_len m (fun q => !decide (q ∈ zs)) ((spotsU rows.length).filter fun q => !decide (q ∈ p :: zs)) fun s q h1 h2 => List.mem_filter.mpr ⟨mem_spotsU.mpr ⟨(m.e s q h1).1, (m.e s q h1).2.1⟩, by
    have h2 : q ∉ zs := by simpa using h2
    have h3 : q ≠ p := fun z => hp s (z ▸ h1)
    simp [h2, h3]⟩
  have b : (N.filter fun q => decide (q.2 ∈ zs)).length ≤ (nearR hs zs).length := by
    have := nodup_sub_len (l := (N.filter fun q => decide (q.2 ∈ zs)).map (·.1)) (m := nearR hs zs) (nodup_filter_keys _ m.nd) fun s h => by
      obtain ⟨⟨s', q⟩, h2, rfl⟩ := List.mem_map.mp h
      obtain ⟨h3, h4⟩ := List.mem_filter.mp h2
      exact mem_nearR.mpr (L.shut q (by simpa using h4) s' (m.e s' q h3).2.2)
    simpa using this
  have c := L.count
  omega
theorem Left.same {rows : Rows} {hs hs' : Hs} {zs zs' : List Int} (L : Left rows hs zs) (L' : Left rows hs' zs') : ∀ p, p ∈ zs ↔ p ∈ zs' := fun p => by
  constructor
  · intro h
    obtain ⟨h0, h1, N, m, hl, hp⟩ := L.out p h
    exact L'.only m (hl.trans (L.b.eq L'.b)) h0 h1 hp
  · intro h
    obtain ⟨h0, h1, N, m, hl, hp⟩ := L'.out p h
    exact L.only m (hl.trans (L'.b.eq L.b)) h0 h1 hp
theorem rise_eq : ∀ {l m : List Int}, l.Pairwise (· < ·) → m.Pairwise (· < ·) → (∀ x, x ∈ l ↔ x ∈ m) → l = m
  | [], [], _, _, _ => rfl
  | [], y :: m, _, _, h => absurd ((h y).mpr List.mem_cons_self) (fun z => nomatch z)
  | x :: l, [], _, _, h => absurd ((h x).mp List.mem_cons_self) (fun z => nomatch z)
  | x :: l, y :: m, h1, h2, h => by
    obtain ⟨a1, a2⟩ := List.pairwise_cons.mp h1
    obtain ⟨b1, b2⟩ := List.pairwise_cons.mp h2
    have e : x = y := by
      rcases List.mem_cons.mp ((h x).mp List.mem_cons_self) with e | e
      · exact e
      · rcases List.mem_cons.mp ((h y).mpr List.mem_cons_self) with e' | e'
        · exact e'.symm
        · have := b1 x e
          have := a1 y e'
          omega
    subst e
    rw [rise_eq a2 b2 fun z => ?_]
    constructor
    · intro hz
      rcases List.mem_cons.mp ((h z).mp (List.mem_cons_of_mem _ hz)) with e | e
      · subst e
        have := a1 z hz
        omega
      · exact e
    · intro hz
      rcases List.mem_cons.mp ((h z).mpr (List.mem_cons_of_mem _ hz)) with e | e
      · subst e
        have := b1 z hz
        omega
      · exact e
/-- the list of those that may go without -/
def Short (rows : Rows) (zs : List Int) : Prop := zs.Pairwise (· < ·) ∧ ∃ hs, Left rows hs zs
theorem Short.eq {rows : Rows} {zs zs' : List Int} (h : Short rows zs) (h' : Short rows zs') : zs = zs' := by
  obtain ⟨a, hs, b⟩ := h
  obtain ⟨a', hs', b'⟩ := h'
  exact rise_eq a a' (b.same b')
theorem sortI_pw {ns : List Int} (h : ns.Nodup) : (sortI ns).Pairwise (· < ·) := by
  have h1 : (sortI ns).Pairwise fun a b => decide (a ≤ b) = true := List.pairwise_mergeSort (fun a b c h1 h2 => by simp at *; omega) (fun a b => by simp; omega) ns
  have h2 : (sortI ns).Nodup := (List.mergeSort_perm ns _).nodup_iff.mpr h
  exact (h1.and h2).imp fun ⟨a, b⟩ => by
    have a : _ ≤ _ := of_decide_eq_true a
    omega
theorem mem_sortI {ns : List Int} {x : Int} : x ∈ sortI ns ↔ x ∈ ns := (List.mergeSort_perm ns _).mem_iff
end Vi

namespace Vi
open PySem L2
local macro_rules
  | `(tactic| simp! only [$ls,*] $[$l:location]?) => `(tactic| simp only [q_e_var, q_e_non, q_e_bl, q_e_int, q_e_str, q_e_glo, q_e_bin, q_e_neg, q_e_cmp, q_e_cmp2, q_e_and, q_e_or, q_e_not, q_e_ite, q_e_tup, q_e_lst, q_e_dct, q_e_idx, q_e_slc, q_e_rev, q_e_call, q_e_bi, q_e_op, q_op_cons, q_e_isi, q_e_mut, q_e_comp, q_d_nil, q_d_cons, q_o_nil, q_o_cons, q_a_nil, q_a_var, q_oP_non, q_ob_non, q_al_non, q_am_non, q_af_non, q_oP_bl, q_ob_bl, q_al_bl, q_am_bl, q_af_bl, q_oP_int, q_ob_int, q_al_int, q_am_int, q_af_int, q_oP_str, q_ob_str, q_al_str, q_am_str, q_af_str, q_oP_glo, q_ob_glo, q_al_glo, q_am_glo, q_af_glo, q_oP_bin, q_ob_bin, q_al_bin, q_am_bin, q_af_bin, q_oP_neg, q_ob_neg, q_al_neg, q_am_neg, q_af_neg, q_oP_cmp, q_ob_cmp, q_al_cmp, q_am_cmp, q_af_cmp, q_oP_cmp2, q_ob_cmp2, q_al_cmp2, q_am_cmp2, q_af_cmp2, q_oP_and, q_ob_and, q_al_and, q_am_and, q_af_and, q_oP_or, q_ob_or, q_al_or, q_am_or, q_af_or, q_oP_not, q_ob_not, q_al_not, q_am_not, q_af_not, q_oP_ite, q_ob_ite, q_al_ite, q_am_ite, q_af_ite, q_oP_tup, q_ob_tup, q_al_tup, q_am_tup, q_af_tup, q_oP_lst, q_ob_lst, q_al_lst, q_am_lst, q_af_lst, q_oP_dct, q_ob_dct, q_al_dct, q_am_dct, q_af_dct, q_oP_idx, q_ob_idx, q_al_idx, q_am_idx, q_af_idx, q_oP_slc, q_ob_slc, q_al_slc, q_am_slc, q_af_slc, q_oP_rev, q_ob_rev, q_al_rev, q_am_rev, q_af_rev, q_oP_call, q_ob_call, q_al_call, q_am_call, q_af_call, q_oP_bi, q_ob_bi, q_al_bi, q_am_bi, q_af_bi, q_oP_isi, q_ob_isi, q_al_isi, q_am_isi, q_af_isi, q_oP_mut, q_ob_mut, q_al_mut, q_am_mut, q_af_mut, q_oP_op, q_ob_op, q_al_op, q_am_op, q_af_op, q_oP_comp, q_ob_comp, q_al_comp, q_am_comp, q_af_comp, q_c_nil, q_c_cons, q_s_lst, q_s_tup, q_s_range, q_s_enum, q_s_zip, q_s_items, q_s_keys, q_s_vals, q_t_ex, q_t_asg, q_t_asgP, q_t_asgT, q_t_aug, q_t_setI, q_t_setI2, q_t_whl, q_t_ifs, q_t_for, q_t_retv, q_tr_non, q_tr_bl, q_tr_int, q_tr_str, q_tr_glo, q_tr_bin, q_tr_neg, q_tr_cmp, q_tr_cmp2, q_tr_and, q_tr_or, q_tr_not, q_tr_ite, q_tr_tup, q_tr_lst, q_tr_dct, q_tr_idx, q_tr_slc, q_tr_rev, q_tr_call, q_tr_bi, q_tr_isi, q_tr_mut, q_tr_op, q_tr_comp, q_t_retN, q_t_brk, q_t_cont, q_t_pass, q_ss_n, P_bind, P_ok, lc_P, f_slcl, f_slcs, f_slct, part0, part1, P_boolOf, bk_b, P_d, br_t, br_f, sq_n, sq_r, sq_b, sq_c, rv_, rv_val, rv_lst, rv_dct, rt_, rt_val, rt_own, rt_io, op_, op_val, op_own, av_, av_val, av_own, rd_v, rd_, rd_sv, rd_sl, rd_sd, lo_v, lo_, lo_val, lo_own, lo_lk, or_n, or_a, or_d, au_i, au_ii, au_add, au_sub, pb_n, pb_v, pb_s, p1_oo, p1_ov, p1_v, rds_n, rds_c, sv_val, sv_own, ss_, ss_no, ss_val, ss_own, oa_, oa_own, dd_val, dd_lst, dd_dct, bo_ok, bin2_c, cmp2_c, idx2_c, neg1_c, rev1_c, svs_n, svs_c, sps_n, sps_i, sps_t, untup_c, unlst_c, unseq_l, unseq_t, sel_t, sel_f, undct_c, untwo_c, b_ok, b_no, l_some, l_none, frz_val, frz_lst, frz_dct, f_add, f_addl, f_addt, f_sub, f_mulL, f_mulR, f_fdiv, f_mod, f_pow, f_lt, f_le, f_gt, f_ge, f_eq, f_ne, f_eqb, f_eqT2, f_isn, f_isni, f_isnb, f_isnl, f_isnt, f_nisn, f_nisni, f_nisnl, f_nisnt, f_neb, f_isb, f_nisb, f_nenil, f_lenl, f_lent, f_abs, f_min, f_max, f_min3, f_max3, f_intb, f_int, f_listl, f_listt, f_tupl, f_tupt, f_set, isl_l, pre_lenSet, pre_sortSet, pre_inVals, pre_ninVals, pre_lr1, pre_lr2, pre_dictOf, pre_min1, pre_max1, rest_n, rest_c, rst_s, pre_repr, f_neshw, f_eqshw, pre_get1, pre_get2, f_lenSet, f_sortSet, f_get1, f_get2, f_get2b, f_inVals, f_ninVals, f_lr1, f_min1, f_max1, f_sort, f_sum, f_anyb, f_allb, f_meml, f_nmeml, f_memd, f_nmemd, f_ixd, f_lend, f_setd, f_dct0, f_ins, isl_d, f_app, f_mkT, f_mkL, sm64_of, ix0, ix1, ix2, ix3, ixm1, f_isi1, f_isi2, f_isi3, f_isi4, f_isi5, f_isi6, f_isi7, f_isi8, f_isi9, f_isi10, f_isi11, f_isi12, f_isi13, f_isi14, f_isi15, f_isi16, f_isi17, f_isi18, f_isi19, f_isi20, f_isi21, f_isi22, f_isi23, f_isi24, f_isi25, f_isi26, f_isi27, f_isi28, f_isi29, f_isi30, List.getElem?_cons_zero, List.getElem?_cons_succ, List.set_cons_zero, List.set_cons_succ, List.map_cons, List.map_nil, List.cons_append, List.nil_append, List.replicate, Option.bind_some, Option.map_some, List.length_cons, List.length_nil, inOf, outOf, C.toD, Cst.d, Nat.reduceAdd, Int.reduceNeg, Bool.not_true, Bool.not_false, decide_true, decide_false, List.isEmpty_nil, List.isEmpty_cons, Bool.and_true, Bool.true_and, if_true, if_false, true_and, and_true, Bool.false_eq_true, Int.reduceLT, Nat.reduceLT, Nat.reduceLeDiff, Int.reduceLE, Nat.zero_le, ne_eq, not_false_eq_true, not_true_eq_false, Int.reduceEq, Nat.reducePow, Int.reducePow, Int.reduceToNat, Int.cast_ofNat_Int, Int.reduceBEq, beq_self_eq_true, Int.reduceAdd, Int.reduceSub, Int.reduceMul, $ls,*] $[$l]?)
def leftFn (h : Nat) : Fn := ⟨1, 6, (.cons (.asg 1 (.call h (.cons (.var 0) .nil) [] .nil [.at 0]))
    (.cons (.asg 2 (.dct .nil))
    (.cons (.asg 3 (.comp (.var 4) (.name 4) (.range (.cons (.bi .len (.cons (.var 0) .nil)) .nil)) (.cons (.op .ninVals (.cons (.var 4) (.cons (.var 1) .nil))) .nil) [4]))
    (.cons (.whl (.cmp .ne (.var 3) (.lst .nil)) (.cons (.asg 4 (.mut .pop 3 .nil))
    (.cons (.setI 2 (.var 4) (.bl true))
    (.cons (.for_ (.name 5) (.lst (.idx (.var 0) (.var 4))) (.cons (.ifs (.and (.cmp .nmem (.idx (.var 1) (.var 5)) (.var 2)) (.cmp .nmem (.idx (.var 1) (.var 5)) (.var 3))) (.cons (.ex (.mut .append 3 (.cons (.idx (.var 1) (.var 5)) .nil)))
    .nil) .nil)
    .nil))
    .nil))))
    (.cons (.ret (.bi .sorted (.cons (.var 2) .nil)))
    .nil)))))⟩
theorem rangeD_spots {n : Nat} : rangeD 0 n = (spotsU n).map .int := by
  unfold rangeD spotsU
  rw [List.map_map]
  apply List.map_congr_left
  intro i _
  show D.int (0 + (i : Int)) = .int i
  rw [Int.zero_add]
theorem vals_ints {hs : Hs} : (hs.map fun q => D.int q.2) = (hs.map (·.2)).map .int := by rw [List.map_map]; rfl
theorem keyInts_I : ∀ l : List Int, keyInts? (kI l) = some l
  | [] => rfl
  | i :: l => by
    show (keyInts? (kI l)).map (i :: ·) = _
    rw [keyInts_I l]; rfl
theorem f_sortK {l : List Int} {ds : List D} (h : l.length < 64) : biD .sorted [.dct (kI l) ds] = some (.own (.lst ((sortI l).map .int))) := by
  show ((keyInts? (kI l)).bind fun ns => _) = _
  rw [keyInts_I]
  exact if_pos h
theorem pop_snoc {w : List Int} {one : Int} : muC .pop (.lst ((w ++ [one]).map .int)) [] = some (.int one, .lst (w.map .int)) := by
  rw [List.map_append]
  show (match (w.map D.int ++ [.int one])[(w.map D.int ++ [D.int one]).length - 1]? with
    | some d => some (d, C.lst (w.map D.int ++ [D.int one]).dropLast)
    | none => none) = _
  have e : (w.map D.int ++ [D.int one])[(w.map D.int ++ [D.int one]).length - 1]? = some (.int one) := by
    rw [List.length_append, List.length_singleton, Nat.add_sub_cancel, List.getElem?_append_right (Nat.le_refl _), Nat.sub_self]; rfl
  rw [e, List.dropLast_concat]
/-- what holds while they are looked for -/
structure Look (rows : Rows) (hs : Hs) (met w : List Int) : Prop where
  nd : (met ++ w).Nodup
  sub : ∀ p ∈ met ++ w, p ∈ spotsU rows.length
  un : ∀ p : Int, 0 ≤ p → p < rows.length → (∀ s, (s, p) ∉ hs) → p ∈ met ++ w
  out : ∀ p ∈ met ++ w, Out rows hs (met ++ w) p
theorem Look.perm {rows : Rows} {hs : Hs} {met w met' w' : List Int} (h : Look rows hs met w) (p : (met ++ w).Perm (met' ++ w')) : Look rows hs met' w' :=
  ⟨p.nodup_iff.mp h.nd, fun q hq => h.sub q (p.mem_iff.mpr hq), fun q a b c => p.mem_iff.mp (h.un q a b c), fun q hq => (h.out q (p.mem_iff.mpr hq)).mono fun x hx => p.mem_iff.mp hx⟩
section
variable {T : Nat → Option Fn}
theorem left_Q {fl fh f : Nat} (hfl : T fl = some (leftFn fh)) (hfh : T fh = some (holdersFn f)) (hf : T f = some (placedFn f)) (rows : Rows) (U : List Int) (hU : U.length ≤ 10000) (hr : ∀ s p, edge rows s p → s ∈ U) (hrl : rows.length < 64) (k : Nat) (hk : U.length < k) (cs : List C) :
    (dCall T (k + 2) fl [.own (.lst (rowsL rows))] cs).Q fun v outs cs' => ∃ zs, Short rows zs ∧ v = .own (.lst (zs.map .int)) ∧ outs = [.own (.lst (rowsL rows))] ∧ cs' = cs := by
  refine call_Q hfl rfl ?_
  simp only [leftFn]
  have hq := holders_Q (f := f) hfh hf rows U hU hr (by omega) (A := .own (.lst (rowsL rows))) (.inr rfl) k hk cs
  have hrg : rngD [.int (rows.length : Int)] = some ((spotsU rows.length).map .int) := by
    rw [rng1 (by omega) (by omega), ← rangeD_spots]
    rfl
  simp! only [q_ss_c, f_ixl, f_ixt]
  refine do_P rfl rfl (hq.mono ?_)
  rintro v_ q_ c_ ⟨hs, b, rfl, rfl, rfl⟩
  simp! only [q_ss_c, f_ixl, f_ixt, List.length_map, hrg]
  refine lcX_P (wr := [.own true false (.lst (rowsL rows)), .own false false (hC hs), .own false false (mC []), .no, .no, .no]) (spotsU rows.length) D.int (fun p => !(hs.map (·.2)).contains p) D.int rfl (by rw [spotsU_len]; omega) rfl (fun j hj => nomatch hj) rfl (fun p hp => ⟨[.own true false (.lst (rowsL rows)), .own false false (hC hs), .own false false (mC []), .no, .val false (.int p), .no], rfl, ?_⟩) ?_
  · simp! only [q_ss_c, f_ixl, f_ixt, vals_ints, f_ninVals]
    by_cases hkp : (!(hs.map (·.2)).contains p) = true
    · rw [if_pos hkp]
      first | rfl | exact ⟨rfl, rfl⟩
    · rw [if_neg hkp]
      rfl
  · simp! only [q_ss_c, f_ixl, f_ixt]
    have hun : ∀ p : Int, (!(hs.map (·.2)).contains p) = true ↔ ∀ s, (s, p) ∉ hs := fun p => by
      rw [Bool.not_eq_true', ← Bool.not_eq_true, List.contains_iff_mem]
      constructor
      · exact fun h s hm => h (List.mem_map.mpr ⟨(s, p), hm, rfl⟩)
      · rintro h hm
        obtain ⟨⟨s, q⟩, h1, rfl⟩ := List.mem_map.mp hm
        exact h s h1
    refine whB_P (fun j r cs' => ∃ met w x4 x5, r = [.own true false (.lst (rowsL rows)), .own false false (hC hs), .own false false (mC met), .own false false (.lst (w.map .int)), x4, x5] ∧ (Fr x4 ∧ Fr x5) ∧ Look rows hs met w ∧ (∀ p ∈ met, ∀ s ∈ rowOf rows p, ∃ h, (s, h) ∈ hs ∧ h ∈ met ++ w) ∧ rows.length ≤ j + met.length ∧ cs' = c_) rows.length (by omega)
      ⟨[], (spotsU rows.length).filter fun p => !(hs.map (·.2)).contains p, _, _, rfl, ⟨Fr.no, Fr.no⟩, ⟨(nodup_spotsU _).sublist List.filter_sublist, fun p hp => (List.mem_filter.mp hp).1, fun p h0 h1 h2 => List.mem_filter.mpr ⟨mem_spotsU.mpr ⟨h0, h1⟩, (hun p).mpr h2⟩, fun p hp => ⟨hs, b.m, rfl, (hun p).mp (List.mem_filter.mp hp).2, fun _ _ _ => Iff.rfl⟩⟩, (fun p hp => nomatch hp), Nat.le_add_right _ _, rfl⟩ ?_
    rintro j r cs' ⟨met, w, x4, x5, rfl, ⟨f4, f5⟩, lk, sh, hj, rfl⟩
    simp! only [q_ss_c, f_ixl, f_ixt, f_nenil]
    rcases List.eq_nil_or_concat w with rfl | ⟨w, one, rfl⟩
    · have hml : met.length < 64 := by
        have := nodup_sub_len (List.nodup_append.mp lk.nd).1 fun p hp => lk.sub p (List.mem_append_left _ hp)
        rw [spotsU_len] at this
        omega
      show (liftO (biD _ _) _ _).P _ _
      simp! only [q_ss_c, f_ixl, f_ixt, f_sortK hml]
      have lk2 : ∀ p, p ∈ met ++ [] ↔ p ∈ met := fun p => by rw [List.append_nil]
      refine ⟨sortI met, ⟨sortI_pw (by have := lk.nd; rwa [List.append_nil] at this), hs, b, (sortI_pw (by have := lk.nd; rwa [List.append_nil] at this)).imp (fun h => by omega), fun p h0 h1 h2 => mem_sortI.mpr ((lk2 p).mp (lk.un p h0 h1 h2)), fun p hp s hs1 => ?_, fun p hp => ?_⟩, rfl, rfl⟩
      · obtain ⟨h, a1, a2⟩ := sh p (mem_sortI.mp hp) s hs1
        exact ⟨h, a1, mem_sortI.mpr ((lk2 h).mp a2)⟩
      · have hp := (lk2 p).mpr (mem_sortI.mp hp)
        obtain ⟨h0, h1⟩ := mem_spotsU.mp (lk.sub p hp)
        obtain ⟨N, m, hk, hn, _⟩ := lk.out p hp
        have := congrArg List.length hk
        rw [List.length_map, List.length_map] at this
        exact ⟨h0, h1, N, m, this, hn⟩
    · rw [List.concat_eq_append] at *
      have hne : (w ++ [one]).isEmpty = false := by simp
      rw [hne]
      have lk1 : Look rows hs (met ++ [one]) w := lk.perm (by
        rw [List.append_assoc]
        exact List.Perm.append_left _ List.perm_append_comm)
      have nd1 : (met ++ [one]).Nodup := (List.nodup_append.mp lk1.nd).1
      have hon : one ∉ met := fun z => by
        have := List.nodup_append.mp nd1
        exact this.2.2 one z one List.mem_cons_self rfl
      have hlm := nodup_sub_len nd1 fun p hp => lk1.sub p (List.mem_append_left _ hp)
      rw [spotsU_len, List.length_append, List.length_singleton] at hlm
      have hl2 : (kI met).length < 16777216 := by rw [List.length_map]; omega
      obtain ⟨ho0, ho1⟩ := mem_spotsU.mp (lk1.sub one (List.mem_append_left _ (List.mem_append_right _ List.mem_cons_self)))
      have hix := ix_rows ho0 ho1
      show (liftO (muC _ _ _) _ _).P _ _
      simp! only [q_ss_c, f_ixl, f_ixt, pop_snoc, f4.st, hl2, put_met hon, hix]
      refine for0_P (fun i r c2 => ∃ w2 x5, r = [.own true false (.lst (rowsL rows)), .own false false (hC hs), .own false false (mC (met ++ [one])), .own false false (.lst (w2.map .int)), .val false (.int one), x5] ∧ Fr x5 ∧ Look rows hs (met ++ [one]) w2 ∧ (∀ x ∈ met ++ [one] ++ w, x ∈ met ++ [one] ++ w2) ∧ (∀ s ∈ (rowOf rows one).take i, ∃ h, (s, h) ∈ hs ∧ h ∈ met ++ [one] ++ w2) ∧ c2 = cs') ⟨w, _, rfl, f5, lk1, (fun _ h => h), (fun s h => by rw [List.take_zero] at h; cases h), rfl⟩ ?_ ?_
      · rintro i d r cs2 hi ⟨w2, x5, rfl, f5, lk2, su, tk, rfl⟩
        rw [List.getElem?_map] at hi
        obtain ⟨s, hs1, rfl⟩ := Option.map_eq_some_iff.mp hi
        have hed : edge rows s one := ⟨ho0, ho1, List.mem_of_getElem? hs1⟩
        have honD : one ∈ met ++ [one] ++ w2 := List.mem_append_left _ (List.mem_append_right _ List.mem_cons_self)
        obtain ⟨h, hm, hg⟩ := get_hs ((lk2.out one honD).held b hed)
        refine ⟨_, by show setS _ _ _ = some _; rw [ss_]; exact f5.st _ _ _, ?_⟩
        simp! only [q_ss_c, f_ixl, f_ixt, br_and, br_or, hg, hasK_I, f_nmeml]
        refine P_brB (fun hc => ?_) (fun hc => ?_)
        · have hD : h ∉ met ++ [one] ++ w2 := fun z => by
            simp only [Bool.and_eq_true, Bool.not_eq_true', decide_eq_false_iff_not] at hc
            rcases List.mem_append.mp z with z | z
            · exact hc.1 z
            · exact hc.2 z
          have hl3 := nodup_sub_len lk2.nd lk2.sub
          rw [spotsU_len, List.length_append] at hl3
          have hl4 : (w2.map D.int).length < 16777216 := by rw [List.length_map]; omega
          simp! only [q_ss_c, f_ixl, f_ixt, hg, hl4]
          have e : met ++ [one] ++ (w2 ++ [h]) = met ++ [one] ++ w2 ++ [h] := (List.append_assoc _ _ _).symm
          refine ⟨w2 ++ [h], _, by rw [List.map_append]; rfl, Fr.val, ⟨?_, ?_, ?_, ?_⟩, ?_, ?_⟩
          · rw [e]; exact nodup_snoc lk2.nd hD
          · rw [e]
            intro p hp
            rcases List.mem_append.mp hp with hp | hp
            · exact lk2.sub p hp
            · rw [List.mem_singleton.mp hp]
              have := b.m.e s h hm
              exact mem_spotsU.mpr ⟨this.1, this.2.1⟩
          · rw [e]
            exact fun p a c d => List.mem_append_left _ (lk2.un p a c d)
          · rw [e]
            intro p hp
            rcases List.mem_append.mp hp with hp | hp
            · exact (lk2.out p hp).mono fun x hx => List.mem_append_left _ hx
            · rw [List.mem_singleton.mp hp]
              exact Out.step b.m (lk2.out one honD) hed hm hD honD
          · rw [e]
            exact fun x hx => List.mem_append_left _ (su x hx)
          · rw [e]
            refine take_more hs1 (fun y hy => ?_) ⟨h, hm, List.mem_append_right _ List.mem_cons_self⟩
            obtain ⟨h', q1, q2⟩ := tk y hy
            exact ⟨h', q1, List.mem_append_left _ q2⟩
        · have hD : h ∈ met ++ [one] ++ w2 := by
            refine Classical.byContradiction fun z => ?_
            have z1 : h ∉ met ++ [one] := fun y => z (List.mem_append_left _ y)
            have z2 : h ∉ w2 := fun y => z (List.mem_append_right _ y)
            rw [decide_eq_false z1, decide_eq_false z2] at hc
            cases hc
          simp! only [q_ss_c, f_ixl, f_ixt]
          exact ⟨w2, _, rfl, Fr.val, lk2, su, take_more hs1 tk ⟨h, hm, hD⟩⟩
      · rintro r cs2 ⟨w2, x5, rfl, f5, lk2, su, tk, rfl⟩
        simp! only [q_ss_c, f_ixl, f_ixt]
        have hwl : met ++ (w ++ [one]) ⊆ met ++ [one] ++ w := fun x hx => by
          simp only [List.mem_append, List.mem_singleton] at hx ⊢
          rcases hx with h | h | h
          · exact .inl (.inl h)
          · exact .inr h
          · exact .inl (.inr h)
        refine ⟨j - 1, by omega, met ++ [one], w2, _, _, rfl, ⟨Fr.val, f5⟩, lk2, fun p hp s hs1 => ?_, by rw [List.length_append, List.length_singleton]; omega⟩
        rcases List.mem_append.mp hp with hp | hp
        · obtain ⟨h, a1, a2⟩ := sh p hp s hs1
          exact ⟨h, a1, su h (hwl a2)⟩
        · rw [List.mem_singleton.mp hp] at hs1
          rw [List.length_map, List.take_length] at tk
          exact tk s hs1
end
end Vi

namespace Vi
open PySem L2
local macro_rules
  | `(tactic| simp! only [$ls,*] $[$l:location]?) => `(tactic| simp only [q_e_var, q_e_non, q_e_bl, q_e_int, q_e_str, q_e_glo, q_e_bin, q_e_neg, q_e_cmp, q_e_cmp2, q_e_and, q_e_or, q_e_not, q_e_ite, q_e_tup, q_e_lst, q_e_dct, q_e_idx, q_e_slc, q_e_rev, q_e_call, q_e_bi, q_e_op, q_op_cons, q_e_isi, q_e_mut, q_e_comp, q_d_nil, q_d_cons, q_o_nil, q_o_cons, q_a_nil, q_a_var, q_oP_non, q_ob_non, q_al_non, q_am_non, q_af_non, q_oP_bl, q_ob_bl, q_al_bl, q_am_bl, q_af_bl, q_oP_int, q_ob_int, q_al_int, q_am_int, q_af_int, q_oP_str, q_ob_str, q_al_str, q_am_str, q_af_str, q_oP_glo, q_ob_glo, q_al_glo, q_am_glo, q_af_glo, q_oP_bin, q_ob_bin, q_al_bin, q_am_bin, q_af_bin, q_oP_neg, q_ob_neg, q_al_neg, q_am_neg, q_af_neg, q_oP_cmp, q_ob_cmp, q_al_cmp, q_am_cmp, q_af_cmp, q_oP_cmp2, q_ob_cmp2, q_al_cmp2, q_am_cmp2, q_af_cmp2, q_oP_and, q_ob_and, q_al_and, q_am_and, q_af_and, q_oP_or, q_ob_or, q_al_or, q_am_or, q_af_or, q_oP_not, q_ob_not, q_al_not, q_am_not, q_af_not, q_oP_ite, q_ob_ite, q_al_ite, q_am_ite, q_af_ite, q_oP_tup, q_ob_tup, q_al_tup, q_am_tup, q_af_tup, q_oP_lst, q_ob_lst, q_al_lst, q_am_lst, q_af_lst, q_oP_dct, q_ob_dct, q_al_dct, q_am_dct, q_af_dct, q_oP_idx, q_ob_idx, q_al_idx, q_am_idx, q_af_idx, q_oP_slc, q_ob_slc, q_al_slc, q_am_slc, q_af_slc, q_oP_rev, q_ob_rev, q_al_rev, q_am_rev, q_af_rev, q_oP_call, q_ob_call, q_al_call, q_am_call, q_af_call, q_oP_bi, q_ob_bi, q_al_bi, q_am_bi, q_af_bi, q_oP_isi, q_ob_isi, q_al_isi, q_am_isi, q_af_isi, q_oP_mut, q_ob_mut, q_al_mut, q_am_mut, q_af_mut, q_oP_op, q_ob_op, q_al_op, q_am_op, q_af_op, q_oP_comp, q_ob_comp, q_al_comp, q_am_comp, q_af_comp, q_c_nil, q_c_cons, q_s_lst, q_s_tup, q_s_range, q_s_enum, q_s_zip, q_s_items, q_s_keys, q_s_vals, q_t_ex, q_t_asg, q_t_asgP, q_t_asgT, q_t_aug, q_t_setI, q_t_setI2, q_t_whl, q_t_ifs, q_t_for, q_t_retv, q_tr_non, q_tr_bl, q_tr_int, q_tr_str, q_tr_glo, q_tr_bin, q_tr_neg, q_tr_cmp, q_tr_cmp2, q_tr_and, q_tr_or, q_tr_not, q_tr_ite, q_tr_tup, q_tr_lst, q_tr_dct, q_tr_idx, q_tr_slc, q_tr_rev, q_tr_call, q_tr_bi, q_tr_isi, q_tr_mut, q_tr_op, q_tr_comp, q_t_retN, q_t_brk, q_t_cont, q_t_pass, q_ss_n, P_bind, P_ok, lc_P, f_slcl, f_slcs, f_slct, part0, part1, P_boolOf, bk_b, P_d, br_t, br_f, sq_n, sq_r, sq_b, sq_c, rv_, rv_val, rv_lst, rv_dct, rt_, rt_val, rt_own, rt_io, op_, op_val, op_own, av_, av_val, av_own, rd_v, rd_, rd_sv, rd_sl, rd_sd, lo_v, lo_, lo_val, lo_own, lo_lk, or_n, or_a, or_d, au_i, au_ii, au_add, au_sub, pb_n, pb_v, pb_s, p1_oo, p1_ov, p1_v, rds_n, rds_c, sv_val, sv_own, ss_, ss_no, ss_val, ss_own, oa_, oa_own, dd_val, dd_lst, dd_dct, bo_ok, bin2_c, cmp2_c, idx2_c, neg1_c, rev1_c, svs_n, svs_c, sps_n, sps_i, sps_t, untup_c, unlst_c, unseq_l, unseq_t, sel_t, sel_f, undct_c, untwo_c, b_ok, b_no, l_some, l_none, frz_val, frz_lst, frz_dct, f_add, f_addl, f_addt, f_sub, f_mulL, f_mulR, f_fdiv, f_mod, f_pow, f_lt, f_le, f_gt, f_ge, f_eq, f_ne, f_eqb, f_eqT2, f_isn, f_isni, f_isnb, f_isnl, f_isnt, f_nisn, f_nisni, f_nisnl, f_nisnt, f_neb, f_isb, f_nisb, f_nenil, f_lenl, f_lent, f_abs, f_min, f_max, f_min3, f_max3, f_intb, f_int, f_listl, f_listt, f_tupl, f_tupt, f_set, isl_l, pre_lenSet, pre_sortSet, pre_inVals, pre_ninVals, pre_lr1, pre_lr2, pre_dictOf, pre_min1, pre_max1, rest_n, rest_c, rst_s, pre_repr, f_neshw, f_eqshw, pre_get1, pre_get2, f_lenSet, f_sortSet, f_get1, f_get2, f_get2b, f_inVals, f_ninVals, f_lr1, f_min1, f_max1, f_sort, f_sum, f_anyb, f_allb, f_meml, f_nmeml, f_memd, f_nmemd, f_ixd, f_lend, f_setd, f_dct0, f_ins, isl_d, f_app, f_mkT, f_mkL, sm64_of, ix0, ix1, ix2, ix3, ixm1, f_isi1, f_isi2, f_isi3, f_isi4, f_isi5, f_isi6, f_isi7, f_isi8, f_isi9, f_isi10, f_isi11, f_isi12, f_isi13, f_isi14, f_isi15, f_isi16, f_isi17, f_isi18, f_isi19, f_isi20, f_isi21, f_isi22, f_isi23, f_isi24, f_isi25, f_isi26, f_isi27, f_isi28, f_isi29, f_isi30, List.getElem?_cons_zero, List.getElem?_cons_succ, List.set_cons_zero, List.set_cons_succ, List.map_cons, List.map_nil, List.cons_append, List.nil_append, List.replicate, Option.bind_some, Option.map_some, List.length_cons, List.length_nil, inOf, outOf, C.toD, Cst.d, Nat.reduceAdd, Int.reduceNeg, Bool.not_true, Bool.not_false, decide_true, decide_false, List.isEmpty_nil, List.isEmpty_cons, Bool.and_true, Bool.true_and, if_true, if_false, true_and, and_true, Bool.false_eq_true, Int.reduceLT, Nat.reduceLT, Nat.reduceLeDiff, Int.reduceLE, Nat.zero_le, ne_eq, not_false_eq_true, not_true_eq_false, Int.reduceEq, Nat.reducePow, Int.reducePow, Int.reduceToNat, Int.cast_ofNat_Int, Int.reduceBEq, beq_self_eq_true, Int.reduceAdd, Int.reduceSub, Int.reduceMul, $ls,*] $[$l]?)
/-! ### the rows without one -/
/-- nobody and nothing at one place -/
def wo (rows : Rows) (p : Int) : Rows := rows.take p.toNat ++ [[]] ++ rows.drop (p.toNat + 1)
theorem wo_len {rows : Rows} {p : Int} (h0 : 0 ≤ p) (h1 : p < rows.length) : (wo rows p).length = rows.length := by
  unfold wo
  rw [List.length_append, List.length_append, List.length_take, List.length_drop, List.length_singleton]
  omega
theorem rowOf_wo {rows : Rows} {p q : Int} (h0 : 0 ≤ p) (h1 : p < rows.length) (h2 : 0 ≤ q) : rowOf (wo rows p) q = if q = p then [] else rowOf rows q := by
  have hl : (rows.take p.toNat).length = p.toNat := by rw [List.length_take]; omega
  unfold rowOf wo
  rw [List.append_assoc]
  by_cases e : q = p
  · subst e
    rw [if_pos rfl, List.getElem?_append_right (by omega), hl, Nat.sub_self]
    rfl
  · rw [if_neg e]
    by_cases l : q < p
    · rw [List.getElem?_append_left (by omega), List.getElem?_take_of_lt (by omega)]
    · rw [List.getElem?_append_right (by omega), hl, List.getElem?_append_right (by rw [List.length_singleton]; omega), List.length_singleton, List.getElem?_drop]
      congr 2
      omega
theorem edge_wo {rows : Rows} {p q s : Int} (h0 : 0 ≤ p) (h1 : p < rows.length) : edge (wo rows p) s q ↔ edge rows s q ∧ q ≠ p := by
  unfold edge
  rw [wo_len h0 h1]
  constructor
  · rintro ⟨a, b, c⟩
    rw [rowOf_wo h0 h1 a] at c
    by_cases e : q = p
    · rw [if_pos e] at c; cases c
    · rw [if_neg e] at c
      exact ⟨⟨a, b, c⟩, e⟩
  · rintro ⟨⟨a, b, c⟩, e⟩
    rw [rowOf_wo h0 h1 a, if_neg e]
    exact ⟨a, b, c⟩
theorem mat_wo {rows : Rows} {p : Int} {N : Hs} (h0 : 0 ≤ p) (h1 : p < rows.length) : Mat (wo rows p) N ↔ Mat rows N ∧ ∀ s, (s, p) ∉ N := by
  constructor
  · intro m
    exact ⟨⟨m.nd, fun s q h => ((edge_wo h0 h1).mp (m.e s q h)).1, m.inj⟩, fun s h => ((edge_wo h0 h1).mp (m.e s p h)).2 rfl⟩
  · rintro ⟨m, h⟩
    exact ⟨m.nd, fun s q z => (edge_wo h0 h1).mpr ⟨m.e s q z, fun e => h s (e ▸ z)⟩, m.inj⟩
theorem Left.mem {rows : Rows} {hs hs' : Hs} {zs : List Int} {p : Int} (L : Left rows hs zs) (b : Best (wo rows p) hs') (h0 : 0 ≤ p) (h1 : p < rows.length) : hs'.length = hs.length ↔ p ∈ zs := by
  constructor
  · intro h
    obtain ⟨m, n⟩ := (mat_wo h0 h1).mp b.m
    exact L.only m h h0 h1 n
  · intro h
    obtain ⟨_, _, N, m, hl, n⟩ := L.out p h
    have a := b.mx N ((mat_wo h0 h1).mpr ⟨m, n⟩)
    obtain ⟨m', _⟩ := (mat_wo h0 h1).mp b.m
    have c := L.b.mx _ m'
    omega
/-- whether as many are robed without p -/
noncomputable def freeB (rows : Rows) (hs : Hs) (p : Int) : Bool := @decide (∃ hs', Best (wo rows p) hs' ∧ hs'.length = hs.length) (Classical.propDecidable _)
theorem freeB_of {rows : Rows} {hs hs' : Hs} {p : Int} (b : Best (wo rows p) hs') : freeB rows hs p = decide (hs'.length = hs.length) := by
  unfold freeB
  by_cases h : hs'.length = hs.length
  · rw [decide_eq_true h]
    exact @decide_eq_true _ (Classical.propDecidable _) ⟨hs', b, h⟩
  · rw [decide_eq_false h]
    exact @decide_eq_false _ (Classical.propDecidable _) fun ⟨h2, b2, e⟩ => h (by rw [b.eq b2]; exact e)
theorem spotsU_pw (n : Nat) : (spotsU n).Pairwise (· < ·) := by
  unfold spotsU
  rw [List.pairwise_map]
  exact List.pairwise_lt_range.imp fun h => by omega
theorem spotsU_succ (n : Nat) : spotsU (n + 1) = spotsU n ++ [(n : Int)] := by
  unfold spotsU
  rw [List.range_succ, List.map_append]; rfl
/-- those without whom as many are robed, found one by one -/
noncomputable def freeL (rows : Rows) (hs : Hs) (n : Nat) : List Int := (spotsU n).filter (freeB rows hs)
theorem freeL_succ {rows : Rows} {hs : Hs} {n : Nat} : freeL rows hs (n + 1) = if freeB rows hs n = true then freeL rows hs n ++ [(n : Int)] else freeL rows hs n := by
  unfold freeL
  rw [spotsU_succ, List.filter_append]
  by_cases h : freeB rows hs n = true
  · rw [if_pos h]
    simp [h]
  · rw [if_neg h]
    simp [h]
theorem Short.free {rows : Rows} {hs : Hs} {zs : List Int} (z : Short rows zs) (b : Best rows hs) (hw : ∀ p : Int, 0 ≤ p → p < rows.length → ∃ hs', Best (wo rows p) hs') : freeL rows hs rows.length = zs := by
  obtain ⟨w, hs2, L⟩ := z
  refine rise_eq ((spotsU_pw _).sublist List.filter_sublist) w fun p => ?_
  unfold freeL
  rw [List.mem_filter, mem_spotsU]
  constructor
  · rintro ⟨⟨h0, h1⟩, h2⟩
    obtain ⟨hs', b'⟩ := hw p h0 h1
    rw [freeB_of b', decide_eq_true_eq] at h2
    exact (L.mem b' h0 h1).mp (h2.trans (b.eq L.b))
  · intro h
    obtain ⟨h0, h1, _⟩ := L.out p h
    obtain ⟨hs', b'⟩ := hw p h0 h1
    refine ⟨⟨h0, h1⟩, ?_⟩
    rw [freeB_of b', decide_eq_true_eq]
    exact ((L.mem b' h0 h1).mpr h).trans (L.b.eq b)
theorem rowsL_wo {rows : Rows} {p : Int} : rowsL (wo rows p) = (rowsL rows).take p.toNat ++ [.lst []] ++ (rowsL rows).drop (p.toNat + 1) := by
  unfold wo rowsL
  simp [List.map_take, List.map_drop]
theorem cut_to {α : Type} {xs : List α} {i : Int} (h : 0 ≤ i) : cutD xs none (some i) = xs.take i.toNat := by
  unfold cutD
  rw [HT.sIx_none, List.drop_zero, Nat.sub_zero, show HT.sIx xs.length xs.length (some i) = min i.toNat xs.length from if_neg (by omega)]
  by_cases q : i.toNat ≤ xs.length
  · rw [Nat.min_eq_left q]
  · rw [Nat.min_eq_right (by omega), List.take_of_length_le (Nat.le_refl _), List.take_of_length_le (by omega)]
theorem cut_from {α : Type} {xs : List α} {i : Int} (h : 0 ≤ i) : cutD xs (some i) none = xs.drop i.toNat := by
  unfold cutD
  rw [HT.sIx_none, show HT.sIx xs.length 0 (some i) = min i.toNat xs.length from if_neg (by omega)]
  by_cases q : i.toNat ≤ xs.length
  · rw [Nat.min_eq_left q, List.take_of_length_le (by rw [List.length_drop]; omega)]
  · rw [Nat.min_eq_right (by omega), List.drop_eq_nil_of_le (by omega), List.drop_eq_nil_of_le (by omega), List.take_nil]
theorem plains_robes (n : Nat) : ∀ s : List Robe, D.plains (n + 2) (s.map robeD) = true
  | [] => rfl
  | g :: s => by
    show ((true && (true && (true && true))) && D.plains (n + 2) (s.map robeD)) = true
    rw [plains_robes n s]; rfl
theorem eqv_robes : ∀ s : List Robe, PyData.eqvAll (D.pys (s.map robeD)) (D.pys (s.map robeD)) = true
  | [] => rfl
  | g :: s => by
    show (((g.1 == g.1) && ((g.2.1 == g.2.1) && ((g.2.2 == g.2.2) && true))) && PyData.eqvAll (D.pys (s.map robeD)) (D.pys (s.map robeD))) = true
    rw [eqv_robes s]; simp
theorem f_neT {c : List Int} {s : List Robe} : cmpD .ne (.tup [crowdD c, stockD s]) (.tup [crowdD c, stockD s]) = some false := by
  show ((if (D.plains 58 (c.map .int) && (D.plains 58 (s.map robeD) && true)) && (D.plains 58 (c.map .int) && (D.plains 58 (s.map robeD) && true)) then some (PyData.eqvAll (D.pys (c.map .int)) (D.pys (c.map .int)) && (PyData.eqvAll (D.pys (s.map robeD)) (D.pys (s.map robeD)) && true)) else none).map (!·)) = _
  rw [plains_map 57 c, plains_robes 56 s, eqvAll_ints, eqv_robes]
  simp
theorem cutD_map {α β : Type} {f : α → β} {l : List α} {lo hi : Option Int} : cutD (l.map f) lo hi = (cutD l lo hi).map f := by
  unfold cutD
  rw [List.length_map, List.map_take, List.map_drop]
theorem cutD_len {α : Type} {l : List α} {lo hi : Option Int} : (cutD l lo hi).length ≤ l.length := by
  unfold cutD
  rw [List.length_take, List.length_drop]
  omega
theorem able_len {crowd : List Int} {stock : List Robe} {loose : Int} : (ableF crowd stock loose).length = crowd.length := by unfold ableF; rw [List.length_map]
theorem rok_ints {ns : List Int} {n : Nat} (h : ∀ i ∈ ns, -1000000000 ≤ i ∧ i ≤ 1000000000) : (D.lst (ns.map .int)).rok (n + 2) = true := by
  rw [D.rok]
  refine roks_map fun i hi => ?_
  rw [D.rok]
  have := h i hi
  exact decide_eq_true (sml_of (by omega) (by omega))
theorem sz_ints {ns : List Int} : (D.lst (ns.map .int)).sz ≤ 604 * ns.length + 3 := by
  rw [D.sz]
  have := szs_map (f := D.int) (k := 602) (l := ns) fun i _ => by rw [D.sz]; exact Nat.le_refl _
  omega
/-- repr of a list of numbers -/
theorem repr_ints {ns : List Int} (h : ∀ i ∈ ns, -1000000000 ≤ i ∧ i ≤ 1000000000) (hl : ns.length ≤ 10000) : opD .repr [.lst (ns.map .int)] = some (.val (shw (.lst (ns.map .int)))) := f_repr (rok_ints h) (Nat.le_trans sz_ints (by omega))
theorem Short.bd {rows : Rows} {zs : List Int} (z : Short rows zs) : (∀ i ∈ zs, 0 ≤ i ∧ i < rows.length) ∧ zs.length ≤ rows.length := by
  obtain ⟨w, hs, L⟩ := z
  refine ⟨fun i hi => ⟨(L.out i hi).1, (L.out i hi).2.1⟩, ?_⟩
  have := nodup_sub_len (L.nd) (m := spotsU rows.length) fun i hi => mem_spotsU.mpr ⟨(L.out i hi).1, (L.out i hi).2.1⟩
  rwa [spotsU_len] at this
section
variable {T : Nat → Option Fn}
theorem short_Q {fr fa ff fl fh f : Nat} (hfr : T fr = some (robingFn fl fa)) (hfa : T fa = some (ableFn ff)) (hfl : T fl = some (leftFn fh)) (hfh : T fh = some (holdersFn f)) (hf : T f = some (placedFn f)) {k : Nat} (hF : FitsOk T (k + 1) ff)
    (crowd : List Int) (stock : List Robe) (loose : Int) (cs : List C) (hc : crowd.length ≤ 63) (hs : stock.length < k) (hs2 : stock.length ≤ 10000) :
    (dCall T (k + 3) fr [.val (crowdD crowd), .val (stockD stock), .val (.int loose)] cs).Q fun v outs cs' => ∃ zs, Short (ableF crowd stock loose) zs ∧ v = .own (.lst (zs.map .int)) ∧ outs = [.val (crowdD crowd), .val (stockD stock), .val (.int loose)] ∧ cs' = cs := by
  refine call_Q hfr rfl ?_
  simp only [robingFn]
  simp! only [q_ss_c, f_ixl, f_ixt]
  refine do_P rfl rfl ((able_Q hfa hF crowd stock loose cs (by omega) hs2).mono ?_)
  rintro v_ q_ c_ ⟨rfl, rfl, rfl⟩
  simp! only [q_ss_c, f_ixl, f_ixt]
  refine do_P rfl rfl ((left_Q hfl hfh hf (ableF crowd stock loose) (spotsU stock.length) (by rw [spotsU_len]; omega) (fun s p h => (edge_U h).1) (by unfold ableF; rw [List.length_map]; omega) k (by rw [spotsU_len]; omega) _).mono ?_)
  rintro v_ q_ c_ ⟨zs, h1, rfl, rfl, rfl⟩
  simp! only [q_ss_c, f_ixl, f_ixt]
  exact ⟨zs, h1, rfl, rfl⟩
end
end Vi

namespace Vi
open PySem L2
local macro_rules
  | `(tactic| simp! only [$ls,*] $[$l:location]?) => `(tactic| simp only [q_e_var, q_e_non, q_e_bl, q_e_int, q_e_str, q_e_glo, q_e_bin, q_e_neg, q_e_cmp, q_e_cmp2, q_e_and, q_e_or, q_e_not, q_e_ite, q_e_tup, q_e_lst, q_e_dct, q_e_idx, q_e_slc, q_e_rev, q_e_call, q_e_bi, q_e_op, q_op_cons, q_e_isi, q_e_mut, q_e_comp, q_d_nil, q_d_cons, q_o_nil, q_o_cons, q_a_nil, q_a_var, q_oP_non, q_ob_non, q_al_non, q_am_non, q_af_non, q_oP_bl, q_ob_bl, q_al_bl, q_am_bl, q_af_bl, q_oP_int, q_ob_int, q_al_int, q_am_int, q_af_int, q_oP_str, q_ob_str, q_al_str, q_am_str, q_af_str, q_oP_glo, q_ob_glo, q_al_glo, q_am_glo, q_af_glo, q_oP_bin, q_ob_bin, q_al_bin, q_am_bin, q_af_bin, q_oP_neg, q_ob_neg, q_al_neg, q_am_neg, q_af_neg, q_oP_cmp, q_ob_cmp, q_al_cmp, q_am_cmp, q_af_cmp, q_oP_cmp2, q_ob_cmp2, q_al_cmp2, q_am_cmp2, q_af_cmp2, q_oP_and, q_ob_and, q_al_and, q_am_and, q_af_and, q_oP_or, q_ob_or, q_al_or, q_am_or, q_af_or, q_oP_not, q_ob_not, q_al_not, q_am_not, q_af_not, q_oP_ite, q_ob_ite, q_al_ite, q_am_ite, q_af_ite, q_oP_tup, q_ob_tup, q_al_tup, q_am_tup, q_af_tup, q_oP_lst, q_ob_lst, q_al_lst, q_am_lst, q_af_lst, q_oP_dct, q_ob_dct, q_al_dct, q_am_dct, q_af_dct, q_oP_idx, q_ob_idx, q_al_idx, q_am_idx, q_af_idx, q_oP_slc, q_ob_slc, q_al_slc, q_am_slc, q_af_slc, q_oP_rev, q_ob_rev, q_al_rev, q_am_rev, q_af_rev, q_oP_call, q_ob_call, q_al_call, q_am_call, q_af_call, q_oP_bi, q_ob_bi, q_al_bi, q_am_bi, q_af_bi, q_oP_isi, q_ob_isi, q_al_isi, q_am_isi, q_af_isi, q_oP_mut, q_ob_mut, q_al_mut, q_am_mut, q_af_mut, q_oP_op, q_ob_op, q_al_op, q_am_op, q_af_op, q_oP_comp, q_ob_comp, q_al_comp, q_am_comp, q_af_comp, q_c_nil, q_c_cons, q_s_lst, q_s_tup, q_s_range, q_s_enum, q_s_zip, q_s_items, q_s_keys, q_s_vals, q_t_ex, q_t_asg, q_t_asgP, q_t_asgT, q_t_aug, q_t_setI, q_t_setI2, q_t_whl, q_t_ifs, q_t_for, q_t_retv, q_tr_non, q_tr_bl, q_tr_int, q_tr_str, q_tr_glo, q_tr_bin, q_tr_neg, q_tr_cmp, q_tr_cmp2, q_tr_and, q_tr_or, q_tr_not, q_tr_ite, q_tr_tup, q_tr_lst, q_tr_dct, q_tr_idx, q_tr_slc, q_tr_rev, q_tr_call, q_tr_bi, q_tr_isi, q_tr_mut, q_tr_op, q_tr_comp, q_t_retN, q_t_brk, q_t_cont, q_t_pass, q_ss_n, P_bind, P_ok, lc_P, f_slcl, f_slcs, f_slct, part0, part1, P_boolOf, bk_b, P_d, br_t, br_f, sq_n, sq_r, sq_b, sq_c, rv_, rv_val, rv_lst, rv_dct, rt_, rt_val, rt_own, rt_io, op_, op_val, op_own, av_, av_val, av_own, rd_v, rd_, rd_sv, rd_sl, rd_sd, lo_v, lo_, lo_val, lo_own, lo_lk, or_n, or_a, or_d, au_i, au_ii, au_add, au_sub, pb_n, pb_v, pb_s, p1_oo, p1_ov, p1_v, rds_n, rds_c, sv_val, sv_own, ss_, ss_no, ss_val, ss_own, oa_, oa_own, dd_val, dd_lst, dd_dct, bo_ok, bin2_c, cmp2_c, idx2_c, neg1_c, rev1_c, svs_n, svs_c, sps_n, sps_i, sps_t, untup_c, unlst_c, unseq_l, unseq_t, sel_t, sel_f, undct_c, untwo_c, b_ok, b_no, l_some, l_none, frz_val, frz_lst, frz_dct, f_add, f_addl, f_addt, f_sub, f_mulL, f_mulR, f_fdiv, f_mod, f_pow, f_lt, f_le, f_gt, f_ge, f_eq, f_ne, f_eqb, f_eqT2, f_isn, f_isni, f_isnb, f_isnl, f_isnt, f_nisn, f_nisni, f_nisnl, f_nisnt, f_neb, f_isb, f_nisb, f_nenil, f_lenl, f_lent, f_abs, f_min, f_max, f_min3, f_max3, f_intb, f_int, f_listl, f_listt, f_tupl, f_tupt, f_set, isl_l, pre_lenSet, pre_sortSet, pre_inVals, pre_ninVals, pre_lr1, pre_lr2, pre_dictOf, pre_min1, pre_max1, rest_n, rest_c, rst_s, pre_repr, f_neshw, f_eqshw, pre_get1, pre_get2, f_lenSet, f_sortSet, f_get1, f_get2, f_get2b, f_inVals, f_ninVals, f_lr1, f_min1, f_max1, f_sort, f_sum, f_anyb, f_allb, f_meml, f_nmeml, f_memd, f_nmemd, f_ixd, f_lend, f_setd, f_dct0, f_ins, isl_d, f_app, f_mkT, f_mkL, sm64_of, ix0, ix1, ix2, ix3, ixm1, f_isi1, f_isi2, f_isi3, f_isi4, f_isi5, f_isi6, f_isi7, f_isi8, f_isi9, f_isi10, f_isi11, f_isi12, f_isi13, f_isi14, f_isi15, f_isi16, f_isi17, f_isi18, f_isi19, f_isi20, f_isi21, f_isi22, f_isi23, f_isi24, f_isi25, f_isi26, f_isi27, f_isi28, f_isi29, f_isi30, List.getElem?_cons_zero, List.getElem?_cons_succ, List.set_cons_zero, List.set_cons_succ, List.map_cons, List.map_nil, List.cons_append, List.nil_append, List.replicate, Option.bind_some, Option.map_some, List.length_cons, List.length_nil, inOf, outOf, C.toD, Cst.d, Nat.reduceAdd, Int.reduceNeg, Bool.not_true, Bool.not_false, decide_true, decide_false, List.isEmpty_nil, List.isEmpty_cons, Bool.and_true, Bool.true_and, if_true, if_false, true_and, and_true, Bool.false_eq_true, Int.reduceLT, Nat.reduceLT, Nat.reduceLeDiff, Int.reduceLE, Nat.zero_le, ne_eq, not_false_eq_true, not_true_eq_false, Int.reduceEq, Nat.reducePow, Int.reducePow, Int.reduceToNat, Int.cast_ofNat_Int, Int.reduceBEq, beq_self_eq_true, Int.reduceAdd, Int.reduceSub, Int.reduceMul, $ls,*] $[$l]?)
/-! ### the rows without a robe -/
def wsp (rows : Rows) (s : Int) : Rows := rows.map fun r => r.filter fun x => decide (¬ x = s)
theorem wsp_len {rows : Rows} {s : Int} : (wsp rows s).length = rows.length := by unfold wsp; rw [List.length_map]
theorem edge_wsp {rows : Rows} {s t p : Int} : edge (wsp rows s) t p ↔ edge rows t p ∧ t ≠ s := by
  unfold edge rowOf
  rw [wsp_len]
  unfold wsp
  rw [List.getElem?_map]
  cases e : rows[p.toNat]? with
  | none => simp
  | some r => simp [and_assoc]
theorem mat_wsp {rows : Rows} {s : Int} {N : Hs} : Mat (wsp rows s) N ↔ Mat rows N ∧ ∀ p, (s, p) ∉ N := by
  constructor
  · intro m
    exact ⟨⟨m.nd, fun t q h => (edge_wsp.mp (m.e t q h)).1, m.inj⟩, fun p h => (edge_wsp.mp (m.e s p h)).2 rfl⟩
  · rintro ⟨m, h⟩
    exact ⟨m.nd, fun t q z => edge_wsp.mpr ⟨m.e t q z, fun e => h q (e ▸ z)⟩, m.inj⟩
/-- fewer are robed without s -/
def Less (rows : Rows) (s : Int) : Prop := ∃ hs hs', Best rows hs ∧ Best (wsp rows s) hs' ∧ hs'.length < hs.length
noncomputable def lessB (rows : Rows) (s : Int) : Bool := @decide (Less rows s) (Classical.propDecidable _)
theorem lessB_iff {rows : Rows} {s : Int} : lessB rows s = true ↔ Less rows s := by
  unfold lessB
  exact @decide_eq_true_iff _ (Classical.propDecidable _)
theorem less_of {rows : Rows} {hs hs' : Hs} {s : Int} (b : Best rows hs) (b' : Best (wsp rows s) hs') : lessB rows s = decide (hs'.length < hs.length) := by
  by_cases h : hs'.length < hs.length
  · rw [decide_eq_true h]
    exact lessB_iff.mpr ⟨hs, hs', b, b', h⟩
  · rw [decide_eq_false h, ← Bool.not_eq_true, lessB_iff]
    rintro ⟨h1, h2, c, c', l⟩
    have := c.eq b
    have := c'.eq b'
    omega
theorem Less.key {rows : Rows} {hs : Hs} {s : Int} (h : Less rows s) (b : Best rows hs) : s ∈ hs.map (·.1) := by
  refine Classical.byContradiction fun n => ?_
  obtain ⟨h1, h2, c, c', l⟩ := h
  have := c'.mx hs (mat_wsp.mpr ⟨b.m, fun p z => n (List.mem_map.mpr ⟨(s, p), z, rfl⟩)⟩)
  have := c.eq b
  omega
theorem Less.edge {rows : Rows} {s : Int} (h : Less rows s) : ∃ p, edge rows s p := by
  obtain ⟨hs, hs', b, b', l⟩ := h
  have h : Less rows s := ⟨hs, hs', b, b', l⟩
  obtain ⟨⟨t, p⟩, hm, rfl⟩ := List.mem_map.mp (h.key b)
  exact ⟨p, b.m.e _ _ hm⟩
/-- the robes that are needed -/
def Need (rows : Rows) (l : List Int) : Prop := l.Pairwise (· < ·) ∧ ∀ s, s ∈ l ↔ Less rows s
theorem Need.eq {rows : Rows} {l l' : List Int} (h : Need rows l) (h' : Need rows l') : l = l' := rise_eq h.1 h'.1 fun s => (h.2 s).trans (h'.2 s).symm
theorem Told.ex {rows : Rows} {ms : Hs} (h : Told rows ms) : ∃ hs, Best rows hs ∧ hs.length = ms.length ∧ ∀ s p, (s, p) ∈ hs ↔ (p, s) ∈ ms := by
  obtain ⟨hs, b, p, w⟩ := h
  refine ⟨hs, b, ?_, fun s q => ?_⟩
  · have := p.length_eq
    rw [List.length_map] at this
    exact this.symm
  · rw [p.mem_iff, List.mem_map]
    constructor
    · exact fun h => ⟨(s, q), h, rfl⟩
    · rintro ⟨⟨a, b⟩, h, e⟩
      cases e
      exact h
theorem Told.nd2 {rows : Rows} {ms : Hs} (h : Told rows ms) : (ms.map (·.2)).Nodup := by
  obtain ⟨hs, b, p, w⟩ := h
  have := (p.map (·.2)).nodup_iff.mpr (by rw [List.map_map]; exact b.m.nd)
  exact this
theorem told_len {rows : Rows} {ms : Hs} (h : Told rows ms) : ms.length ≤ rows.length := by
  obtain ⟨hs, b, p, _⟩ := h
  have := p.length_eq
  rw [List.length_map] at this
  have := mat_len b.m
  omega
theorem Told.need {rows : Rows} {ms : Hs} (h : Told rows ms) : Need rows (sortI ((ms.filter fun q => lessB rows q.2).map (·.2))) := by
  refine ⟨sortI_pw ((h.nd2).sublist (List.Sublist.map _ List.filter_sublist)), fun s => ?_⟩
  obtain ⟨hs, b, e, m⟩ := h.ex
  rw [mem_sortI, List.mem_map]
  constructor
  · rintro ⟨⟨p, t⟩, h1, rfl⟩
    exact lessB_iff.mp (List.mem_filter.mp h1).2
  · intro l
    obtain ⟨⟨t, p⟩, hm, rfl⟩ := List.mem_map.mp (l.key b)
    exact ⟨(p, t), List.mem_filter.mpr ⟨(m _ _).mp hm, lessB_iff.mpr l⟩, rfl⟩
/-- .. found one by one -/
noncomputable def needL (rows : Rows) (n : Nat) : List Int := (spotsU n).filter (lessB rows)
theorem needL_succ {rows : Rows} {n : Nat} : needL rows (n + 1) = if lessB rows n = true then needL rows n ++ [(n : Int)] else needL rows n := by
  unfold needL
  rw [spotsU_succ, List.filter_append]
  by_cases h : lessB rows n = true
  · rw [if_pos h]
    simp [h]
  · rw [if_neg h]
    simp [h]
theorem needL_len {rows : Rows} {n : Nat} : (needL rows n).length ≤ n := by
  have := List.length_filter_le (lessB rows) (spotsU n)
  rwa [spotsU_len] at this
theorem needL_need {rows : Rows} {n : Nat} (hr : ∀ s p, edge rows s p → s ∈ spotsU n) : Need rows (needL rows n) := by
  refine ⟨(spotsU_pw _).sublist List.filter_sublist, fun s => ?_⟩
  unfold needL
  rw [List.mem_filter, lessB_iff]
  constructor
  · exact fun h => h.2
  · intro h
    obtain ⟨p, e⟩ := h.edge
    exact ⟨hr s p e, h⟩
/-! ### .. by the program -/
def withoutFn : Fn := ⟨2, 4, (.cons (.ret (.comp (.comp (.var 3) (.name 3) (.lst (.var 2)) (.cons (.cmp .ne (.var 3) (.var 1)) .nil) [3]) (.name 2) (.lst (.var 0)) .nil [2]))
    .nil)⟩
def sparFn (m w : Nat) : Fn := ⟨2, 3, (.cons (.asg 2 (.call m (.cons (.call w (.cons (.var 0) (.cons (.var 1) .nil)) [] .nil [.at 0, .at 1]) .nil) [] .nil [.at 0]))
    (.cons (.ifs (.cmp .lt (.bi .len (.cons (.var 2) .nil)) (.bi .len (.cons (.call m (.cons (.var 0) .nil) [] .nil [.at 0]) .nil))) (.cons (.ret .non)
    .nil) .nil)
    (.cons (.ret (.var 2))
    .nil)))⟩
def neededFn (a m p : Nat) : Fn := ⟨3, 6, (.cons (.asg 3 (.call a (.cons (.var 0) (.cons (.var 1) (.cons (.var 2) .nil))) [] .nil [.at 0, .at 1, .at 2]))
    (.cons (.ret (.bi .sorted (.cons (.comp (.var 5) (.tup [4, 5]) (.lst (.call m (.cons (.var 3) .nil) [] .nil [.at 0])) (.cons (.cmp .is (.call p (.cons (.var 3) (.cons (.var 5) .nil)) [] .nil [.at 0, .at 1]) .non) .nil) [4, 5]) .nil)))
    .nil))⟩
theorem filt_true {α : Type} (l : List α) : l.filter (fun _ => true) = l := List.filter_eq_self.mpr fun _ _ => rfl
theorem able_rows {crowd : List Int} {stock : List Robe} {loose : Int} {n : Nat} (h : stock.length ≤ n) : ∀ r ∈ ableF crowd stock loose, r.length ≤ n := fun r hm => by
  obtain ⟨c, _, rfl⟩ := List.mem_map.mp hm
  have := List.length_filter_le (fun p : Robe × Nat => fitsB p.1 c loose) stock.zipIdx
  rw [List.length_zipIdx] at this
  unfold rowF
  rw [List.length_map]
  omega
theorem addl_map {α : Type} {f : α → D} {a b : List α} (h : a.length + b.length ≤ 16777216) : binD .add (.lst (a.map f)) (.lst (b.map f)) = some (.own (.lst ((a ++ b).map f))) := by
  rw [List.map_append]
  exact f_addl (by rw [List.length_map, List.length_map]; exact h)
theorem cut_mid {α : Type} {xs : List α} {i j : Int} (h : 0 ≤ i) (hj : i ≤ j) : cutD xs (some i) (some j) = (xs.drop i.toNat).take (j.toNat - i.toNat) := by
  unfold cutD
  rw [show HT.sIx xs.length 0 (some i) = min i.toNat xs.length from if_neg (by omega), show HT.sIx xs.length xs.length (some j) = min j.toNat xs.length from if_neg (by omega)]
  by_cases q : i.toNat ≤ xs.length
  · rw [Nat.min_eq_left q]
    by_cases q2 : j.toNat ≤ xs.length
    · rw [Nat.min_eq_left q2]
    · rw [Nat.min_eq_right (by omega), List.take_of_length_le (by rw [List.length_drop]; omega), List.take_of_length_le (by rw [List.length_drop]; omega)]
  · rw [Nat.min_eq_right (by omega), List.drop_eq_nil_of_le (by omega), List.drop_eq_nil_of_le (by omega), List.take_nil, List.take_nil]
/-- where it is robed so: pairs, or None -/
def sparV (ms' ms : Hs) : Rv := if ms'.length < ms.length then .val .non else .own (.lst (ms'.map pairD))
section
variable {T : Nat → Option Fn} {n : Nat}
theorem without_Q {fw : Nat} (hf : T fw = some withoutFn) (rows : Rows) (s : Int) (cs : List C) (hl : rows.length ≤ 10000) (hr : ∀ r ∈ rows, r.length ≤ 10000) :
    (dCall T (n + 1) fw [.own (.lst (rowsL rows)), .val (.int s)] cs).Q fun v outs cs' => v = .own (.lst (rowsL (wsp rows s))) ∧ outs = [.own (.lst (rowsL rows)), .val (.int s)] ∧ cs' = cs := by
  refine call_Q hf rfl ?_
  simp only [withoutFn]
  simp! only [q_ss_c, f_ixl, f_ixt]
  refine lcX_P (wr := [.own true true (.lst (rowsL rows)), .val false (.int s), .no, .no]) rows (fun r => .lst (r.map .int)) (fun _ => true) (fun r => .lst ((r.filter fun x => decide (¬ x = s)).map .int)) rfl (by omega) rfl (fr1 rfl) rfl (fun r hm => ⟨[.own true true (.lst (rowsL rows)), .val false (.int s), .val false (.lst (r.map .int)), .no], rfl, ?_⟩) ?_
  · simp! only [q_ss_c, f_ixl, f_ixt]
    refine lcX_P (wr := [.own true true (.lst (rowsL rows)), .val false (.int s), .val false (.lst (r.map .int)), .no]) r D.int (fun x => decide (¬ x = s)) D.int rfl (by have := hr r hm; omega) rfl (fun j hj => nomatch hj) rfl (fun x hx => ⟨[.own true true (.lst (rowsL rows)), .val false (.int s), .val false (.lst (r.map .int)), .val false (.int x)], rfl, ?_⟩) ?_
    · simp! only [q_ss_c, f_ixl, f_ixt]
      by_cases h : x = s
      · subst h
        simp
        rfl
      · simp [h]
        rfl
    · simp! only [q_ss_c, f_ixl, f_ixt]
      rfl
  · rw [filt_true]
    simp! only [q_ss_c, f_ixl, f_ixt]
    have : rows.map (fun r => D.lst ((r.filter fun x => decide (¬ x = s)).map .int)) = rowsL (wsp rows s) := by
      unfold rowsL wsp
      rw [List.map_map]; rfl
    rw [this]
    exact ⟨rfl, rfl⟩
theorem sparing_Q {fs fw fm fh f : Nat} (hfs : T fs = some (sparFn fm fw)) (hfw : T fw = some withoutFn) (hfm : T fm = some (matchingFn fh)) (hfh : T fh = some (holdersFn f)) (hf : T f = some (placedFn f)) (rows : Rows) (s : Int) (U : List Int) (hU : U.length ≤ 10000) (hr : ∀ s p, edge rows s p → s ∈ U ∧ 0 ≤ s) (hrl : rows.length ≤ 63) (hrr : ∀ r ∈ rows, r.length ≤ 10000) (k : Nat) (hk : U.length < k) (cs : List C) :
    (dCall T (k + 3) fs [.own (.lst (rowsL rows)), .val (.int s)] cs).Q fun v outs cs' => ∃ ms' ms, Told (wsp rows s) ms' ∧ Told rows ms ∧ v = sparV ms' ms ∧ outs = [.own (.lst (rowsL rows)), .val (.int s)] ∧ cs' = cs := by
  refine call_Q hfs rfl ?_
  simp only [sparFn]
  simp! only [q_ss_c, f_ixl, f_ixt]
  refine do_P rfl rfl ((without_Q (n := k + 1) hfw rows s cs (by omega) hrr).mono ?_)
  rintro v_ q_ c_ ⟨rfl, rfl, rfl⟩
  simp! only [q_ss_c, f_ixl, f_ixt]
  refine do_P rfl rfl ((matching_Q hfm hfh hf (wsp rows s) U hU (fun t p h => hr t p (edge_wsp.mp h).1) (by rw [wsp_len]; exact hrl) (.inr rfl) k hk _).mono ?_)
  rintro v_ q_ c_ ⟨ms', t', rfl, rfl, rfl⟩
  simp! only [q_ss_c, f_ixl, f_ixt]
  refine do_P rfl rfl ((matching_Q hfm hfh hf rows U hU hr hrl (.inr rfl) k hk _).mono ?_)
  rintro v_ q_ c_ ⟨ms, t, rfl, rfl, rfl⟩
  simp! only [q_ss_c, f_ixl, f_ixt, List.length_map]
  refine P_br (fun h => ?_) (fun h => ?_)
  · simp! only [q_ss_c, f_ixl, f_ixt]
    refine ⟨ms', ms, t', t, ?_, rfl⟩
    unfold sparV
    rw [if_pos (by omega)]
  · simp! only [q_ss_c, f_ixl, f_ixt]
    refine ⟨ms', ms, t', t, ?_, rfl⟩
    unfold sparV
    rw [if_neg (by omega)]
theorem spar_is {rows : Rows} {s : Int} {ms ms' : Hs} (t' : Told (wsp rows s) ms') (t : Told rows ms) : lessB rows s = decide (ms'.length < ms.length) := by
  obtain ⟨hs, b, e, _⟩ := t.ex
  obtain ⟨hs', b', e', _⟩ := t'.ex
  rw [less_of b b', e, e']
theorem needed_Q {fn fa ff fs fw fm fh f : Nat} (hfn : T fn = some (neededFn fa fm fs)) (hfa : T fa = some (ableFn ff)) (hfs : T fs = some (sparFn fm fw)) (hfw : T fw = some withoutFn) (hfm : T fm = some (matchingFn fh)) (hfh : T fh = some (holdersFn f)) (hf : T f = some (placedFn f)) {k : Nat} (hF : FitsOk T (k + 2) ff)
    (crowd : List Int) (stock : List Robe) (loose : Int) (cs : List C) (hc : crowd.length ≤ 63) (hs : stock.length < k) (hs2 : stock.length ≤ 10000) :
    (dCall T (k + 4) fn [.val (crowdD crowd), .val (stockD stock), .val (.int loose)] cs).Q fun v outs cs' => ∃ l, Need (ableF crowd stock loose) l ∧ v = .own (.lst (l.map .int)) ∧ outs = [.val (crowdD crowd), .val (stockD stock), .val (.int loose)] ∧ cs' = cs := by
  refine call_Q hfn rfl ?_
  simp only [neededFn]
  simp! only [q_ss_c, f_ixl, f_ixt]
  refine do_P rfl rfl ((able_Q (n := k + 2) hfa hF crowd stock loose cs (by omega) hs2).mono ?_)
  rintro v_ q_ c_ ⟨rfl, rfl, rfl⟩
  simp! only [q_ss_c, f_ixl, f_ixt]
  have hal := able_len (crowd := crowd) (stock := stock) (loose := loose)
  have hed : ∀ s p, edge (ableF crowd stock loose) s p → s ∈ spotsU stock.length ∧ 0 ≤ s := fun s p h => edge_U h
  have hrr := able_rows (crowd := crowd) (loose := loose) hs2
  generalize ableF crowd stock loose = rows at hal hed hrr ⊢
  refine do_P rfl rfl ((matching_Q hfm hfh hf rows (spotsU stock.length) (by rw [spotsU_len]; omega) hed (by omega) (.inr rfl) (k + 1) (by rw [spotsU_len]; omega) c_).mono ?_)
  rintro v_ q_ c_ ⟨ms, t, rfl, rfl, rfl⟩
  simp! only [q_ss_c, f_ixl, f_ixt]
  have hml := told_len t
  refine lcX_P (wr := [.val false (crowdD crowd), .val false (stockD stock), .val false (.int loose), .own false false (.lst (rowsL rows)), .no, .no]) ms pairD (fun q => lessB rows q.2) (fun q => .int q.2) rfl (by omega) rfl (fun j hj => nomatch hj) rfl (fun q hq => ⟨[.val false (crowdD crowd), .val false (stockD stock), .val false (.int loose), .own false false (.lst (rowsL rows)), .val false (.int q.1), .val false (.int q.2)], rfl, ?_⟩) ?_
  · simp! only [q_ss_c, f_ixl, f_ixt]
    refine do_P rfl rfl ((sparing_Q hfs hfw hfm hfh hf rows q.2 (spotsU stock.length) (by rw [spotsU_len]; omega) hed (by omega) hrr k (by rw [spotsU_len]; omega) c_).mono ?_)
    rintro v_ q_ c_ ⟨ms2, ms1, t2, t1, rfl, rfl, rfl⟩
    have hb := spar_is t2 t1
    unfold sparV
    by_cases h : ms2.length < ms1.length
    · rw [if_pos h]
      simp! only [q_ss_c, f_ixl, f_ixt]
      rw [hb, decide_eq_true h, if_pos rfl]
      simp! only [q_ss_c, f_ixl, f_ixt]
      rfl
    · rw [if_neg h]
      simp! only [q_ss_c, f_ixl, f_ixt]
      rw [hb, decide_eq_false h, if_neg (by decide)]
      exact ⟨rfl, rfl⟩
  · have e : (ms.filter fun q => lessB rows q.2).map (fun q => D.int q.2) = ((ms.filter fun q => lessB rows q.2).map (·.2)).map .int := by rw [List.map_map]; rfl
    rw [e]
    simp! only [q_ss_c, f_ixl, f_ixt, f_sort]
    exact ⟨_, t.need, rfl, rfl⟩
end
end Vi

namespace Vi
open PySem L2
local macro_rules
  | `(tactic| simp! only [$ls,*] $[$l:location]?) => `(tactic| simp only [q_e_var, q_e_non, q_e_bl, q_e_int, q_e_str, q_e_glo, q_e_bin, q_e_neg, q_e_cmp, q_e_cmp2, q_e_and, q_e_or, q_e_not, q_e_ite, q_e_tup, q_e_lst, q_e_dct, q_e_idx, q_e_slc, q_e_rev, q_e_call, q_e_bi, q_e_op, q_op_cons, q_e_isi, q_e_mut, q_e_comp, q_d_nil, q_d_cons, q_o_nil, q_o_cons, q_a_nil, q_a_var, q_oP_non, q_ob_non, q_al_non, q_am_non, q_af_non, q_oP_bl, q_ob_bl, q_al_bl, q_am_bl, q_af_bl, q_oP_int, q_ob_int, q_al_int, q_am_int, q_af_int, q_oP_str, q_ob_str, q_al_str, q_am_str, q_af_str, q_oP_glo, q_ob_glo, q_al_glo, q_am_glo, q_af_glo, q_oP_bin, q_ob_bin, q_al_bin, q_am_bin, q_af_bin, q_oP_neg, q_ob_neg, q_al_neg, q_am_neg, q_af_neg, q_oP_cmp, q_ob_cmp, q_al_cmp, q_am_cmp, q_af_cmp, q_oP_cmp2, q_ob_cmp2, q_al_cmp2, q_am_cmp2, q_af_cmp2, q_oP_and, q_ob_and, q_al_and, q_am_and, q_af_and, q_oP_or, q_ob_or, q_al_or, q_am_or, q_af_or, q_oP_not, q_ob_not, q_al_not, q_am_not, q_af_not, q_oP_ite, q_ob_ite, q_al_ite, q_am_ite, q_af_ite, q_oP_tup, q_ob_tup, q_al_tup, q_am_tup, q_af_tup, q_oP_lst, q_ob_lst, q_al_lst, q_am_lst, q_af_lst, q_oP_dct, q_ob_dct, q_al_dct, q_am_dct, q_af_dct, q_oP_idx, q_ob_idx, q_al_idx, q_am_idx, q_af_idx, q_oP_slc, q_ob_slc, q_al_slc, q_am_slc, q_af_slc, q_oP_rev, q_ob_rev, q_al_rev, q_am_rev, q_af_rev, q_oP_call, q_ob_call, q_al_call, q_am_call, q_af_call, q_oP_bi, q_ob_bi, q_al_bi, q_am_bi, q_af_bi, q_oP_isi, q_ob_isi, q_al_isi, q_am_isi, q_af_isi, q_oP_mut, q_ob_mut, q_al_mut, q_am_mut, q_af_mut, q_oP_op, q_ob_op, q_al_op, q_am_op, q_af_op, q_oP_comp, q_ob_comp, q_al_comp, q_am_comp, q_af_comp, q_c_nil, q_c_cons, q_s_lst, q_s_tup, q_s_range, q_s_enum, q_s_zip, q_s_items, q_s_keys, q_s_vals, q_t_ex, q_t_asg, q_t_asgP, q_t_asgT, q_t_aug, q_t_setI, q_t_setI2, q_t_whl, q_t_ifs, q_t_for, q_t_retv, q_tr_non, q_tr_bl, q_tr_int, q_tr_str, q_tr_glo, q_tr_bin, q_tr_neg, q_tr_cmp, q_tr_cmp2, q_tr_and, q_tr_or, q_tr_not, q_tr_ite, q_tr_tup, q_tr_lst, q_tr_dct, q_tr_idx, q_tr_slc, q_tr_rev, q_tr_call, q_tr_bi, q_tr_isi, q_tr_mut, q_tr_op, q_tr_comp, q_t_retN, q_t_brk, q_t_cont, q_t_pass, q_ss_n, P_bind, P_ok, lc_P, f_slcl, f_slcs, f_slct, part0, part1, P_boolOf, bk_b, P_d, br_t, br_f, sq_n, sq_r, sq_b, sq_c, rv_, rv_val, rv_lst, rv_dct, rt_, rt_val, rt_own, rt_io, op_, op_val, op_own, av_, av_val, av_own, rd_v, rd_, rd_sv, rd_sl, rd_sd, lo_v, lo_, lo_val, lo_own, lo_lk, or_n, or_a, or_d, au_i, au_ii, au_add, au_sub, pb_n, pb_v, pb_s, p1_oo, p1_ov, p1_v, rds_n, rds_c, sv_val, sv_own, ss_, ss_no, ss_val, ss_own, oa_, oa_own, dd_val, dd_lst, dd_dct, bo_ok, bin2_c, cmp2_c, idx2_c, neg1_c, rev1_c, svs_n, svs_c, sps_n, sps_i, sps_t, untup_c, unlst_c, unseq_l, unseq_t, sel_t, sel_f, undct_c, untwo_c, b_ok, b_no, l_some, l_none, frz_val, frz_lst, frz_dct, f_add, f_addl, f_addt, f_sub, f_mulL, f_mulR, f_fdiv, f_mod, f_pow, f_lt, f_le, f_gt, f_ge, f_eq, f_ne, f_eqb, f_eqT2, f_isn, f_isni, f_isnb, f_isnl, f_isnt, f_nisn, f_nisni, f_nisnl, f_nisnt, f_neb, f_isb, f_nisb, f_nenil, f_lenl, f_lent, f_abs, f_min, f_max, f_min3, f_max3, f_intb, f_int, f_listl, f_listt, f_tupl, f_tupt, f_set, isl_l, pre_lenSet, pre_sortSet, pre_inVals, pre_ninVals, pre_lr1, pre_lr2, pre_dictOf, pre_min1, pre_max1, rest_n, rest_c, rst_s, pre_repr, f_neshw, f_eqshw, pre_get1, pre_get2, f_lenSet, f_sortSet, f_get1, f_get2, f_get2b, f_inVals, f_ninVals, f_lr1, f_min1, f_max1, f_sort, f_sum, f_anyb, f_allb, f_meml, f_nmeml, f_memd, f_nmemd, f_ixd, f_lend, f_setd, f_dct0, f_ins, isl_d, f_app, f_mkT, f_mkL, sm64_of, ix0, ix1, ix2, ix3, ixm1, f_isi1, f_isi2, f_isi3, f_isi4, f_isi5, f_isi6, f_isi7, f_isi8, f_isi9, f_isi10, f_isi11, f_isi12, f_isi13, f_isi14, f_isi15, f_isi16, f_isi17, f_isi18, f_isi19, f_isi20, f_isi21, f_isi22, f_isi23, f_isi24, f_isi25, f_isi26, f_isi27, f_isi28, f_isi29, f_isi30, List.getElem?_cons_zero, List.getElem?_cons_succ, List.set_cons_zero, List.set_cons_succ, List.map_cons, List.map_nil, List.cons_append, List.nil_append, List.replicate, Option.bind_some, Option.map_some, List.length_cons, List.length_nil, inOf, outOf, C.toD, Cst.d, Nat.reduceAdd, Int.reduceNeg, Bool.not_true, Bool.not_false, decide_true, decide_false, List.isEmpty_nil, List.isEmpty_cons, Bool.and_true, Bool.true_and, if_true, if_false, true_and, and_true, Bool.false_eq_true, Int.reduceLT, Nat.reduceLT, Nat.reduceLeDiff, Int.reduceLE, Nat.zero_le, ne_eq, not_false_eq_true, not_true_eq_false, Int.reduceEq, Nat.reducePow, Int.reducePow, Int.reduceToNat, Int.cast_ofNat_Int, Int.reduceBEq, beq_self_eq_true, Int.reduceAdd, Int.reduceSub, Int.reduceMul, $ls,*] $[$l]?)
/-! ### lookers at robings and lots -/
theorem rok_tup {n : Nat} {ds : List D} (h : (D.tup ds).rok (n + 1) = true) : ∀ x ∈ ds, x.rok n = true := by
  rw [D.rok] at h
  induction ds with
  | nil => exact fun x hx => nomatch hx
  | cons d ds ih =>
    rw [D.roks, Bool.and_eq_true] at h
    intro x hx
    rcases List.mem_cons.mp hx with rfl | hx
    · exact h.1
    · exact ih h.2 x hx
theorem rok_lst {n : Nat} {ds : List D} (h : (D.lst ds).rok (n + 1) = true) : ∀ x ∈ ds, x.rok n = true := by
  rw [D.rok] at h
  exact rok_tup (n := n) (by rw [D.rok]; exact h)
def wholeB (d : D) (lo hi : Int) : Bool := match d with
  | .int i => decide (lo ≤ i) && decide (i ≤ hi)
  | _ => false
def pairI? (m n : Int) (d : D) : Option (Int × Int) := match d with
  | .tup [.int a, .int b] => if 0 ≤ a ∧ a < m ∧ 0 ≤ b ∧ b < n then some (a, b) else none
  | _ => none
def pairs? (m n : Int) : List D → Option Hs
  | [] => some []
  | d :: ds => match pairI? m n d with
    | some p => (pairs? m n ds).map (p :: ·)
    | none => none
theorem pairI_some {m n : Int} {d : D} {q : Int × Int} (h : pairI? m n d = some q) : d = pairD q ∧ 0 ≤ q.1 ∧ q.1 < m ∧ 0 ≤ q.2 ∧ q.2 < n := by
  unfold pairI? at h
  split at h
  · split at h
    · rename_i hh
      cases h
      exact ⟨rfl, hh⟩
    · cases h
  · cases h
theorem pairs_all {m n : Int} : ∀ {ds : List D}, (ds.all fun d => (pairI? m n d).isSome) = (pairs? m n ds).isSome
  | [] => rfl
  | d :: ds => by
    rw [List.all_cons, pairs_all (ds := ds), pairs?]
    cases pairI? m n d with
    | none => rfl
    | some p => cases pairs? m n ds <;> rfl
theorem pairs_some {m n : Int} : ∀ {ds : List D} {ps : Hs}, pairs? m n ds = some ps → ds = ps.map pairD ∧ ∀ q ∈ ps, 0 ≤ q.1 ∧ q.1 < m ∧ 0 ≤ q.2 ∧ q.2 < n
  | [], ps, h => by cases h; exact ⟨rfl, fun q z => nomatch z⟩
  | d :: ds, ps, h => by
    rw [pairs?] at h
    cases e : pairI? m n d with
    | none => rw [e] at h; cases h
    | some p =>
      rw [e] at h
      cases e2 : pairs? m n ds with
      | none => rw [e2] at h; cases h
      | some qs =>
        rw [e2] at h
        cases h
        obtain ⟨a, b⟩ := pairs_some e2
        obtain ⟨c, d⟩ := pairI_some e
        refine ⟨by rw [c, a]; rfl, fun q hq => ?_⟩
        rcases List.mem_cons.mp hq with rfl | hq
        · exact d
        · exact b q hq
def fitQ (crowd : List Int) (stock : List Robe) (loose : Int) (q : Int × Int) : Bool := match crowd[q.1.toNat]?, stock[q.2.toNat]? with
  | some one, some g => fitsB g one loose
  | _, _ => false
def goodB (crowd : List Int) (stock : List Robe) (loose : Int) (ps : Hs) : Bool := decide ((ps.map (·.1)).Pairwise (· < ·)) && decide (ps.map (·.2)).Nodup && ps.all (fitQ crowd stock loose)
def robB (crowd : List Int) (stock : List Robe) (loose : Int) (d : D) : Bool := match d with
  | .lst ds => match pairs? crowd.length stock.length ds with
    | some ps => goodB crowd stock loose ps
    | none => false
  | _ => false
/-! rising -/
theorem rise_zip : ∀ ns : List Int, ((ns.zip (ns.drop 1)).all fun q => decide (q.1 < q.2)) = decide (ns.Pairwise (· < ·))
  | [] => rfl
  | [a] => by simp
  | a :: b :: l => by
    have ih := rise_zip (b :: l)
    show (decide (a < b) && (((b :: l).zip ((b :: l).drop 1)).all fun q => decide (q.1 < q.2))) = _
    rw [ih]
    by_cases h : a < b
    · rw [decide_eq_true h, Bool.true_and]
      congr 1
      apply propext
      constructor
      · intro p
        refine List.pairwise_cons.mpr ⟨fun x hx => ?_, p⟩
        rcases List.mem_cons.mp hx with rfl | hx
        · exact h
        · have := (List.pairwise_cons.mp p).1 x hx
          omega
      · exact fun p => (List.pairwise_cons.mp p).2
    · rw [decide_eq_false h, Bool.false_and]
      symm
      exact decide_eq_false fun p => h ((List.pairwise_cons.mp p).1 b List.mem_cons_self)
theorem ded_acc_len : ∀ (ns acc : List Int), acc.length ≤ (ns.foldl (fun a k => if a.contains k then a else a ++ [k]) acc).length ∧ (ns.foldl (fun a k => if a.contains k then a else a ++ [k]) acc).length ≤ acc.length + ns.length
  | [], acc => ⟨Nat.le_refl _, Nat.le_refl _⟩
  | i :: ns, acc => by
    rw [List.foldl_cons]
    split
    · have := ded_acc_len ns acc
      rw [List.length_cons]
      omega
    · have := ded_acc_len ns (acc ++ [i])
      rw [List.length_append, List.length_singleton] at this
      rw [List.length_cons]
      omega
theorem ded_acc_nd : ∀ (ns acc : List Int), acc.Nodup → (ns.foldl (fun a k => if a.contains k then a else a ++ [k]) acc).length = acc.length + ns.length → (acc ++ ns).Nodup
  | [], acc, h, _ => by rwa [List.append_nil]
  | i :: ns, acc, h, e => by
    rw [List.foldl_cons] at e
    split at e
    · have := (ded_acc_len ns acc).2
      rw [List.length_cons] at e
      omega
    · rename_i hc
      have hi : i ∉ acc := fun z => hc (List.contains_iff_mem.mpr z)
      have := ded_acc_nd ns (acc ++ [i]) (nodup_snoc h hi) (by rw [e, List.length_append, List.length_cons, List.length_singleton]; omega)
      simpa using this
theorem ded_lt {ns : List Int} : decide ((dedI ns).length < ns.length) = !decide ns.Nodup := by
  by_cases h : ns.Nodup
  · rw [decide_eq_true h, ded_nodup h]
    exact decide_eq_false (Nat.lt_irrefl _)
  · rw [decide_eq_false h]
    refine decide_eq_true ?_
    have h1 := (ded_acc_len ns []).2
    have h2 : (dedI ns).length ≠ ns.length := fun e => h (by
      have := ded_acc_nd ns [] List.nodup_nil (by rw [List.length_nil, Nat.zero_add]; exact e)
      simpa using this)
    rw [List.length_nil, Nat.zero_add] at h1
    have h3 : (dedI ns).length ≤ ns.length := h1
    omega
theorem ded_mem {x : Int} : ∀ {ns acc : List Int}, x ∈ ns.foldl (fun a k => if a.contains k then a else a ++ [k]) acc ↔ x ∈ acc ∨ x ∈ ns
  | [], acc => by simp
  | i :: ns, acc => by
    rw [List.foldl_cons, ded_mem]
    split
    · rename_i h
      have h := List.contains_iff_mem.mp h
      rw [List.mem_cons]
      constructor
      · rintro (a | a)
        · exact .inl a
        · exact .inr (.inr a)
      · rintro (a | rfl | a)
        · exact .inl a
        · exact .inl h
        · exact .inr a
    · rw [List.mem_append, List.mem_singleton, List.mem_cons, or_assoc]
theorem ded_nd : ∀ {ns acc : List Int}, acc.Nodup → (ns.foldl (fun a k => if a.contains k then a else a ++ [k]) acc).Nodup
  | [], acc, h => h
  | i :: ns, acc, h => by
    rw [List.foldl_cons]
    split
    · exact ded_nd h
    · rename_i hc
      exact ded_nd (nodup_snoc h fun z => hc (List.contains_iff_mem.mpr z))
theorem sortded_eq {ns : List Int} : decide (ns = sortI (dedI ns)) = decide (ns.Pairwise (· < ·)) := by
  by_cases h : ns.Pairwise (· < ·)
  · rw [decide_eq_true h, ded_nodup (rise_nodup h), sortI_rise h]
    exact decide_eq_true rfl
  · rw [decide_eq_false h]
    refine decide_eq_false fun e => h ?_
    rw [e]
    exact sortI_pw (ded_nd List.nodup_nil)
/-! ### the program's -/
def isWholeFn : Fn := ⟨3, 3, (.cons (.ret (.and (.isi .int (.var 0)) (.and (.not (.isi .bool (.var 0))) (.cmp2 .le .le (.var 1) (.var 0) (.var 2)))))
    .nil)⟩
def isPairFn (w : Nat) : Fn := ⟨3, 3, (.cons (.ifs (.or (.not (.isi .tuple (.var 0))) (.cmp .ne (.bi .len (.cons (.var 0) .nil)) (.int 2))) (.cons (.ret (.bl false))
    .nil) .nil)
    (.cons (.ret (.and (.call w (.cons (.idx (.var 0) (.int 0)) (.cons (.int 0) (.cons (.bin .sub (.var 1) (.int 1)) .nil))) [] .nil [.at 0, .at 1, .at 2]) (.call w (.cons (.idx (.var 0) (.int 1)) (.cons (.int 0) (.cons (.bin .sub (.var 2) (.int 1)) .nil))) [] .nil [.at 0, .at 1, .at 2])))
    .nil))⟩
def risingFn : Fn := ⟨1, 3, (.cons (.ret (.bi .all (.cons (.comp (.cmp .lt (.var 1) (.var 2)) (.tup [1, 2]) (.zip (.var 0) (.slc (.var 0) (.cons (.int 1) .nil) .nil)) .nil [1, 2]) .nil)))
    .nil)⟩
theorem pairI_len {m1 m2 : Int} {ds : List D} (h : ds.length ≠ 2) : pairI? m1 m2 (.tup ds) = none := by
  match ds, h with
  | [], _ => rfl
  | [a], _ => cases a <;> rfl
  | [a, b], h => exact absurd rfl h
  | a :: b :: c :: l, _ => cases a <;> cases b <;> rfl
theorem pairI_two {m1 m2 : Int} {a b : D} : (pairI? m1 m2 (.tup [a, b])).isSome = (wholeB a 0 (m1 - 1) && wholeB b 0 (m2 - 1)) := by
  cases a <;> first
    | (cases b <;> rfl; done)
    | skip
  cases b <;> first
    | (simp [pairI?, wholeB]; done)
    | skip
  rename_i i j
  show (if 0 ≤ i ∧ i < m1 ∧ 0 ≤ j ∧ j < m2 then some (i, j) else none).isSome = ((decide (0 ≤ i) && decide (i ≤ m1 - 1)) && (decide (0 ≤ j) && decide (j ≤ m2 - 1)))
  by_cases h : 0 ≤ i ∧ i < m1 ∧ 0 ≤ j ∧ j < m2
  · rw [if_pos h, decide_eq_true h.1, decide_eq_true h.2.2.1, decide_eq_true (by omega), decide_eq_true (by omega)]; rfl
  · rw [if_neg h]
    symm
    rw [Option.isSome_none, ← Bool.not_eq_true]
    intro z
    simp only [Bool.and_eq_true, decide_eq_true_eq] at z
    omega
section
variable {T : Nat → Option Fn} {n : Nat}
theorem isWhole_Q {f : Nat} (hf : T f = some isWholeFn) {d : D} {m : Nat} (hd : d.rok m = true) {lo hi : Int} {cs : List C} : (dCall T (n + 1) f [.val d, .val (.int lo), .val (.int hi)] cs).Q fun v outs cs' => v = .val (.bl (wholeB d lo hi)) ∧ outs = [.val d, .val (.int lo), .val (.int hi)] ∧ cs' = cs := by
  refine call_Q hf rfl ?_
  simp only [isWholeFn]
  obtain ⟨k, rfl⟩ := rok_succ hd
  cases d <;> first
    | (simp [D.rok] at hd; done)
    | skip
  all_goals
    simp! only [q_ss_c, f_ixl, f_ixt, br_and, br_or]
    first | rfl | exact ⟨rfl, rfl⟩
theorem isPair_Q {f w : Nat} (hf : T f = some (isPairFn w)) (hw : T w = some isWholeFn) {d : D} {k : Nat} (hd : d.rok (k + 1) = true) {m1 m2 : Int} {cs : List C} : (dCall T (n + 2) f [.val d, .val (.int m1), .val (.int m2)] cs).Q fun v outs cs' => v = .val (.bl (pairI? m1 m2 d).isSome) ∧ outs = [.val d, .val (.int m1), .val (.int m2)] ∧ cs' = cs := by
  refine call_Q hf rfl ?_
  simp only [isPairFn]
  cases d <;> first
    | (simp [D.rok] at hd; done)
    | skip
  case tup ds =>
    have hm := rok_tup hd
    simp! only [q_ss_c, f_ixl, f_ixt]
    refine P_br (fun h => ?_) (fun h => ?_)
    · simp! only [q_ss_c, f_ixl, f_ixt]
      rw [pairI_len (fun e => h (by rw [e]; rfl))]
      first | rfl | exact ⟨rfl, rfl⟩
    · have hl : ds.length = 2 := by omega
      match ds, hl, hm with
      | [a, b], hl, hm =>
        have ha := hm a List.mem_cons_self
        have hb := hm b (List.mem_cons_of_mem _ List.mem_cons_self)
        rw [pairI_two]
        simp! only [q_ss_c, f_ixl, f_ixt, ix0, ix1]
        refine do_P rfl rfl ((isWhole_Q hw ha).mono ?_)
        rintro v_ q_ c_ ⟨rfl, rfl, rfl⟩
        simp! only [q_ss_c, f_ixl, f_ixt, ix0, ix1]
        refine P_brB (fun h1 => ?_) (fun h1 => ?_)
        · refine do_P rfl rfl ((isWhole_Q hw hb).mono ?_)
          rintro v_ q_ c_ ⟨rfl, rfl, rfl⟩
          rw [h1]
          simp! only [q_ss_c, f_ixl, f_ixt]
          first | rfl | exact ⟨rfl, rfl⟩
        · rw [h1]
          simp! only [q_ss_c, f_ixl, f_ixt]
          first | rfl | exact ⟨rfl, rfl⟩
  all_goals
    simp! only [q_ss_c, f_ixl, f_ixt]
    first | rfl | exact ⟨rfl, rfl⟩
theorem zip_ints (ns : List Int) : zipD (ns.map .int) ((ns.drop 1).map .int) = (ns.zip (ns.drop 1)).map pairD := by
  unfold zipD
  rw [List.zip_map, List.map_map]; rfl
theorem rising_Q {f : Nat} (hf : T f = some risingFn) (ns : List Int) (hl : ns.length ≤ 16777216) (cs : List C) : (dCall T (n + 1) f [.own (.lst (ns.map .int))] cs).Q fun v outs cs' => v = .val (.bl (decide (ns.Pairwise (· < ·)))) ∧ outs = [.own (.lst (ns.map .int))] ∧ cs' = cs := by
  refine call_Q hf rfl ?_
  simp only [risingFn]
  have e1 : cutD (ns.map D.int) (some 1) none = (ns.drop 1).map .int := by
    rw [cut_from (by decide), List.map_drop]; rfl
  simp! only [q_ss_c, f_ixl, f_ixt, e1, zip_ints]
  refine lcX_P (wr := [.own true true (.lst (ns.map .int)), .no, .no]) (ns.zip (ns.drop 1)) pairD (fun _ => true) (fun q => .bl (decide (q.1 < q.2))) rfl (by rw [List.length_zip, List.length_drop]; omega) rfl (fr1 rfl) rfl (fun q hq => ⟨[.own true true (.lst (ns.map .int)), .val false (.int q.1), .val false (.int q.2)], rfl, ?_⟩) ?_
  · simp! only [q_ss_c, f_ixl, f_ixt]
    first | rfl | exact ⟨rfl, rfl⟩
  · rw [filt_true]
    have e2 : (ns.zip (ns.drop 1)).map (fun q => D.bl (decide (q.1 < q.2))) = ((ns.zip (ns.drop 1)).map fun q => decide (q.1 < q.2)).map .bl := by rw [List.map_map]; rfl
    have e3 : ((ns.zip (ns.drop 1)).map fun q => decide (q.1 < q.2)).all id = decide (ns.Pairwise (· < ·)) := by
      rw [← rise_zip, List.all_map]; rfl
    rw [e2]
    simp! only [q_ss_c, f_ixl, f_ixt, f_allb, e3]
    rfl
/-! a robing, looked at -/
def letsRobFn (p r f : Nat) : Fn := ⟨4, 8, (.cons (.ifs (.or (.not (.isi .list (.var 2))) (.not (.bi .all (.cons (.comp (.call p (.cons (.var 7) (.cons (.bi .len (.cons (.var 0) .nil)) (.cons (.bi .len (.cons (.var 1) .nil)) .nil))) [] .nil [.at 0, .at 1, .at 2]) (.name 7) (.lst (.var 2)) .nil [7]) .nil)))) (.cons (.ret (.bl false))
    .nil) .nil)
    (.cons (.asg 4 (.comp (.var 5) (.tup [5, 6]) (.lst (.var 2)) .nil [5, 6]))
    (.cons (.ifs (.or (.not (.call r (.cons (.var 4) .nil) [] .nil [.at 0])) (.cmp .lt (.op .lenSet (.cons (.comp (.var 6) (.tup [5, 6]) (.lst (.var 2)) .nil [5, 6]) .nil)) (.bi .len (.cons (.var 2) .nil)))) (.cons (.ret (.bl false))
    .nil) .nil)
    (.cons (.ret (.bi .all (.cons (.comp (.call f (.cons (.idx (.var 1) (.var 6)) (.cons (.idx (.var 0) (.var 5)) (.cons (.var 3) .nil))) [] .nil [.at 0, .at 1, .at 2]) (.tup [5, 6]) (.lst (.var 2)) .nil [5, 6]) .nil)))
    .nil))))⟩
theorem all_bl {α : Type} {l : List α} {f : α → Bool} : biD .all [.lst (l.map fun x => D.bl (f x))] = some (.val (.bl (l.all f))) := by
  have e : l.map (fun x => D.bl (f x)) = (l.map f).map .bl := by rw [List.map_map]; rfl
  rw [e, f_allb, List.all_map]; rfl
theorem any_bl {α : Type} {l : List α} {f : α → Bool} : biD .any [.lst (l.map fun x => D.bl (f x))] = some (.val (.bl (l.any f))) := by
  have e : l.map (fun x => D.bl (f x)) = (l.map f).map .bl := by rw [List.map_map]; rfl
  rw [e, f_anyb, List.any_map]; rfl
theorem map_id' {α : Type} (l : List α) : l.map (fun x => x) = l := List.map_id l
theorem rsn (b c : Bool) : (!(b && c)) = (!b || !c) := by cases b <;> cases c <;> rfl
theorem robB_none {crowd : List Int} {stock : List Robe} {loose : Int} {ds : List D} (e : pairs? crowd.length stock.length ds = none) : robB crowd stock loose (.lst ds) = false := by
  unfold robB
  dsimp only
  rw [e]
theorem robB_some {crowd : List Int} {stock : List Robe} {loose : Int} {ds : List D} {ps : Hs} (e : pairs? crowd.length stock.length ds = some ps) : robB crowd stock loose (.lst ds) = goodB crowd stock loose ps := by
  unfold robB
  dsimp only
  rw [e]
theorem letsRobV_Q {fl fp fr ff fw : Nat} (hfl : T fl = some (letsRobFn fp fr ff)) (hfp : T fp = some (isPairFn fw)) (hfw : T fw = some isWholeFn) (hfr : T fr = some risingFn) (hF : FitsOk T (n + 2) ff) (crowd : List Int) (stock : List Robe) (loose : Int) (ds : List D) (hd : (D.lst ds).rok 50 = true) (hl : ds.length ≤ 4000) (cs : List C) :
    (dCall T (n + 3) fl [.val (crowdD crowd), .val (stockD stock), .val (.lst ds), .val (.int loose)] cs).Q fun v outs cs' => v = .val (.bl (robB crowd stock loose (.lst ds))) ∧ outs = [.val (crowdD crowd), .val (stockD stock), .val (.lst ds), .val (.int loose)] ∧ cs' = cs := by
  refine call_Q hfl rfl ?_
  simp only [letsRobFn]
  simp! only [q_ss_c, f_ixl, f_ixt]
  refine lcX_P (wr := [.val false (crowdD crowd), .val false (stockD stock), .val false (.lst ds), .val false (.int loose), .no, .no, .no, .no]) ds (fun d => d) (fun _ => true) (fun d => .bl (pairI? crowd.length stock.length d).isSome) (map_id' _).symm (by omega) rfl (fun j hj => nomatch hj) rfl (fun d hm => ⟨[.val false (crowdD crowd), .val false (stockD stock), .val false (.lst ds), .val false (.int loose), .no, .no, .no, .val false d], rfl, ?_⟩) ?_
  · simp! only [q_ss_c, f_ixl, f_ixt]
    refine do_P rfl rfl ((isPair_Q (n := n) hfp hfw (rok_lst hd d hm)).mono ?_)
    rintro v_ q_ c_ ⟨rfl, rfl, rfl⟩
    rw [List.length_map, List.length_map]
    simp! only [q_ss_c, f_ixl, f_ixt]
    first | rfl | exact ⟨rfl, rfl⟩
  · rw [filt_true]
    simp! only [q_ss_c, f_ixl, f_ixt, all_bl, pairs_all]
    cases e : pairs? crowd.length stock.length ds with
    | none =>
      simp! only [q_ss_c, f_ixl, f_ixt, Option.isSome_none]
      rw [robB_none e]
      exact ⟨rfl, rfl⟩
    | some ps =>
      have hrb := robB_some (loose := loose) e
      obtain ⟨rfl, hp⟩ := pairs_some e
      rw [List.length_map] at hl
      rw [hrb]
      simp! only [q_ss_c, f_ixl, f_ixt, Option.isSome_some]
      refine lcX_P (wr := [.val false (crowdD crowd), .val false (stockD stock), .val false (.lst (ps.map pairD)), .val false (.int loose), .no, .no, .no, .no]) ps pairD (fun _ => true) (fun q => .int q.1) rfl (by omega) rfl (fun j hj => nomatch hj) rfl (fun q hm => ⟨[.val false (crowdD crowd), .val false (stockD stock), .val false (.lst (ps.map pairD)), .val false (.int loose), .no, .val false (.int q.1), .val false (.int q.2), .no], rfl, ?_⟩) ?_
      · simp! only [q_ss_c, f_ixl, f_ixt]
        first | rfl | exact ⟨rfl, rfl⟩
      · have e5 : ps.map (fun q => D.int q.1) = (ps.map (·.1)).map .int := by rw [List.map_map]; rfl
        have e6 : ps.map (fun q => D.int q.2) = (ps.map (·.2)).map .int := by rw [List.map_map]; rfl
        rw [filt_true, e5]
        simp! only [q_ss_c, f_ixl, f_ixt]
        refine do_P rfl rfl ((rising_Q (n := n + 1) hfr (ps.map (·.1)) (by rw [List.length_map]; omega) cs).mono ?_)
        rintro v_ q_ c_ ⟨rfl, rfl, rfl⟩
        simp! only [q_ss_c, f_ixl, f_ixt]
        by_cases hr : (ps.map (·.1)).Pairwise (· < ·)
        · rw [decide_eq_true hr]
          simp! only [q_ss_c, f_ixl, f_ixt]
          refine lcX_P (wr := [.val false (crowdD crowd), .val false (stockD stock), .val false (.lst (ps.map pairD)), .val false (.int loose), .own false false (.lst ((ps.map (·.1)).map .int)), .no, .no, .no]) ps pairD (fun _ => true) (fun q => .int q.2) rfl (by omega) rfl (fun j hj => nomatch hj) rfl (fun q hm => ⟨[.val false (crowdD crowd), .val false (stockD stock), .val false (.lst (ps.map pairD)), .val false (.int loose), .own false false (.lst ((ps.map (·.1)).map .int)), .val false (.int q.1), .val false (.int q.2), .no], rfl, ?_⟩) ?_
          · simp! only [q_ss_c, f_ixl, f_ixt]
            first | rfl | exact ⟨rfl, rfl⟩
          · have hl2 : (ps.map (·.2)).length ≤ 4000 := by rw [List.length_map]; omega
            have hdl : decide (((dedI (ps.map (·.2))).length : Int) < (((ps.map pairD).length : Nat) : Int)) = !decide (ps.map (·.2)).Nodup := by
              rw [← ded_lt, List.length_map, List.length_map]
              by_cases z : (dedI (ps.map (·.2))).length < ps.length
              · rw [decide_eq_true z, decide_eq_true (by omega)]
              · rw [decide_eq_false z, decide_eq_false (by omega)]
            rw [filt_true, e6]
            simp! only [q_ss_c, f_ixl, f_ixt, f_lenSet hl2, hdl]
            by_cases hn : (ps.map (·.2)).Nodup
            · rw [decide_eq_true hn]
              simp! only [q_ss_c, f_ixl, f_ixt]
              refine lcX_P (wr := [.val false (crowdD crowd), .val false (stockD stock), .val false (.lst (ps.map pairD)), .val false (.int loose), .own false false (.lst ((ps.map (·.1)).map .int)), .no, .no, .no]) ps pairD (fun _ => true) (fun q => .bl (fitQ crowd stock loose q)) rfl (by omega) rfl (fun j hj => nomatch hj) rfl (fun q hm => ⟨[.val false (crowdD crowd), .val false (stockD stock), .val false (.lst (ps.map pairD)), .val false (.int loose), .own false false (.lst ((ps.map (·.1)).map .int)), .val false (.int q.1), .val false (.int q.2), .no], rfl, ?_⟩) ?_
              · obtain ⟨q0, q1, q2, q3⟩ := hp q hm
                obtain ⟨one, i1⟩ : ∃ one, crowd[q.1.toNat]? = some one := ⟨_, List.getElem?_eq_getElem (by omega)⟩
                obtain ⟨g, i2⟩ : ∃ g, stock[q.2.toNat]? = some g := ⟨_, List.getElem?_eq_getElem (by omega)⟩
                have j1 : idxD (crowdD crowd) (.int q.1) = some (.int one) := ix_l q0 (by rw [List.length_map]; omega) (by rw [List.getElem?_map, i1]; rfl)
                have j2 : idxD (stockD stock) (.int q.2) = some (robeD g) := ix_l q2 (by rw [List.length_map]; omega) (by rw [List.getElem?_map, i2]; rfl)
                have hfq : fitQ crowd stock loose q = fitsB g one loose := by
                  unfold fitQ
                  rw [i1, i2]
                simp! only [q_ss_c, f_ixl, f_ixt, j1, j2]
                refine do_P rfl rfl ((hF g one loose _).mono ?_)
                rintro v_ q_ c_ ⟨rfl, rfl, rfl⟩
                rw [hfq]
                simp! only [q_ss_c, f_ixl, f_ixt]
                first | rfl | exact ⟨rfl, rfl⟩
              · have hg : goodB crowd stock loose ps = ps.all (fitQ crowd stock loose) := by
                  unfold goodB
                  rw [decide_eq_true hr, decide_eq_true hn]; rfl
                rw [filt_true, hg]
                simp! only [q_ss_c, f_ixl, f_ixt, all_bl]
                first | rfl | exact ⟨rfl, rfl⟩
            · have hg : goodB crowd stock loose ps = false := by
                unfold goodB
                rw [decide_eq_false hn, Bool.and_false]; rfl
              rw [decide_eq_false hn, hg]
              simp! only [q_ss_c, f_ixl, f_ixt]
              first | rfl | exact ⟨rfl, rfl⟩
        · have hg : goodB crowd stock loose ps = false := by
            unfold goodB
            rw [decide_eq_false hr]; rfl
          rw [decide_eq_false hr, hg]
          simp! only [q_ss_c, f_ixl, f_ixt]
          first | rfl | exact ⟨rfl, rfl⟩
theorem letsRobO_Q {fl fp fr ff fw : Nat} (hfl : T fl = some (letsRobFn fp fr ff)) (hfp : T fp = some (isPairFn fw)) (hfw : T fw = some isWholeFn) (hfr : T fr = some risingFn) (hF : FitsOk T (n + 2) ff) (crowd : List Int) (stock : List Robe) (loose : Int) (ds : List D) (hd : (D.lst ds).rok 50 = true) (hl : ds.length ≤ 4000) (cs : List C) :
    (dCall T (n + 3) fl [.val (crowdD crowd), .val (stockD stock), .own (.lst ds), .val (.int loose)] cs).Q fun v outs cs' => v = .val (.bl (robB crowd stock loose (.lst ds))) ∧ outs = [.val (crowdD crowd), .val (stockD stock), .own (.lst ds), .val (.int loose)] ∧ cs' = cs := by
  refine call_Q hfl rfl ?_
  simp only [letsRobFn]
  simp! only [q_ss_c, f_ixl, f_ixt]
  refine lcX_P (wr := [.val false (crowdD crowd), .val false (stockD stock), .own true true (.lst ds), .val false (.int loose), .no, .no, .no, .no]) ds (fun d => d) (fun _ => true) (fun d => .bl (pairI? crowd.length stock.length d).isSome) (map_id' _).symm (by omega) rfl (fr1 rfl) rfl (fun d hm => ⟨[.val false (crowdD crowd), .val false (stockD stock), .own true true (.lst ds), .val false (.int loose), .no, .no, .no, .val false d], rfl, ?_⟩) ?_
  · simp! only [q_ss_c, f_ixl, f_ixt]
    refine do_P rfl rfl ((isPair_Q (n := n) hfp hfw (rok_lst hd d hm)).mono ?_)
    rintro v_ q_ c_ ⟨rfl, rfl, rfl⟩
    rw [List.length_map, List.length_map]
    simp! only [q_ss_c, f_ixl, f_ixt]
    first | rfl | exact ⟨rfl, rfl⟩
  · rw [filt_true]
    simp! only [q_ss_c, f_ixl, f_ixt, all_bl, pairs_all]
    cases e : pairs? crowd.length stock.length ds with
    | none =>
      simp! only [q_ss_c, f_ixl, f_ixt, Option.isSome_none]
      rw [robB_none e]
      exact ⟨rfl, rfl⟩
    | some ps =>
      have hrb := robB_some (loose := loose) e
      obtain ⟨rfl, hp⟩ := pairs_some e
      rw [List.length_map] at hl
      rw [hrb]
      simp! only [q_ss_c, f_ixl, f_ixt, Option.isSome_some]
      refine lcX_P (wr := [.val false (crowdD crowd), .val false (stockD stock), .own true true (.lst (ps.map pairD)), .val false (.int loose), .no, .no, .no, .no]) ps pairD (fun _ => true) (fun q => .int q.1) rfl (by omega) rfl (fr1 rfl) rfl (fun q hm => ⟨[.val false (crowdD crowd), .val false (stockD stock), .own true true (.lst (ps.map pairD)), .val false (.int loose), .no, .val false (.int q.1), .val false (.int q.2), .no], rfl, ?_⟩) ?_
      · simp! only [q_ss_c, f_ixl, f_ixt]
        first | rfl | exact ⟨rfl, rfl⟩
      · have e5 : ps.map (fun q => D.int q.1) = (ps.map (·.1)).map .int := by rw [List.map_map]; rfl
        have e6 : ps.map (fun q => D.int q.2) = (ps.map (·.2)).map .int := by rw [List.map_map]; rfl
        rw [filt_true, e5]
        simp! only [q_ss_c, f_ixl, f_ixt]
        refine do_P rfl rfl ((rising_Q (n := n + 1) hfr (ps.map (·.1)) (by rw [List.length_map]; omega) cs).mono ?_)
        rintro v_ q_ c_ ⟨rfl, rfl, rfl⟩
        simp! only [q_ss_c, f_ixl, f_ixt]
        by_cases hr : (ps.map (·.1)).Pairwise (· < ·)
        · rw [decide_eq_true hr]
          simp! only [q_ss_c, f_ixl, f_ixt]
          refine lcX_P (wr := [.val false (crowdD crowd), .val false (stockD stock), .own true true (.lst (ps.map pairD)), .val false (.int loose), .own false false (.lst ((ps.map (·.1)).map .int)), .no, .no, .no]) ps pairD (fun _ => true) (fun q => .int q.2) rfl (by omega) rfl (fr1 rfl) rfl (fun q hm => ⟨[.val false (crowdD crowd), .val false (stockD stock), .own true true (.lst (ps.map pairD)), .val false (.int loose), .own false false (.lst ((ps.map (·.1)).map .int)), .val false (.int q.1), .val false (.int q.2), .no], rfl, ?_⟩) ?_
          · simp! only [q_ss_c, f_ixl, f_ixt]
            first | rfl | exact ⟨rfl, rfl⟩
          · have hl2 : (ps.map (·.2)).length ≤ 4000 := by rw [List.length_map]; omega
            have hdl : decide (((dedI (ps.map (·.2))).length : Int) < (((ps.map pairD).length : Nat) : Int)) = !decide (ps.map (·.2)).Nodup := by
              rw [← ded_lt, List.length_map, List.length_map]
              by_cases z : (dedI (ps.map (·.2))).length < ps.length
              · rw [decide_eq_true z, decide_eq_true (by omega)]
              · rw [decide_eq_false z, decide_eq_false (by omega)]
            rw [filt_true, e6]
            simp! only [q_ss_c, f_ixl, f_ixt, f_lenSet hl2, hdl]
            by_cases hn : (ps.map (·.2)).Nodup
            · rw [decide_eq_true hn]
              simp! only [q_ss_c, f_ixl, f_ixt]
              refine lcX_P (wr := [.val false (crowdD crowd), .val false (stockD stock), .own true true (.lst (ps.map pairD)), .val false (.int loose), .own false false (.lst ((ps.map (·.1)).map .int)), .no, .no, .no]) ps pairD (fun _ => true) (fun q => .bl (fitQ crowd stock loose q)) rfl (by omega) rfl (fr1 rfl) rfl (fun q hm => ⟨[.val false (crowdD crowd), .val false (stockD stock), .own true true (.lst (ps.map pairD)), .val false (.int loose), .own false false (.lst ((ps.map (·.1)).map .int)), .val false (.int q.1), .val false (.int q.2), .no], rfl, ?_⟩) ?_
              · obtain ⟨q0, q1, q2, q3⟩ := hp q hm
                obtain ⟨one, i1⟩ : ∃ one, crowd[q.1.toNat]? = some one := ⟨_, List.getElem?_eq_getElem (by omega)⟩
                obtain ⟨g, i2⟩ : ∃ g, stock[q.2.toNat]? = some g := ⟨_, List.getElem?_eq_getElem (by omega)⟩
                have j1 : idxD (crowdD crowd) (.int q.1) = some (.int one) := ix_l q0 (by rw [List.length_map]; omega) (by rw [List.getElem?_map, i1]; rfl)
                have j2 : idxD (stockD stock) (.int q.2) = some (robeD g) := ix_l q2 (by rw [List.length_map]; omega) (by rw [List.getElem?_map, i2]; rfl)
                have hfq : fitQ crowd stock loose q = fitsB g one loose := by
                  unfold fitQ
                  rw [i1, i2]
                simp! only [q_ss_c, f_ixl, f_ixt, j1, j2]
                refine do_P rfl rfl ((hF g one loose _).mono ?_)
                rintro v_ q_ c_ ⟨rfl, rfl, rfl⟩
                rw [hfq]
                simp! only [q_ss_c, f_ixl, f_ixt]
                first | rfl | exact ⟨rfl, rfl⟩
              · have hg : goodB crowd stock loose ps = ps.all (fitQ crowd stock loose) := by
                  unfold goodB
                  rw [decide_eq_true hr, decide_eq_true hn]; rfl
                rw [filt_true, hg]
                simp! only [q_ss_c, f_ixl, f_ixt, all_bl]
                first | rfl | exact ⟨rfl, rfl⟩
            · have hg : goodB crowd stock loose ps = false := by
                unfold goodB
                rw [decide_eq_false hn, Bool.and_false]; rfl
              rw [decide_eq_false hn, hg]
              simp! only [q_ss_c, f_ixl, f_ixt]
              first | rfl | exact ⟨rfl, rfl⟩
        · have hg : goodB crowd stock loose ps = false := by
            unfold goodB
            rw [decide_eq_false hr]; rfl
          rw [decide_eq_false hr, hg]
          simp! only [q_ss_c, f_ixl, f_ixt]
          first | rfl | exact ⟨rfl, rfl⟩
/-! a lot, looked at -/
def isLotFn (w r : Nat) : Fn := ⟨2, 3, (.cons (.ifs (.or (.not (.isi .list (.var 0))) (.not (.bi .all (.cons (.comp (.call w (.cons (.var 2) (.cons (.int 0) (.cons (.bin .sub (.var 1) (.int 1)) .nil))) [] .nil [.at 0, .at 1, .at 2]) (.name 2) (.lst (.var 0)) .nil [2]) .nil)))) (.cons (.ret (.bl false))
    .nil) .nil)
    (.cons (.ret (.call r (.cons (.var 0) .nil) [] .nil [.at 0]))
    .nil))⟩
def letsLotFn (l f : Nat) : Fn := ⟨5, 8, (.cons (.ifs (.not (.call l (.cons (.var 2) (.cons (.bi .len (.cons (.var 0) .nil)) .nil)) [] .nil [.at 0, .at 1])) (.cons (.ret (.bl false))
    .nil) .nil)
    (.cons (.asg 5 (.comp (.var 6) (.name 6) (.lst (.var 1)) (.cons (.bi .any (.cons (.comp (.call f (.cons (.var 6) (.cons (.idx (.var 0) (.var 7)) (.cons (.var 4) .nil))) [] .nil [.at 0, .at 1, .at 2]) (.name 7) (.lst (.var 2)) .nil [7]) .nil)) .nil) [6]))
    (.cons (.ret (.cmp .le (.bin .add (.bin .sub (.bi .len (.cons (.var 0) .nil)) (.bi .len (.cons (.var 2) .nil))) (.bi .len (.cons (.var 5) .nil))) (.var 3)))
    .nil)))⟩
end
def wholes? (m : Int) : List D → Option (List Int)
  | [] => some []
  | .int i :: ds => if 0 ≤ i ∧ i < m then (wholes? m ds).map (i :: ·) else none
  | _ :: _ => none
theorem wholes_all {m : Int} : ∀ {ds : List D}, (ds.all fun d => wholeB d 0 (m - 1)) = (wholes? m ds).isSome
  | [] => rfl
  | d :: ds => by
    rw [List.all_cons, wholes_all (ds := ds)]
    cases d <;> first
      | rfl
      | skip
    rename_i i
    rw [wholes?]
    show ((decide (0 ≤ i) && decide (i ≤ m - 1)) && _) = _
    by_cases h : 0 ≤ i ∧ i < m
    · rw [if_pos h, decide_eq_true h.1, decide_eq_true (by omega)]
      cases wholes? m ds <;> rfl
    · rw [if_neg h, Option.isSome_none]
      rw [← Bool.not_eq_true]
      intro z
      simp only [Bool.and_eq_true, decide_eq_true_eq] at z
      omega
theorem wholes_some {m : Int} : ∀ {ds : List D} {ns : List Int}, wholes? m ds = some ns → ds = ns.map .int ∧ ∀ i ∈ ns, 0 ≤ i ∧ i < m
  | [], ns, h => by cases h; exact ⟨rfl, fun q z => nomatch z⟩
  | d :: ds, ns, h => by
    cases d <;> first
      | (simp [wholes?] at h; done)
      | skip
    rename_i i
    rw [wholes?] at h
    split at h
    · rename_i hi
      cases e : wholes? m ds with
      | none => rw [e] at h; cases h
      | some ks =>
        rw [e] at h
        cases h
        obtain ⟨a, b⟩ := wholes_some e
        refine ⟨by rw [a]; rfl, fun q hq => ?_⟩
        rcases List.mem_cons.mp hq with rfl | hq
        · exact hi
        · exact b q hq
    · cases h
def lot? (m : Int) (d : D) : Option (List Int) := match d with
  | .lst ds => match wholes? m ds with
    | some ns => if ns.Pairwise (· < ·) then some ns else none
    | none => none
  | _ => none
def fitP (crowd : List Int) (loose : Int) (g : Robe) (p : Int) : Bool := match crowd[p.toNat]? with
  | some one => fitsB g one loose
  | none => false
def nearL (crowd : List Int) (stock : List Robe) (loose : Int) (ns : List Int) : List Robe := stock.filter fun g => ns.any (fitP crowd loose g)
def lotB (crowd : List Int) (stock : List Robe) (loose many : Int) (d : D) : Bool := match lot? crowd.length d with
  | some ns => decide ((crowd.length : Int) - ns.length + (nearL crowd stock loose ns).length ≤ many)
  | none => false
section
variable {T : Nat → Option Fn} {n : Nat}
theorem lot_none {m : Int} {ds : List D} (e : wholes? m ds = none) : lot? m (.lst ds) = none := by
  unfold lot?
  dsimp only
  rw [e]
theorem lot_some {m : Int} {ds : List D} {ns : List Int} (e : wholes? m ds = some ns) : lot? m (.lst ds) = if ns.Pairwise (· < ·) then some ns else none := by
  unfold lot?
  dsimp only
  rw [e]
theorem risingV_Q {f : Nat} (hf : T f = some risingFn) (ns : List Int) (hl : ns.length ≤ 16777216) (cs : List C) : (dCall T (n + 1) f [.val (.lst (ns.map .int))] cs).Q fun v outs cs' => v = .val (.bl (decide (ns.Pairwise (· < ·)))) ∧ outs = [.val (.lst (ns.map .int))] ∧ cs' = cs := by
  refine call_Q hf rfl ?_
  simp only [risingFn]
  have e1 : cutD (ns.map D.int) (some 1) none = (ns.drop 1).map .int := by
    rw [cut_from (by decide), List.map_drop]; rfl
  simp! only [q_ss_c, f_ixl, f_ixt, e1, zip_ints]
  refine lcX_P (wr := [.val false (.lst (ns.map .int)), .no, .no]) (ns.zip (ns.drop 1)) pairD (fun _ => true) (fun q => .bl (decide (q.1 < q.2))) rfl (by rw [List.length_zip, List.length_drop]; omega) rfl (fun j hj => nomatch hj) rfl (fun q hq => ⟨[.val false (.lst (ns.map .int)), .val false (.int q.1), .val false (.int q.2)], rfl, ?_⟩) ?_
  · simp! only [q_ss_c, f_ixl, f_ixt]
    first | rfl | exact ⟨rfl, rfl⟩
  · have e3 : (ns.zip (ns.drop 1)).all (fun q => decide (q.1 < q.2)) = decide (ns.Pairwise (· < ·)) := rise_zip ns
    rw [filt_true]
    simp! only [q_ss_c, f_ixl, f_ixt, all_bl, e3]
    rfl
theorem isLotV_Q {f w r : Nat} (hf : T f = some (isLotFn w r)) (hw : T w = some isWholeFn) (hr : T r = some risingFn) (m : Int) (ds : List D) (hd : (D.lst ds).rok 50 = true) (hl : ds.length ≤ 16777216) (cs : List C) :
    (dCall T (n + 2) f [.val (.lst ds), .val (.int m)] cs).Q fun v outs cs' => v = .val (.bl (lot? m (.lst ds)).isSome) ∧ outs = [.val (.lst ds), .val (.int m)] ∧ cs' = cs := by
  refine call_Q hf rfl ?_
  simp only [isLotFn]
  simp! only [q_ss_c, f_ixl, f_ixt]
  refine lcX_P (wr := [.val false (.lst ds), .val false (.int m), .no]) ds (fun d => d) (fun _ => true) (fun d => .bl (wholeB d 0 (m - 1))) (map_id' _).symm (by omega) rfl (fun j hj => nomatch hj) rfl (fun d hm => ⟨[.val false (.lst ds), .val false (.int m), .val false d], rfl, ?_⟩) ?_
  · simp! only [q_ss_c, f_ixl, f_ixt]
    refine do_P rfl rfl ((isWhole_Q (n := n) hw (rok_lst hd d hm)).mono ?_)
    rintro v_ q_ c_ ⟨rfl, rfl, rfl⟩
    simp! only [q_ss_c, f_ixl, f_ixt]
    first | rfl | exact ⟨rfl, rfl⟩
  · rw [filt_true]
    simp! only [q_ss_c, f_ixl, f_ixt, all_bl, wholes_all]
    cases e : wholes? m ds with
    | none =>
      simp! only [q_ss_c, f_ixl, f_ixt, Option.isSome_none]
      rw [lot_none e]
      exact ⟨rfl, rfl⟩
    | some ns =>
      have hrb := lot_some e
      obtain ⟨rfl, hp⟩ := wholes_some e
      rw [List.length_map] at hl
      rw [hrb]
      simp! only [q_ss_c, f_ixl, f_ixt, Option.isSome_some]
      refine do_P rfl rfl ((risingV_Q (n := n) hr ns hl cs).mono ?_)
      rintro v_ q_ c_ ⟨rfl, rfl, rfl⟩
      simp! only [q_ss_c, f_ixl, f_ixt]
      by_cases h : ns.Pairwise (· < ·)
      · rw [if_pos h, decide_eq_true h]; exact ⟨rfl, rfl⟩
      · rw [if_neg h, decide_eq_false h]; exact ⟨rfl, rfl⟩
theorem letsLotV_Q {f l w r ff : Nat} (hf : T f = some (letsLotFn l ff)) (hl : T l = some (isLotFn w r)) (hw : T w = some isWholeFn) (hr : T r = some risingFn) (hF : FitsOk T (n + 2) ff) (crowd : List Int) (stock : List Robe) (many loose : Int) (ds : List D) (hd : (D.lst ds).rok 50 = true) (hdl : ds.length ≤ 10000) (hsl : stock.length ≤ 10000) (cs : List C) :
    (dCall T (n + 3) f [.val (crowdD crowd), .val (stockD stock), .val (.lst ds), .val (.int many), .val (.int loose)] cs).Q fun v outs cs' => v = .val (.bl (lotB crowd stock loose many (.lst ds))) ∧ outs = [.val (crowdD crowd), .val (stockD stock), .val (.lst ds), .val (.int many), .val (.int loose)] ∧ cs' = cs := by
  refine call_Q hf rfl ?_
  simp only [letsLotFn]
  simp! only [q_ss_c, f_ixl, f_ixt]
  refine do_P rfl rfl ((isLotV_Q (n := n) hl hw hr _ ds hd (by omega) cs).mono ?_)
  rintro v_ q_ c_ ⟨rfl, rfl, rfl⟩
  have ec : (((crowd.map D.int).length : Nat) : Int) = (crowd.length : Int) := by rw [List.length_map]
  rw [ec]
  unfold lotB
  cases e : lot? (crowd.length : Int) (.lst ds) with
  | none =>
    simp! only [q_ss_c, f_ixl, f_ixt, Option.isSome_none]
    first | rfl | exact ⟨rfl, rfl⟩
  | some ns =>
    have e2 : wholes? crowd.length ds = some ns ∧ ns.Pairwise (· < ·) := by
      cases z : wholes? (crowd.length : Int) ds with
      | none => rw [lot_none z] at e; cases e
      | some ks =>
        rw [lot_some z] at e
        split at e
        · cases e; exact ⟨rfl, by assumption⟩
        · cases e
    obtain ⟨rfl, hp⟩ := wholes_some e2.1
    rw [List.length_map] at hdl
    simp! only [q_ss_c, f_ixl, f_ixt, Option.isSome_some]
    refine lcX_P (wr := [.val false (crowdD crowd), .val false (stockD stock), .val false (.lst (ns.map .int)), .val false (.int many), .val false (.int loose), .no, .no, .no]) stock robeD (fun g => ns.any (fitP crowd loose g)) robeD rfl (by omega) rfl (fun j hj => nomatch hj) rfl (fun g hm => ⟨[.val false (crowdD crowd), .val false (stockD stock), .val false (.lst (ns.map .int)), .val false (.int many), .val false (.int loose), .no, .val false (robeD g), .no], rfl, ?_⟩) ?_
    · simp! only [q_ss_c, f_ixl, f_ixt]
      refine lcX_P (wr := [.val false (crowdD crowd), .val false (stockD stock), .val false (.lst (ns.map .int)), .val false (.int many), .val false (.int loose), .no, .val false (robeD g), .no]) ns D.int (fun _ => true) (fun p => .bl (fitP crowd loose g p)) rfl (by omega) rfl (fun j hj => nomatch hj) rfl (fun p hm => ⟨[.val false (crowdD crowd), .val false (stockD stock), .val false (.lst (ns.map .int)), .val false (.int many), .val false (.int loose), .no, .val false (robeD g), .val false (.int p)], rfl, ?_⟩) ?_
      · obtain ⟨q0, q1⟩ := hp p hm
        obtain ⟨one, i1⟩ : ∃ one, crowd[p.toNat]? = some one := ⟨_, List.getElem?_eq_getElem (by omega)⟩
        have j1 : idxD (crowdD crowd) (.int p) = some (.int one) := ix_l q0 (by rw [List.length_map]; omega) (by rw [List.getElem?_map, i1]; rfl)
        have hfq : fitP crowd loose g p = fitsB g one loose := by
          unfold fitP
          rw [i1]
        simp! only [q_ss_c, f_ixl, f_ixt, j1]
        refine do_P rfl rfl ((hF g one loose _).mono ?_)
        rintro v_ q_ c_ ⟨rfl, rfl, rfl⟩
        rw [hfq]
        simp! only [q_ss_c, f_ixl, f_ixt]
        first | rfl | exact ⟨rfl, rfl⟩
      · rw [filt_true]
        simp! only [q_ss_c, f_ixl, f_ixt, any_bl]
        by_cases hk : ns.any (fitP crowd loose g) = true
        · rw [if_pos hk]
          first | rfl | exact ⟨rfl, rfl⟩
        · rw [if_neg hk]
          first | rfl | exact ⟨rfl, rfl⟩
    · simp! only [q_ss_c, f_ixl, f_ixt, List.length_map]
      first | rfl | exact ⟨rfl, rfl⟩
theorem isLotO_Q {f w r : Nat} (hf : T f = some (isLotFn w r)) (hw : T w = some isWholeFn) (hr : T r = some risingFn) (m : Int) (ds : List D) (hd : (D.lst ds).rok 50 = true) (hl : ds.length ≤ 16777216) (cs : List C) :
    (dCall T (n + 2) f [.own (.lst ds), .val (.int m)] cs).Q fun v outs cs' => v = .val (.bl (lot? m (.lst ds)).isSome) ∧ outs = [.own (.lst ds), .val (.int m)] ∧ cs' = cs := by
  refine call_Q hf rfl ?_
  simp only [isLotFn]
  simp! only [q_ss_c, f_ixl, f_ixt]
  refine lcX_P (wr := [.own true true (.lst ds), .val false (.int m), .no]) ds (fun d => d) (fun _ => true) (fun d => .bl (wholeB d 0 (m - 1))) (map_id' _).symm (by omega) rfl (fr1 rfl) rfl (fun d hm => ⟨[.own true true (.lst ds), .val false (.int m), .val false d], rfl, ?_⟩) ?_
  · simp! only [q_ss_c, f_ixl, f_ixt]
    refine do_P rfl rfl ((isWhole_Q (n := n) hw (rok_lst hd d hm)).mono ?_)
    rintro v_ q_ c_ ⟨rfl, rfl, rfl⟩
    simp! only [q_ss_c, f_ixl, f_ixt]
    first | rfl | exact ⟨rfl, rfl⟩
  · rw [filt_true]
    simp! only [q_ss_c, f_ixl, f_ixt, all_bl, wholes_all]
    cases e : wholes? m ds with
    | none =>
      simp! only [q_ss_c, f_ixl, f_ixt, Option.isSome_none]
      rw [lot_none e]
      exact ⟨rfl, rfl⟩
    | some ns =>
      have hrb := lot_some e
      obtain ⟨rfl, hp⟩ := wholes_some e
      rw [List.length_map] at hl
      rw [hrb]
      simp! only [q_ss_c, f_ixl, f_ixt, Option.isSome_some]
      refine do_P rfl rfl ((rising_Q (n := n) hr ns hl cs).mono ?_)
      rintro v_ q_ c_ ⟨rfl, rfl, rfl⟩
      simp! only [q_ss_c, f_ixl, f_ixt]
      by_cases h : ns.Pairwise (· < ·)
      · rw [if_pos h, decide_eq_true h]; exact ⟨rfl, rfl⟩
      · rw [if_neg h, decide_eq_false h]; exact ⟨rfl, rfl⟩
theorem letsLotO_Q {f l w r ff : Nat} (hf : T f = some (letsLotFn l ff)) (hl : T l = some (isLotFn w r)) (hw : T w = some isWholeFn) (hr : T r = some risingFn) (hF : FitsOk T (n + 2) ff) (crowd : List Int) (stock : List Robe) (many loose : Int) (ds : List D) (hd : (D.lst ds).rok 50 = true) (hdl : ds.length ≤ 10000) (hsl : stock.length ≤ 10000) (cs : List C) :
    (dCall T (n + 3) f [.val (crowdD crowd), .val (stockD stock), .own (.lst ds), .val (.int many), .val (.int loose)] cs).Q fun v outs cs' => v = .val (.bl (lotB crowd stock loose many (.lst ds))) ∧ outs = [.val (crowdD crowd), .val (stockD stock), .own (.lst ds), .val (.int many), .val (.int loose)] ∧ cs' = cs := by
  refine call_Q hf rfl ?_
  simp only [letsLotFn]
  simp! only [q_ss_c, f_ixl, f_ixt]
  refine do_P rfl rfl ((isLotO_Q (n := n) hl hw hr _ ds hd (by omega) cs).mono ?_)
  rintro v_ q_ c_ ⟨rfl, rfl, rfl⟩
  have ec : (((crowd.map D.int).length : Nat) : Int) = (crowd.length : Int) := by rw [List.length_map]
  rw [ec]
  unfold lotB
  cases e : lot? (crowd.length : Int) (.lst ds) with
  | none =>
    simp! only [q_ss_c, f_ixl, f_ixt, Option.isSome_none]
    first | rfl | exact ⟨rfl, rfl⟩
  | some ns =>
    have e2 : wholes? crowd.length ds = some ns ∧ ns.Pairwise (· < ·) := by
      cases z : wholes? (crowd.length : Int) ds with
      | none => rw [lot_none z] at e; cases e
      | some ks =>
        rw [lot_some z] at e
        split at e
        · cases e; exact ⟨rfl, by assumption⟩
        · cases e
    obtain ⟨rfl, hp⟩ := wholes_some e2.1
    rw [List.length_map] at hdl
    simp! only [q_ss_c, f_ixl, f_ixt, Option.isSome_some]
    refine lcX_P (wr := [.val false (crowdD crowd), .val false (stockD stock), .own true false (.lst (ns.map .int)), .val false (.int many), .val false (.int loose), .no, .no, .no]) stock robeD (fun g => ns.any (fitP crowd loose g)) robeD rfl (by omega) rfl (fun j hj => nomatch hj) rfl (fun g hm => ⟨[.val false (crowdD crowd), .val false (stockD stock), .own true false (.lst (ns.map .int)), .val false (.int many), .val false (.int loose), .no, .val false (robeD g), .no], rfl, ?_⟩) ?_
    · simp! only [q_ss_c, f_ixl, f_ixt]
      refine lcX_P (wr := [.val false (crowdD crowd), .val false (stockD stock), .own true true (.lst (ns.map .int)), .val false (.int many), .val false (.int loose), .no, .val false (robeD g), .no]) ns D.int (fun _ => true) (fun p => .bl (fitP crowd loose g p)) rfl (by omega) rfl (fr1 rfl) rfl (fun p hm => ⟨[.val false (crowdD crowd), .val false (stockD stock), .own true true (.lst (ns.map .int)), .val false (.int many), .val false (.int loose), .no, .val false (robeD g), .val false (.int p)], rfl, ?_⟩) ?_
      · obtain ⟨q0, q1⟩ := hp p hm
        obtain ⟨one, i1⟩ : ∃ one, crowd[p.toNat]? = some one := ⟨_, List.getElem?_eq_getElem (by omega)⟩
        have j1 : idxD (crowdD crowd) (.int p) = some (.int one) := ix_l q0 (by rw [List.length_map]; omega) (by rw [List.getElem?_map, i1]; rfl)
        have hfq : fitP crowd loose g p = fitsB g one loose := by
          unfold fitP
          rw [i1]
        simp! only [q_ss_c, f_ixl, f_ixt, j1]
        refine do_P rfl rfl ((hF g one loose _).mono ?_)
        rintro v_ q_ c_ ⟨rfl, rfl, rfl⟩
        rw [hfq]
        simp! only [q_ss_c, f_ixl, f_ixt]
        first | rfl | exact ⟨rfl, rfl⟩
      · rw [filt_true]
        simp! only [q_ss_c, f_ixl, f_ixt, any_bl]
        by_cases hk : ns.any (fitP crowd loose g) = true
        · rw [if_pos hk]
          first | rfl | exact ⟨rfl, rfl⟩
        · rw [if_neg hk]
          first | rfl | exact ⟨rfl, rfl⟩
    · simp! only [q_ss_c, f_ixl, f_ixt, List.length_map]
      first | rfl | exact ⟨rfl, rfl⟩
theorem best_ex (rows : Rows) : ∃ hs, Best rows hs := by
  refine Classical.byContradiction fun h => ?_
  have : ∀ n, ∃ hs, Mat rows hs ∧ n ≤ hs.length := fun n => by
    induction n with
    | zero => exact ⟨[], mat_nil, Nat.zero_le _⟩
    | succ n ih =>
      obtain ⟨hs, m, hl⟩ := ih
      refine Classical.byContradiction fun h2 => h ⟨hs, m, fun N mN => ?_⟩
      exact Nat.le_of_not_lt fun hlt => h2 ⟨N, mN, by omega⟩
  obtain ⟨hs, m, hl⟩ := this (rows.length + 1)
  have := mat_len m
  omega
/-- what the short ones show -/
theorem Short.shows {crowd : List Int} {stock : List Robe} {loose : Int} {zs : List Int} {ms : Hs} (z : Short (ableF crowd stock loose) zs) (t : Told (ableF crowd stock loose) ms) (many : Int) : lotB crowd stock loose many (.lst (zs.map .int)) = decide ((ms.length : Int) ≤ many) := by
  obtain ⟨w, hs, L⟩ := z
  have hb : ∀ i ∈ zs, 0 ≤ i ∧ i < crowd.length := fun i hi => by
    have := L.out i hi
    rw [able_len] at this
    exact ⟨this.1, this.2.1⟩
  have e1 : wholes? crowd.length (zs.map .int) = some zs := by
    clear w L
    induction zs with
    | nil => rfl
    | cons i zs ih =>
      rw [List.map_cons, wholes?, if_pos (hb i List.mem_cons_self), ih fun j hj => hb j (List.mem_cons_of_mem _ hj)]; rfl
  have e2 : lot? crowd.length (.lst (zs.map .int)) = some zs := by rw [lot_some e1, if_pos w]
  have e3 : lotB crowd stock loose many (.lst (zs.map .int)) = decide ((crowd.length : Int) - zs.length + (nearL crowd stock loose zs).length ≤ many) := by
    unfold lotB
    rw [e2]
  rw [e3]
  obtain ⟨hs2, b2, l2, _⟩ := t.ex
  have c := L.count
  rw [able_len, L.b.eq b2, l2] at c
  have hn : (nearL crowd stock loose zs).length = (nearR hs zs).length := by
    have e4 : (nearL crowd stock loose zs).length = ((stock.zipIdx.filter fun q => zs.any (fitP crowd loose q.1)).map fun q => (q.2 : Int)).length := by
      rw [List.length_map]
      unfold nearL
      have : (stock.zipIdx.filter fun q => zs.any (fitP crowd loose q.1)).map (·.1) = stock.filter fun g => zs.any (fitP crowd loose g) := by
        rw [← List.zipIdx_map_fst 0 stock]
        rw [List.filter_map]
        rw [List.zipIdx_map_fst]
        rfl
      rw [← this, List.length_map]
    rw [e4]
    have nd1 : ((stock.zipIdx.filter fun q => zs.any (fitP crowd loose q.1)).map fun q => (q.2 : Int)).Nodup := by
      have h1 : (stock.zipIdx.map fun q => (q.2 : Int)).Nodup := by
        have : stock.zipIdx.map (fun q => (q.2 : Int)) = (List.range stock.length).map fun (i : Nat) => (i : Int) := by
          rw [List.range_eq_range', ← List.zipIdx_map_snd 0 stock, List.map_map]; rfl
        rw [this]
        exact nodup_spotsU _
      exact h1.sublist (List.Sublist.map _ List.filter_sublist)
    have mem : ∀ s : Int, s ∈ ((stock.zipIdx.filter fun q => zs.any (fitP crowd loose q.1)).map fun q => (q.2 : Int)) ↔ s ∈ nearR hs zs := fun s => by
      rw [mem_nearR, List.mem_map]
      constructor
      · rintro ⟨⟨g, i⟩, h1, rfl⟩
        obtain ⟨h2, h3⟩ := List.mem_filter.mp h1
        have h2 := List.mem_zipIdx_iff_getElem?.mp h2
        obtain ⟨p, hp, hf⟩ := List.any_eq_true.mp h3
        obtain ⟨a, b⟩ := hb p hp
        unfold fitP at hf
        cases q : crowd[p.toNat]? with
        | none => rw [q] at hf; cases hf
        | some one =>
          rw [q] at hf
          have he : edge (ableF crowd stock loose) (i : Int) p := edge_able.mpr ⟨a, by omega, one, g, q, by simpa using h2, hf⟩
          exact L.shut p hp _ he.2.2
      · rintro ⟨p, h1, h2⟩
        obtain ⟨a, b, one, g, q1, q2, q3⟩ := edge_able.mp (L.b.m.e s p h1)
        refine ⟨(g, s.toNat), List.mem_filter.mpr ⟨List.mem_zipIdx_iff_getElem?.mpr q2, List.any_eq_true.mpr ⟨p, h2, ?_⟩⟩, by show ((s.toNat : Nat) : Int) = s; omega⟩
        show fitP crowd loose g p = true
        unfold fitP
        rw [q1]
        exact q3
    exact Nat.le_antisymm (nodup_sub_len nd1 fun s h => (mem s).mp h) (nodup_sub_len (nodup_nearR L.b.m) fun s h => (mem s).mpr h)
  rw [hn]
  congr 1
  apply propext
  omega
theorem fitQ_of {crowd : List Int} {stock : List Robe} {loose : Int} {q : Int × Int} {one : Int} {g : Robe} (h1 : crowd[q.1.toNat]? = some one) (h2 : stock[q.2.toNat]? = some g) : fitQ crowd stock loose q = fitsB g one loose := by
  unfold fitQ
  rw [h1, h2]
theorem pairs_of {m n : Int} : ∀ {ps : Hs}, (∀ q ∈ ps, 0 ≤ q.1 ∧ q.1 < m ∧ 0 ≤ q.2 ∧ q.2 < n) → pairs? m n (ps.map pairD) = some ps
  | [], _ => rfl
  | q :: ps, h => by
    rw [List.map_cons, pairs?, show pairI? m n (pairD q) = some q from if_pos (h q List.mem_cons_self), pairs_of fun p hp => h p (List.mem_cons_of_mem _ hp)]; rfl
theorem Good.bd {crowd : List Int} {stock : List Robe} {loose : Int} {ms : Hs} (g : Good crowd stock loose ms) : ∀ q ∈ ms, 0 ≤ q.1 ∧ q.1 < crowd.length ∧ 0 ≤ q.2 ∧ q.2 < stock.length := fun q hq => by
  obtain ⟨h0, h1, one, gb, h2, h3, _⟩ := g.e q hq
  have := (List.getElem?_eq_some_iff.mp h2).1
  have := (List.getElem?_eq_some_iff.mp h3).1
  omega
theorem Good.rob {crowd : List Int} {stock : List Robe} {loose : Int} {ms : Hs} (g : Good crowd stock loose ms) : robB crowd stock loose (.lst (ms.map pairD)) = true := by
  rw [robB_some (pairs_of g.bd)]
  unfold goodB
  rw [decide_eq_true g.r, decide_eq_true g.n]
  refine List.all_eq_true.mpr fun q hq => ?_
  obtain ⟨_, _, one, gb, h2, h3, h4⟩ := g.e q hq
  rw [fitQ_of h2 h3]
  exact h4
theorem rok_pairs {ms : Hs} {n : Nat} (h : ∀ q ∈ ms, 0 ≤ q.1 ∧ q.1 ≤ 1000000 ∧ 0 ≤ q.2 ∧ q.2 ≤ 1000000) : (D.lst (ms.map pairD)).rok (n + 3) = true := by
  rw [D.rok]
  refine roks_map fun q hq => ?_
  have := h q hq
  rw [D.rok, D.roks, D.roks, D.roks, D.rok, D.rok, decide_eq_true (sml_of (by omega) (by omega)), decide_eq_true (sml_of (by omega) (by omega))]; rfl
end
end Vi

namespace Lw0
open PySem PySem.Spec PyProof.Rows L2 Vi
def top (i : Nat) : Stmt := PySem.Challenge.pw_feastrobes_k10_a_great_house.main.body.getD i (.Pass ⟨0, 0, 0, 0⟩)
def b0 : Ss :=
  (.cons (.for_ (.name 4) (.lst (.idx (.var 0) (.var 1))) (.cons (.ifs (.cmp .nmem (.var 4) (.var 3)) (.cons (.setI 3 (.var 4) (.bl true))
    (.cons (.ifs (.or (.cmp .nmem (.var 4) (.var 2)) (.call 0 (.cons (.var 0) (.cons (.idx (.var 2) (.var 4)) (.cons (.var 2) (.cons (.var 3) .nil)))) [] .nil [.at 0, .at 1, .at 2, .at 3])) (.cons (.setI 2 (.var 4) (.var 1))
    (.cons (.ret (.bl true))
    .nil)) .nil)
    .nil)) .nil)
    .nil))
    (.cons (.ret (.bl false))
    .nil))
def l0 : Ld := ⟨⟨⟨"placed", [(4, [], [.at 0, .at 1, .at 2, .at 3])]⟩, "placed", defArgs (top 1), defBody (top 1), defScope (top 1), ["able", "one", "holders", "tried", "spot"], ⟨4, 5, b0⟩⟩, []⟩
def b1 : Ss :=
  (.cons (.asg 1 (.dct .nil))
    (.cons (.for_ (.name 2) (.range (.cons (.bi .len (.cons (.var 0) .nil)) .nil)) (.cons (.ex (.call 0 (.cons (.var 0) (.cons (.var 2) (.cons (.var 1) (.cons (.dct .nil) .nil)))) [] .nil [.at 0, .at 1, .at 2, .at 3]))
    .nil))
    (.cons (.ret (.var 1))
    .nil)))
def l1 : Ld := ⟨⟨⟨"holders_of", [(1, [], [.at 0])]⟩, "holders_of", defArgs (top 2), defBody (top 2), defScope (top 2), ["able", "holders", "one"], ⟨1, 3, b1⟩⟩, []⟩
def b2 : Ss :=
  (.cons (.ret (.bi .sorted (.cons (.comp (.tup (.cons (.var 2) (.cons (.var 1) .nil))) (.tup [1, 2]) (.items (.call 1 (.cons (.var 0) .nil) [] .nil [.at 0])) .nil [1, 2]) .nil)))
    .nil)
def l2 : Ld := ⟨⟨⟨"matching", [(1, [], [.at 0])]⟩, "matching", defArgs (top 3), defBody (top 3), defScope (top 3), ["able", "spot", "one"], ⟨1, 3, b2⟩⟩, []⟩
def b3 : Ss :=
  (.cons (.asg 1 (.call 1 (.cons (.var 0) .nil) [] .nil [.at 0]))
    (.cons (.asg 2 (.dct .nil))
    (.cons (.asg 3 (.comp (.var 4) (.name 4) (.range (.cons (.bi .len (.cons (.var 0) .nil)) .nil)) (.cons (.op .ninVals (.cons (.var 4) (.cons (.var 1) .nil))) .nil) [4]))
    (.cons (.whl (.cmp .ne (.var 3) (.lst .nil)) (.cons (.asg 4 (.mut .pop 3 .nil))
    (.cons (.setI 2 (.var 4) (.bl true))
    (.cons (.for_ (.name 5) (.lst (.idx (.var 0) (.var 4))) (.cons (.ifs (.and (.cmp .nmem (.idx (.var 1) (.var 5)) (.var 2)) (.cmp .nmem (.idx (.var 1) (.var 5)) (.var 3))) (.cons (.ex (.mut .append 3 (.cons (.idx (.var 1) (.var 5)) .nil)))
    .nil) .nil)
    .nil))
    .nil))))
    (.cons (.ret (.bi .sorted (.cons (.var 2) .nil)))
    .nil)))))
def l3 : Ld := ⟨⟨⟨"left_over", [(1, [], [.at 0])]⟩, "left_over", defArgs (top 4), defBody (top 4), defScope (top 4), ["able", "holders", "met", "waiting", "one", "spot"], ⟨1, 6, b3⟩⟩, []⟩
def b4 : Ss :=
  (.cons (.ret (.and (.isi .int (.var 0)) (.and (.not (.isi .bool (.var 0))) (.cmp2 .le .le (.var 1) (.var 0) (.var 2)))))
    .nil)
def l4 : Ld := ⟨⟨⟨"is_whole", [(3, [], [.at 0, .at 1, .at 2])]⟩, "is_whole", defArgs (top 6), defBody (top 6), defScope (top 6), ["thing", "least", "most"], ⟨3, 3, b4⟩⟩, []⟩
def b5 : Ss :=
  (.cons (.asgT [1, 2, 3] (.var 0))
    (.cons (.ret (.tup (.cons (.bin .sub (.var 1) (.var 2)) (.cons (.bin .add (.var 1) (.var 3)) .nil))))
    .nil))
def l5 : Ld := ⟨⟨⟨"bounds", [(1, [], [.at 0])]⟩, "bounds", defArgs (top 7), defBody (top 7), defScope (top 7), ["robe", "size", "take", "out"], ⟨1, 4, b5⟩⟩, []⟩
def b6 : Ss :=
  (.cons (.asgT [2, 3] (.call 5 (.cons (.var 0) .nil) [] .nil [.at 0]))
    (.cons (.ret (.tup (.cons (.bin .sub (.var 2) (.var 1)) (.cons (.var 3) .nil))))
    .nil))
def l6 : Ld := ⟨⟨⟨"window", [(2, [], [.at 0, .at 1])]⟩, "window", defArgs (top 8), defBody (top 8), defScope (top 8), ["robe", "ease", "least", "most"], ⟨2, 4, b6⟩⟩, [(.int 0)]⟩
def b7 : Ss :=
  (.cons (.asgT [3, 4] (.call 6 (.cons (.var 0) (.cons (.var 2) .nil)) [] .nil [.at 0, .at 1]))
    (.cons (.ret (.cmp2 .le .le (.var 3) (.var 1) (.var 4)))
    .nil))
def l7 : Ld := ⟨⟨⟨"fits", [(3, [], [.at 0, .at 1, .at 2])]⟩, "fits", defArgs (top 9), defBody (top 9), defScope (top 9), ["robe", "person", "ease", "least", "most"], ⟨3, 5, b7⟩⟩, [(.int 0)]⟩
def b8 : Ss :=
  (.cons (.asg 3 (.lst .nil))
    (.cons (.for_ (.name 4) (.lst (.var 0)) (.cons (.ex (.mut .append 3 (.cons (.comp (.var 5) (.tup [5, 6]) (.enum (.var 1)) (.cons (.call 7 (.cons (.var 6) (.cons (.var 4) (.cons (.var 2) .nil))) [] .nil [.at 0, .at 1, .at 2]) .nil) [5, 6]) .nil)))
    .nil))
    (.cons (.ret (.var 3))
    .nil)))
def l8 : Ld := ⟨⟨⟨"able_robes", [(3, [], [.at 0, .at 1, .at 2])]⟩, "able_robes", defArgs (top 11), defBody (top 11), defScope (top 11), ["folk", "robes", "ease", "found", "person", "number", "robe"], ⟨3, 7, b8⟩⟩, [(.int 0)]⟩
def b9 : Ss :=
  (.cons (.ret (.call 2 (.cons (.call 8 (.cons (.var 0) (.cons (.var 1) (.cons (.var 2) .nil))) [] .nil [.at 0, .at 1, .at 2]) .nil) [] .nil [.at 0]))
    .nil)
def l9 : Ld := ⟨⟨⟨"robing", [(3, [], [.at 0, .at 1, .at 2])]⟩, "robing", defArgs (top 12), defBody (top 12), defScope (top 12), ["folk", "robes", "ease"], ⟨3, 3, b9⟩⟩, [(.int 0)]⟩
def b10 : Ss :=
  (.cons (.ret (.call 3 (.cons (.call 8 (.cons (.var 0) (.cons (.var 1) (.cons (.var 2) .nil))) [] .nil [.at 0, .at 1, .at 2]) .nil) [] .nil [.at 0]))
    .nil)
def l10 : Ld := ⟨⟨⟨"short", [(3, [], [.at 0, .at 1, .at 2])]⟩, "short", defArgs (top 13), defBody (top 13), defScope (top 13), ["folk", "robes", "ease"], ⟨3, 3, b10⟩⟩, [(.int 0)]⟩
def b11 : Ss :=
  (.cons (.ifs (.or (.not (.isi .tuple (.var 0))) (.cmp .ne (.bi .len (.cons (.var 0) .nil)) (.int 2))) (.cons (.ret (.bl false))
    .nil) .nil)
    (.cons (.ret (.and (.call 4 (.cons (.idx (.var 0) (.int 0)) (.cons (.int 0) (.cons (.bin .sub (.var 1) (.int 1)) .nil))) [] .nil [.at 0, .at 1, .at 2]) (.call 4 (.cons (.idx (.var 0) (.int 1)) (.cons (.int 0) (.cons (.bin .sub (.var 2) (.int 1)) .nil))) [] .nil [.at 0, .at 1, .at 2])))
    .nil))
def l11 : Ld := ⟨⟨⟨"is_pair", [(3, [], [.at 0, .at 1, .at 2])]⟩, "is_pair", defArgs (top 15), defBody (top 15), defScope (top 15), ["thing", "many", "more"], ⟨3, 3, b11⟩⟩, []⟩
def b12 : Ss :=
  (.cons (.ret (.bi .all (.cons (.comp (.cmp .lt (.var 1) (.var 2)) (.tup [1, 2]) (.zip (.var 0) (.slc (.var 0) (.cons (.int 1) .nil) .nil)) .nil [1, 2]) .nil)))
    .nil)
def l12 : Ld := ⟨⟨⟨"are_rising", [(1, [], [.at 0])]⟩, "are_rising", defArgs (top 16), defBody (top 16), defScope (top 16), ["things", "one", "other"], ⟨1, 3, b12⟩⟩, []⟩
def b13 : Ss :=
  (.cons (.ifs (.or (.not (.isi .list (.var 2))) (.not (.bi .all (.cons (.comp (.call 11 (.cons (.var 7) (.cons (.bi .len (.cons (.var 0) .nil)) (.cons (.bi .len (.cons (.var 1) .nil)) .nil))) [] .nil [.at 0, .at 1, .at 2]) (.name 7) (.lst (.var 2)) .nil [7]) .nil)))) (.cons (.ret (.bl false))
    .nil) .nil)
    (.cons (.asg 4 (.comp (.var 5) (.tup [5, 6]) (.lst (.var 2)) .nil [5, 6]))
    (.cons (.ifs (.or (.not (.call 12 (.cons (.var 4) .nil) [] .nil [.at 0])) (.cmp .lt (.op .lenSet (.cons (.comp (.var 6) (.tup [5, 6]) (.lst (.var 2)) .nil [5, 6]) .nil)) (.bi .len (.cons (.var 2) .nil)))) (.cons (.ret (.bl false))
    .nil) .nil)
    (.cons (.ret (.bi .all (.cons (.comp (.call 7 (.cons (.idx (.var 1) (.var 6)) (.cons (.idx (.var 0) (.var 5)) (.cons (.var 3) .nil))) [] .nil [.at 0, .at 1, .at 2]) (.tup [5, 6]) (.lst (.var 2)) .nil [5, 6]) .nil)))
    .nil))))
def l13 : Ld := ⟨⟨⟨"lets_robing", [(4, [], [.at 0, .at 1, .at 2, .at 3])]⟩, "lets_robing", defArgs (top 17), defBody (top 17), defScope (top 17), ["folk", "robes", "thing", "ease", "persons", "person", "robe", "pair"], ⟨4, 8, b13⟩⟩, [(.int 0)]⟩
def b14 : Ss :=
  (.cons (.ifs (.or (.not (.isi .list (.var 0))) (.not (.bi .all (.cons (.comp (.call 4 (.cons (.var 2) (.cons (.int 0) (.cons (.bin .sub (.var 1) (.int 1)) .nil))) [] .nil [.at 0, .at 1, .at 2]) (.name 2) (.lst (.var 0)) .nil [2]) .nil)))) (.cons (.ret (.bl false))
    .nil) .nil)
    (.cons (.ret (.call 12 (.cons (.var 0) .nil) [] .nil [.at 0]))
    .nil))
def l14 : Ld := ⟨⟨⟨"is_lot", [(2, [], [.at 0, .at 1])]⟩, "is_lot", defArgs (top 18), defBody (top 18), defScope (top 18), ["thing", "many", "one"], ⟨2, 3, b14⟩⟩, []⟩
def b15 : Ss :=
  (.cons (.ifs (.not (.call 14 (.cons (.var 2) (.cons (.bi .len (.cons (.var 0) .nil)) .nil)) [] .nil [.at 0, .at 1])) (.cons (.ret (.bl false))
    .nil) .nil)
    (.cons (.asg 5 (.comp (.var 6) (.name 6) (.lst (.var 1)) (.cons (.bi .any (.cons (.comp (.call 7 (.cons (.var 6) (.cons (.idx (.var 0) (.var 7)) (.cons (.var 4) .nil))) [] .nil [.at 0, .at 1, .at 2]) (.name 7) (.lst (.var 2)) .nil [7]) .nil)) .nil) [6]))
    (.cons (.ret (.cmp .le (.bin .add (.bin .sub (.bi .len (.cons (.var 0) .nil)) (.bi .len (.cons (.var 2) .nil))) (.bi .len (.cons (.var 5) .nil))) (.var 3)))
    .nil)))
def l15 : Ld := ⟨⟨⟨"lets_lot", [(5, [], [.at 0, .at 1, .at 2, .at 3, .at 4])]⟩, "lets_lot", defArgs (top 19), defBody (top 19), defScope (top 19), ["folk", "robes", "thing", "many", "ease", "near", "robe", "person"], ⟨5, 8, b15⟩⟩, [(.int 0)]⟩
def b16 : Ss :=
  (.cons (.ret (.lst (.cons (.comp (.var 1) (.name 1) (.lst (.slc (.var 0) .nil (.cons (.int 63) .nil))) .nil [1]) (.cons (.int 0) (.cons (.int 0) .nil)))))
    .nil)
def l16 : Ld := ⟨⟨⟨"_law_pen", [(1, [], [.at 0])]⟩, "_law_pen", defArgs (top 21), defBody (top 21), defScope (top 21), ["_law_script", "_law_cell"], ⟨1, 2, b16⟩⟩, []⟩
def b17 : Ss :=
  (.cons (.ifs (.cmp .gt (.idx (.var 0) (.int 2)) (.int 0)) (.cons (.asg 5 (.bin .mod (.idx (.var 0) (.int 2)) (.var 1)))
    (.cons (.setI 0 (.int 2) (.bin .fdiv (.idx (.var 0) (.int 2)) (.var 1)))
    (.cons (.ret (.var 5))
    .nil))) .nil)
    (.cons (.asg 2 (.idx (.var 0) (.int 1)))
    (.cons (.setI 0 (.int 1) (.bin .add (.var 2) (.int 1)))
    (.cons (.asg 3 (.bin .add (.bin .mul (.int 41) (.var 2)) (.int 13)))
    (.cons (.ifs (.cmp .ne (.idx (.var 0) (.int 0)) (.lst .nil)) (.cons (.asg 3 (.idx (.idx (.var 0) (.int 0)) (.bin .mod (.var 2) (.bi .len (.cons (.idx (.var 0) (.int 0)) .nil)))))
    .nil) .nil)
    (.cons (.ifs (.and (.cmp .lt (.var 2) (.bi .len (.cons (.idx (.var 0) (.int 0)) .nil))) (.cmp .ge (.bi .abs (.cons (.var 3) .nil)) (.bin .pow (.int 10) (.int 18)))) (.cons (.asg 6 (.bin .add (.bin .mul (.int 2) (.bin .sub (.bi .abs (.cons (.var 3) .nil)) (.bin .pow (.int 10) (.int 18)))) (.bi .int (.cons (.cmp .lt (.var 3) (.int 0)) .nil))))
    (.cons (.setI 0 (.int 2) (.bin .fdiv (.var 6) (.var 1)))
    (.cons (.ret (.bin .mod (.var 6) (.var 1)))
    .nil))) .nil)
    (.cons (.asg 4 (.bin .mod (.bin .pow (.bin .add (.bin .add (.bin .add (.bin .mod (.var 3) (.int 2147483629)) (.bin .mul (.int 40709) (.var 2))) (.bin .mul (.bin .mul (.int 7919) (.var 2)) (.var 2))) (.int 31)) (.int 5)) (.int 2147483647)))
    (.cons (.asg 4 (.bin .mod (.bin .pow (.bin .add (.bin .add (.bin .mul (.var 4) (.int 48271)) (.bin .mul (.int 69621) (.var 2))) (.int 11)) (.int 3)) (.int 2147483587)))
    (.cons (.ifs (.cmp .gt (.var 1) (.bin .pow (.int 10) (.int 8))) (.cons (.asg 4 (.bin .pow (.bin .add (.var 4) (.int 17)) (.int 7)))
    .nil) .nil)
    (.cons (.ret (.bin .mod (.bin .fdiv (.var 4) (.int 7)) (.var 1)))
    .nil))))))))))
def l17 : Ld := ⟨⟨⟨"_law_take", [(2, [], [.at 0, .at 1])]⟩, "_law_take", defArgs (top 22), defBody (top 22), defScope (top 22), ["_law_pen_here", "_law_upto", "_law_at", "_law_cell", "_law_number", "_law_found", "_law_great_here"], ⟨2, 7, b17⟩⟩, []⟩
def b18 : Ss :=
  (.cons (.ret (.cmp2 .le .le (.bin .sub (.bin .sub (.idx (.var 0) (.int 0)) (.idx (.var 0) (.int 1))) (.var 2)) (.var 1) (.bin .add (.idx (.var 0) (.int 0)) (.idx (.var 0) (.int 2)))))
    .nil)
def l18 : Ld := ⟨⟨⟨"_law_fits", [(3, [], [.at 0, .at 1, .at 2])]⟩, "_law_fits", defArgs (top 23), defBody (top 23), defScope (top 23), ["_law_garb", "_law_one", "_law_loose"], ⟨3, 3, b18⟩⟩, []⟩
def b19 : Ss :=
  (.cons (.asg 3 (.lst .nil))
    (.cons (.for_ (.name 4) (.lst (.var 0)) (.cons (.ex (.mut .append 3 (.cons (.comp (.var 5) (.tup [5, 6]) (.enum (.var 1)) (.cons (.call 18 (.cons (.var 6) (.cons (.var 4) (.cons (.var 2) .nil))) [] .nil [.at 0, .at 1, .at 2]) .nil) [5, 6]) .nil)))
    .nil))
    (.cons (.ret (.var 3))
    .nil)))
def l19 : Ld := ⟨⟨⟨"_law_able", [(3, [], [.at 0, .at 1, .at 2])]⟩, "_law_able", defArgs (top 24), defBody (top 24), defScope (top 24), ["_law_crowd", "_law_stock", "_law_loose", "_law_found", "_law_one", "_law_spot", "_law_garb"], ⟨3, 7, b19⟩⟩, []⟩
def b20 : Ss :=
  (.cons (.for_ (.name 4) (.lst (.idx (.var 0) (.var 1))) (.cons (.ifs (.cmp .nmem (.var 4) (.var 3)) (.cons (.setI 3 (.var 4) (.bl true))
    (.cons (.ifs (.or (.cmp .nmem (.var 4) (.var 2)) (.call 20 (.cons (.var 0) (.cons (.idx (.var 2) (.var 4)) (.cons (.var 2) (.cons (.var 3) .nil)))) [] .nil [.at 0, .at 1, .at 2, .at 3])) (.cons (.setI 2 (.var 4) (.var 1))
    (.cons (.ret (.bl true))
    .nil)) .nil)
    .nil)) .nil)
    .nil))
    (.cons (.ret (.bl false))
    .nil))
def l20 : Ld := ⟨⟨⟨"_law_seated", [(4, [], [.at 0, .at 1, .at 2, .at 3])]⟩, "_law_seated", defArgs (top 25), defBody (top 25), defScope (top 25), ["_law_able_here", "_law_one", "_law_held_here", "_law_met", "_law_spot"], ⟨4, 5, b20⟩⟩, []⟩
def b21 : Ss :=
  (.cons (.asg 1 (.dct .nil))
    (.cons (.for_ (.name 2) (.range (.cons (.bi .len (.cons (.var 0) .nil)) .nil)) (.cons (.ex (.call 20 (.cons (.var 0) (.cons (.var 2) (.cons (.var 1) (.cons (.dct .nil) .nil)))) [] .nil [.at 0, .at 1, .at 2, .at 3]))
    .nil))
    (.cons (.ret (.var 1))
    .nil)))
def l21 : Ld := ⟨⟨⟨"_law_held", [(1, [], [.at 0])]⟩, "_law_held", defArgs (top 26), defBody (top 26), defScope (top 26), ["_law_able_here", "_law_held_here", "_law_one"], ⟨1, 3, b21⟩⟩, []⟩
def b22 : Ss :=
  (.cons (.ret (.and (.isi .int (.var 0)) (.and (.not (.isi .bool (.var 0))) (.cmp2 .le .lt (.int 0) (.var 0) (.var 1)))))
    .nil)
def l22 : Ld := ⟨⟨⟨"_law_whole", [(2, [], [.at 0, .at 1])]⟩, "_law_whole", defArgs (top 27), defBody (top 27), defScope (top 27), ["_law_thing", "_law_beyond"], ⟨2, 2, b22⟩⟩, []⟩
def b23 : Ss :=
  (.cons (.ifs (.not (.isi .list (.var 3))) (.cons (.ret (.bl false))
    .nil) .nil)
    (.cons (.for_ (.name 4) (.lst (.var 3)) (.cons (.ifs (.or (.not (.isi .tuple (.var 4))) (.cmp .ne (.bi .len (.cons (.var 4) .nil)) (.int 2))) (.cons (.ret (.bl false))
    .nil) .nil)
    (.cons (.ifs (.or (.not (.call 22 (.cons (.idx (.var 4) (.int 0)) (.cons (.bi .len (.cons (.var 0) .nil)) .nil)) [] .nil [.at 0, .at 1])) (.not (.call 22 (.cons (.idx (.var 4) (.int 1)) (.cons (.bi .len (.cons (.var 1) .nil)) .nil)) [] .nil [.at 0, .at 1]))) (.cons (.ret (.bl false))
    .nil) .nil)
    (.cons (.ifs (.not (.call 18 (.cons (.idx (.var 1) (.idx (.var 4) (.int 1))) (.cons (.idx (.var 0) (.idx (.var 4) (.int 0))) (.cons (.var 2) .nil))) [] .nil [.at 0, .at 1, .at 2])) (.cons (.ret (.bl false))
    .nil) .nil)
    .nil))))
    (.cons (.asg 5 (.comp (.idx (.var 4) (.int 0)) (.name 4) (.lst (.var 3)) .nil [4]))
    (.cons (.asg 6 (.comp (.idx (.var 4) (.int 1)) (.name 4) (.lst (.var 3)) .nil [4]))
    (.cons (.ret (.and (.cmp .eq (.var 5) (.op .sortSet (.cons (.var 5) .nil))) (.cmp .eq (.op .lenSet (.cons (.var 6) .nil)) (.bi .len (.cons (.var 6) .nil)))))
    .nil)))))
def l23 : Ld := ⟨⟨⟨"_law_right", [(4, [], [.at 0, .at 1, .at 2, .at 3])]⟩, "_law_right", defArgs (top 28), defBody (top 28), defScope (top 28), ["_law_crowd", "_law_stock", "_law_loose", "_law_thing", "_law_pair", "_law_ones", "_law_spots"], ⟨4, 7, b23⟩⟩, []⟩
def b24 : Ss :=
  (.cons (.asg 1 (.comp (.bin .add (.int 1) (.call 17 (.cons (.var 0) (.cons (.int 500) .nil)) [] .nil [.at 0, .at 1])) (.name 4) (.range (.cons (.bin .sub (.int 12) (.call 17 (.cons (.var 0) (.cons (.int 3) .nil)) [] .nil [.at 0, .at 1])) .nil)) .nil [4]))
    (.cons (.asg 2 (.comp (.idx (.var 1) (.call 17 (.cons (.var 0) (.cons (.bi .len (.cons (.var 1) .nil)) .nil)) [] .nil [.at 0, .at 1])) (.name 4) (.range (.cons (.bin .add (.int 1) (.call 17 (.cons (.var 0) (.cons (.int 4) .nil)) [] .nil [.at 0, .at 1])) .nil)) .nil [4]))
    (.cons (.asg 3 (.lst .nil))
    (.cons (.for_ (.name 4) (.range (.cons (.idx (.lst (.cons (.int 40) (.cons (.int 100) (.cons (.int 60) .nil)))) (.call 17 (.cons (.var 0) (.cons (.int 3) .nil)) [] .nil [.at 0, .at 1])) .nil)) (.cons (.asg 5 (.bin .add (.idx (.var 2) (.call 17 (.cons (.var 0) (.cons (.bi .len (.cons (.var 2) .nil)) .nil)) [] .nil [.at 0, .at 1])) (.call 17 (.cons (.var 0) (.cons (.int 3) .nil)) [] .nil [.at 0, .at 1])))
    (.cons (.ex (.mut .append 3 (.cons (.tup (.cons (.var 5) (.cons (.bi .min (.cons (.bin .sub (.var 5) (.int 1)) (.cons (.bin .mul (.call 17 (.cons (.var 0) (.cons (.int 2) .nil)) [] .nil [.at 0, .at 1]) (.call 17 (.cons (.var 0) (.cons (.int 100) .nil)) [] .nil [.at 0, .at 1])) .nil))) (.cons (.call 17 (.cons (.var 0) (.cons (.int 2) .nil)) [] .nil [.at 0, .at 1]) .nil)))) .nil)))
    .nil)))
    (.cons (.ifs (.cmp .eq (.call 17 (.cons (.var 0) (.cons (.int 4) .nil)) [] .nil [.at 0, .at 1]) (.int 0)) (.cons (.asg 3 (.bin .add (.comp (.tup (.cons (.int 900) (.cons (.int 99) (.cons (.int 99) .nil)))) (.name 4) (.range (.cons (.int 99) .nil)) .nil [4]) (.lst (.cons (.tup (.cons (.idx (.var 1) (.neg (.int 1))) (.cons (.int 0) (.cons (.bin .mul (.int 99) (.call 17 (.cons (.var 0) (.cons (.int 2) .nil)) [] .nil [.at 0, .at 1])) .nil)))) .nil))))
    .nil) .nil)
    (.cons (.ret (.tup (.cons (.var 1) (.cons (.var 3) (.cons (.idx (.lst (.cons (.int 0) (.cons (.int 9) .nil))) (.call 17 (.cons (.var 0) (.cons (.int 2) .nil)) [] .nil [.at 0, .at 1])) .nil)))))
    .nil))))))
def l24 : Ld := ⟨⟨⟨"_law_great", [(1, [], [.at 0])]⟩, "_law_great", defArgs (top 29), defBody (top 29), defScope (top 29), ["_law_pen_here", "_law_crowd", "_law_near", "_law_stock", "_law_k", "_law_cut"], ⟨1, 6, b24⟩⟩, []⟩
def b25 : Ss :=
  (.cons (.asg 1 (.call 16 (.cons (.var 0) .nil) [] .nil [.at 0]))
    (.cons (.asgT [8, 9, 10] (.call 24 (.cons (.var 1) .nil) [] .nil [.at 0]))
    (.cons (.asg 2 (.call 19 (.cons (.var 8) (.cons (.var 9) (.cons (.var 10) .nil))) [] .nil [.at 0, .at 1, .at 2]))
    (.cons (.asg 3 (.bi .len (.cons (.call 21 (.cons (.var 2) .nil) [] .nil [.at 0]) .nil)))
    (.cons (.asg 4 (.op .repr (.cons (.tup (.cons (.var 8) (.cons (.var 9) .nil))) .nil)))
    (.cons (.asg 5 (.call 9 (.cons (.var 8) (.cons (.var 9) (.cons (.var 10) .nil))) [] .nil [.at 0, .at 1, .at 2]))
    (.cons (.ifs (.or (.not (.call 23 (.cons (.var 8) (.cons (.var 9) (.cons (.var 10) (.cons (.var 5) .nil)))) [] .nil [.at 0, .at 1, .at 2, .at 3])) (.cmp .ne (.bi .len (.cons (.var 5) .nil)) (.var 3))) (.cons (.ret (.bl false))
    .nil) .nil)
    (.cons (.asg 6 (.comp (.var 11) (.name 11) (.range (.cons (.bi .len (.cons (.var 2) .nil)) .nil)) (.cons (.cmp .eq (.bi .len (.cons (.call 21 (.cons (.bin .add (.bin .add (.slc (.var 2) .nil (.cons (.var 11) .nil)) (.lst (.cons (.lst .nil) .nil))) (.slc (.var 2) (.cons (.bin .add (.var 11) (.int 1)) .nil) .nil)) .nil) [] .nil [.at 0]) .nil)) (.var 3)) .nil) [11]))
    (.cons (.asg 7 (.call 10 (.cons (.var 8) (.cons (.var 9) (.cons (.var 10) .nil))) [] .nil [.at 0, .at 1, .at 2]))
    (.cons (.ifs (.or (.not (.isi .list (.var 7))) (.or (.cmp .ne (.var 7) (.var 6)) (.cmp .nis (.call 13 (.cons (.var 8) (.cons (.var 9) (.cons (.var 5) (.cons (.var 10) .nil)))) [] .nil [.at 0, .at 1, .at 2, .at 3]) (.bl true)))) (.cons (.ret (.bl false))
    .nil) .nil)
    (.cons (.ifs (.or (.cmp .nis (.call 15 (.cons (.var 8) (.cons (.var 9) (.cons (.var 7) (.cons (.var 3) (.cons (.var 10) .nil))))) [] .nil [.at 0, .at 1, .at 2, .at 3, .at 4]) (.bl true)) (.cmp .ne (.op .repr (.cons (.tup (.cons (.var 8) (.cons (.var 9) .nil))) .nil)) (.var 4))) (.cons (.ret (.bl false))
    .nil) .nil)
    (.cons (.ret (.or (.cmp .eq (.var 3) (.int 0)) (.cmp .is (.call 15 (.cons (.var 8) (.cons (.var 9) (.cons (.var 7) (.cons (.bin .sub (.var 3) (.int 1)) (.cons (.var 10) .nil))))) [] .nil [.at 0, .at 1, .at 2, .at 3, .at 4]) (.bl false))))
    .nil))))))))))))
def l25 : Ld := ⟨⟨⟨"law", [(1, [], [.at 0])]⟩, "law", defArgs (top 30), defBody (top 30), defScope (top 30), ["_law_script", "_law_pen_here", "_law_able_here", "_law_many", "_law_kept", "_law_found", "_law_due", "_law_gone", "_law_crowd", "_law_stock", "_law_loose", "_law_one"], ⟨1, 12, b25⟩⟩, []⟩
def L : Lw := ⟨[l0, l1, l2, l3, l4, l5, l6, l7, l8, l9, l10, l11, l12, l13, l14, l15, l16, l17, l18, l19, l20, l21, l22, l23, l24, l25], [], ["range", "len", "sorted", "isinstance", "int", "bool", "enumerate", "tuple", "all", "zip", "set", "list", "any", "abs", "min", "repr"]⟩
theorem sc0 : FnScope l0.d.N l0.ps l0.d.scope := ⟨rfl, rfl, rfl, by decide +kernel, rfl, by decide +kernel, by decide +kernel⟩
theorem ck0 : chkSs (ckOf L.T L.gl L.hid l0.d) l0.d.scope l0.d.fn.body l0.d.body = true := by kernel_rfl
theorem bs0_0 {K : PySem.W.Frag} {fa : Addr} {fd : FuncData} (F : FunD K l0.d.fi.name l0.d.qual l0.d.args l0.d.body l0.d.scope (l0.defD.dvs K) [] fa fd) : BindSh K fd l0.ps 4 [] [.at 0, .at 1, .at 2, .at 3] :=
  BindSh.ofA F (by decide) rfl (by decide) (fun _ _ _ _ _ _ => fun _ _ _ _ => rfl)
theorem ok0 : LdOk l0 := ⟨sc0, rfl, by decide, fun K fa fd F sh hs => by
  rcases List.mem_cons.mp hs with rfl | hs
  · exact bs0_0 F
  cases hs⟩
theorem sc1 : FnScope l1.d.N l1.ps l1.d.scope := ⟨rfl, rfl, rfl, by decide +kernel, rfl, by decide +kernel, by decide +kernel⟩
theorem ck1 : chkSs (ckOf L.T L.gl L.hid l1.d) l1.d.scope l1.d.fn.body l1.d.body = true := by kernel_rfl
theorem bs1_0 {K : PySem.W.Frag} {fa : Addr} {fd : FuncData} (F : FunD K l1.d.fi.name l1.d.qual l1.d.args l1.d.body l1.d.scope (l1.defD.dvs K) [] fa fd) : BindSh K fd l1.ps 1 [] [.at 0] :=
  BindSh.ofA F (by decide) rfl (by decide) (fun _ _ _ _ _ _ => fun _ => rfl)
theorem ok1 : LdOk l1 := ⟨sc1, rfl, by decide, fun K fa fd F sh hs => by
  rcases List.mem_cons.mp hs with rfl | hs
  · exact bs1_0 F
  cases hs⟩
theorem sc2 : FnScope l2.d.N l2.ps l2.d.scope := ⟨rfl, rfl, rfl, by decide +kernel, rfl, by decide +kernel, by decide +kernel⟩
theorem ck2 : chkSs (ckOf L.T L.gl L.hid l2.d) l2.d.scope l2.d.fn.body l2.d.body = true := by kernel_rfl
theorem bs2_0 {K : PySem.W.Frag} {fa : Addr} {fd : FuncData} (F : FunD K l2.d.fi.name l2.d.qual l2.d.args l2.d.body l2.d.scope (l2.defD.dvs K) [] fa fd) : BindSh K fd l2.ps 1 [] [.at 0] :=
  BindSh.ofA F (by decide) rfl (by decide) (fun _ _ _ _ _ _ => fun _ => rfl)
theorem ok2 : LdOk l2 := ⟨sc2, rfl, by decide, fun K fa fd F sh hs => by
  rcases List.mem_cons.mp hs with rfl | hs
  · exact bs2_0 F
  cases hs⟩
theorem sc3 : FnScope l3.d.N l3.ps l3.d.scope := ⟨rfl, rfl, rfl, by decide +kernel, rfl, by decide +kernel, by decide +kernel⟩
theorem ck3 : chkSs (ckOf L.T L.gl L.hid l3.d) l3.d.scope l3.d.fn.body l3.d.body = true := by kernel_rfl
theorem bs3_0 {K : PySem.W.Frag} {fa : Addr} {fd : FuncData} (F : FunD K l3.d.fi.name l3.d.qual l3.d.args l3.d.body l3.d.scope (l3.defD.dvs K) [] fa fd) : BindSh K fd l3.ps 1 [] [.at 0] :=
  BindSh.ofA F (by decide) rfl (by decide) (fun _ _ _ _ _ _ => fun _ => rfl)
theorem ok3 : LdOk l3 := ⟨sc3, rfl, by decide, fun K fa fd F sh hs => by
  rcases List.mem_cons.mp hs with rfl | hs
  · exact bs3_0 F
  cases hs⟩
theorem sc4 : FnScope l4.d.N l4.ps l4.d.scope := ⟨rfl, rfl, rfl, by decide +kernel, rfl, by decide +kernel, by decide +kernel⟩
theorem ck4 : chkSs (ckOf L.T L.gl L.hid l4.d) l4.d.scope l4.d.fn.body l4.d.body = true := by kernel_rfl
theorem bs4_0 {K : PySem.W.Frag} {fa : Addr} {fd : FuncData} (F : FunD K l4.d.fi.name l4.d.qual l4.d.args l4.d.body l4.d.scope (l4.defD.dvs K) [] fa fd) : BindSh K fd l4.ps 3 [] [.at 0, .at 1, .at 2] :=
  BindSh.ofA F (by decide) rfl (by decide) (fun _ _ _ _ _ _ => fun _ _ _ => rfl)
theorem ok4 : LdOk l4 := ⟨sc4, rfl, by decide, fun K fa fd F sh hs => by
  rcases List.mem_cons.mp hs with rfl | hs
  · exact bs4_0 F
  cases hs⟩
theorem sc5 : FnScope l5.d.N l5.ps l5.d.scope := ⟨rfl, rfl, rfl, by decide +kernel, rfl, by decide +kernel, by decide +kernel⟩
theorem ck5 : chkSs (ckOf L.T L.gl L.hid l5.d) l5.d.scope l5.d.fn.body l5.d.body = true := by kernel_rfl
theorem bs5_0 {K : PySem.W.Frag} {fa : Addr} {fd : FuncData} (F : FunD K l5.d.fi.name l5.d.qual l5.d.args l5.d.body l5.d.scope (l5.defD.dvs K) [] fa fd) : BindSh K fd l5.ps 1 [] [.at 0] :=
  BindSh.ofA F (by decide) rfl (by decide) (fun _ _ _ _ _ _ => fun _ => rfl)
theorem ok5 : LdOk l5 := ⟨sc5, rfl, by decide, fun K fa fd F sh hs => by
  rcases List.mem_cons.mp hs with rfl | hs
  · exact bs5_0 F
  cases hs⟩
theorem sc6 : FnScope l6.d.N l6.ps l6.d.scope := ⟨rfl, rfl, rfl, by decide +kernel, rfl, by decide +kernel, by decide +kernel⟩
theorem ck6 : chkSs (ckOf L.T L.gl L.hid l6.d) l6.d.scope l6.d.fn.body l6.d.body = true := by kernel_rfl
theorem bs6_0 {K : PySem.W.Frag} {fa : Addr} {fd : FuncData} (F : FunD K l6.d.fi.name l6.d.qual l6.d.args l6.d.body l6.d.scope (l6.defD.dvs K) [] fa fd) : BindSh K fd l6.ps 2 [] [.at 0, .at 1] :=
  BindSh.ofB F (by intro h; cases h) (by decide) rfl 1 (by rfl) (fun _ _ _ _ _ _ _ => fun _ _ _ => ⟨_, rfl, rfl⟩)
theorem ok6 : LdOk l6 := ⟨sc6, rfl, by decide, fun K fa fd F sh hs => by
  rcases List.mem_cons.mp hs with rfl | hs
  · exact bs6_0 F
  cases hs⟩
theorem sc7 : FnScope l7.d.N l7.ps l7.d.scope := ⟨rfl, rfl, rfl, by decide +kernel, rfl, by decide +kernel, by decide +kernel⟩
theorem ck7 : chkSs (ckOf L.T L.gl L.hid l7.d) l7.d.scope l7.d.fn.body l7.d.body = true := by kernel_rfl
theorem bs7_0 {K : PySem.W.Frag} {fa : Addr} {fd : FuncData} (F : FunD K l7.d.fi.name l7.d.qual l7.d.args l7.d.body l7.d.scope (l7.defD.dvs K) [] fa fd) : BindSh K fd l7.ps 3 [] [.at 0, .at 1, .at 2] :=
  BindSh.ofB F (by intro h; cases h) (by decide) rfl 2 (by rfl) (fun _ _ _ _ _ _ _ => fun _ _ _ _ => ⟨_, rfl, rfl⟩)
theorem ok7 : LdOk l7 := ⟨sc7, rfl, by decide, fun K fa fd F sh hs => by
  rcases List.mem_cons.mp hs with rfl | hs
  · exact bs7_0 F
  cases hs⟩
theorem sc8 : FnScope l8.d.N l8.ps l8.d.scope := ⟨rfl, rfl, rfl, by decide +kernel, rfl, by decide +kernel, by decide +kernel⟩
theorem ck8 : chkSs (ckOf L.T L.gl L.hid l8.d) l8.d.scope l8.d.fn.body l8.d.body = true := by kernel_rfl
theorem bs8_0 {K : PySem.W.Frag} {fa : Addr} {fd : FuncData} (F : FunD K l8.d.fi.name l8.d.qual l8.d.args l8.d.body l8.d.scope (l8.defD.dvs K) [] fa fd) : BindSh K fd l8.ps 3 [] [.at 0, .at 1, .at 2] :=
  BindSh.ofB F (by intro h; cases h) (by decide) rfl 2 (by rfl) (fun _ _ _ _ _ _ _ => fun _ _ _ _ => ⟨_, rfl, rfl⟩)
theorem ok8 : LdOk l8 := ⟨sc8, rfl, by decide, fun K fa fd F sh hs => by
  rcases List.mem_cons.mp hs with rfl | hs
  · exact bs8_0 F
  cases hs⟩
theorem sc9 : FnScope l9.d.N l9.ps l9.d.scope := ⟨rfl, rfl, rfl, by decide +kernel, rfl, by decide +kernel, by decide +kernel⟩
theorem ck9 : chkSs (ckOf L.T L.gl L.hid l9.d) l9.d.scope l9.d.fn.body l9.d.body = true := by kernel_rfl
theorem bs9_0 {K : PySem.W.Frag} {fa : Addr} {fd : FuncData} (F : FunD K l9.d.fi.name l9.d.qual l9.d.args l9.d.body l9.d.scope (l9.defD.dvs K) [] fa fd) : BindSh K fd l9.ps 3 [] [.at 0, .at 1, .at 2] :=
  BindSh.ofB F (by intro h; cases h) (by decide) rfl 2 (by rfl) (fun _ _ _ _ _ _ _ => fun _ _ _ _ => ⟨_, rfl, rfl⟩)
theorem ok9 : LdOk l9 := ⟨sc9, rfl, by decide, fun K fa fd F sh hs => by
  rcases List.mem_cons.mp hs with rfl | hs
  · exact bs9_0 F
  cases hs⟩
theorem sc10 : FnScope l10.d.N l10.ps l10.d.scope := ⟨rfl, rfl, rfl, by decide +kernel, rfl, by decide +kernel, by decide +kernel⟩
theorem ck10 : chkSs (ckOf L.T L.gl L.hid l10.d) l10.d.scope l10.d.fn.body l10.d.body = true := by kernel_rfl
theorem bs10_0 {K : PySem.W.Frag} {fa : Addr} {fd : FuncData} (F : FunD K l10.d.fi.name l10.d.qual l10.d.args l10.d.body l10.d.scope (l10.defD.dvs K) [] fa fd) : BindSh K fd l10.ps 3 [] [.at 0, .at 1, .at 2] :=
  BindSh.ofB F (by intro h; cases h) (by decide) rfl 2 (by rfl) (fun _ _ _ _ _ _ _ => fun _ _ _ _ => ⟨_, rfl, rfl⟩)
theorem ok10 : LdOk l10 := ⟨sc10, rfl, by decide, fun K fa fd F sh hs => by
  rcases List.mem_cons.mp hs with rfl | hs
  · exact bs10_0 F
  cases hs⟩
theorem sc11 : FnScope l11.d.N l11.ps l11.d.scope := ⟨rfl, rfl, rfl, by decide +kernel, rfl, by decide +kernel, by decide +kernel⟩
theorem ck11 : chkSs (ckOf L.T L.gl L.hid l11.d) l11.d.scope l11.d.fn.body l11.d.body = true := by kernel_rfl
theorem bs11_0 {K : PySem.W.Frag} {fa : Addr} {fd : FuncData} (F : FunD K l11.d.fi.name l11.d.qual l11.d.args l11.d.body l11.d.scope (l11.defD.dvs K) [] fa fd) : BindSh K fd l11.ps 3 [] [.at 0, .at 1, .at 2] :=
  BindSh.ofA F (by decide) rfl (by decide) (fun _ _ _ _ _ _ => fun _ _ _ => rfl)
theorem ok11 : LdOk l11 := ⟨sc11, rfl, by decide, fun K fa fd F sh hs => by
  rcases List.mem_cons.mp hs with rfl | hs
  · exact bs11_0 F
  cases hs⟩
theorem sc12 : FnScope l12.d.N l12.ps l12.d.scope := ⟨rfl, rfl, rfl, by decide +kernel, rfl, by decide +kernel, by decide +kernel⟩
theorem ck12 : chkSs (ckOf L.T L.gl L.hid l12.d) l12.d.scope l12.d.fn.body l12.d.body = true := by kernel_rfl
theorem bs12_0 {K : PySem.W.Frag} {fa : Addr} {fd : FuncData} (F : FunD K l12.d.fi.name l12.d.qual l12.d.args l12.d.body l12.d.scope (l12.defD.dvs K) [] fa fd) : BindSh K fd l12.ps 1 [] [.at 0] :=
  BindSh.ofA F (by decide) rfl (by decide) (fun _ _ _ _ _ _ => fun _ => rfl)
theorem ok12 : LdOk l12 := ⟨sc12, rfl, by decide, fun K fa fd F sh hs => by
  rcases List.mem_cons.mp hs with rfl | hs
  · exact bs12_0 F
  cases hs⟩
theorem sc13 : FnScope l13.d.N l13.ps l13.d.scope := ⟨rfl, rfl, rfl, by decide +kernel, rfl, by decide +kernel, by decide +kernel⟩
theorem ck13 : chkSs (ckOf L.T L.gl L.hid l13.d) l13.d.scope l13.d.fn.body l13.d.body = true := by kernel_rfl
theorem bs13_0 {K : PySem.W.Frag} {fa : Addr} {fd : FuncData} (F : FunD K l13.d.fi.name l13.d.qual l13.d.args l13.d.body l13.d.scope (l13.defD.dvs K) [] fa fd) : BindSh K fd l13.ps 4 [] [.at 0, .at 1, .at 2, .at 3] :=
  BindSh.ofB F (by intro h; cases h) (by decide) rfl 3 (by rfl) (fun _ _ _ _ _ _ _ => fun _ _ _ _ _ => ⟨_, rfl, rfl⟩)
theorem ok13 : LdOk l13 := ⟨sc13, rfl, by decide, fun K fa fd F sh hs => by
  rcases List.mem_cons.mp hs with rfl | hs
  · exact bs13_0 F
  cases hs⟩
theorem sc14 : FnScope l14.d.N l14.ps l14.d.scope := ⟨rfl, rfl, rfl, by decide +kernel, rfl, by decide +kernel, by decide +kernel⟩
theorem ck14 : chkSs (ckOf L.T L.gl L.hid l14.d) l14.d.scope l14.d.fn.body l14.d.body = true := by kernel_rfl
theorem bs14_0 {K : PySem.W.Frag} {fa : Addr} {fd : FuncData} (F : FunD K l14.d.fi.name l14.d.qual l14.d.args l14.d.body l14.d.scope (l14.defD.dvs K) [] fa fd) : BindSh K fd l14.ps 2 [] [.at 0, .at 1] :=
  BindSh.ofA F (by decide) rfl (by decide) (fun _ _ _ _ _ _ => fun _ _ => rfl)
theorem ok14 : LdOk l14 := ⟨sc14, rfl, by decide, fun K fa fd F sh hs => by
  rcases List.mem_cons.mp hs with rfl | hs
  · exact bs14_0 F
  cases hs⟩
theorem sc15 : FnScope l15.d.N l15.ps l15.d.scope := ⟨rfl, rfl, rfl, by decide +kernel, rfl, by decide +kernel, by decide +kernel⟩
theorem ck15 : chkSs (ckOf L.T L.gl L.hid l15.d) l15.d.scope l15.d.fn.body l15.d.body = true := by kernel_rfl
theorem bs15_0 {K : PySem.W.Frag} {fa : Addr} {fd : FuncData} (F : FunD K l15.d.fi.name l15.d.qual l15.d.args l15.d.body l15.d.scope (l15.defD.dvs K) [] fa fd) : BindSh K fd l15.ps 5 [] [.at 0, .at 1, .at 2, .at 3, .at 4] :=
  BindSh.ofB F (by intro h; cases h) (by decide) rfl 4 (by rfl) (fun _ _ _ _ _ _ _ => fun _ _ _ _ _ _ => ⟨_, rfl, rfl⟩)
theorem ok15 : LdOk l15 := ⟨sc15, rfl, by decide, fun K fa fd F sh hs => by
  rcases List.mem_cons.mp hs with rfl | hs
  · exact bs15_0 F
  cases hs⟩
theorem sc16 : FnScope l16.d.N l16.ps l16.d.scope := ⟨rfl, rfl, rfl, by decide +kernel, rfl, by decide +kernel, by decide +kernel⟩
theorem ck16 : chkSs (ckOf L.T L.gl L.hid l16.d) l16.d.scope l16.d.fn.body l16.d.body = true := by kernel_rfl
theorem bs16_0 {K : PySem.W.Frag} {fa : Addr} {fd : FuncData} (F : FunD K l16.d.fi.name l16.d.qual l16.d.args l16.d.body l16.d.scope (l16.defD.dvs K) [] fa fd) : BindSh K fd l16.ps 1 [] [.at 0] :=
  BindSh.ofA F (by decide) rfl (by decide) (fun _ _ _ _ _ _ => fun _ => rfl)
theorem ok16 : LdOk l16 := ⟨sc16, rfl, by decide, fun K fa fd F sh hs => by
  rcases List.mem_cons.mp hs with rfl | hs
  · exact bs16_0 F
  cases hs⟩
theorem sc17 : FnScope l17.d.N l17.ps l17.d.scope := ⟨rfl, rfl, rfl, by decide +kernel, rfl, by decide +kernel, by decide +kernel⟩
theorem ck17 : chkSs (ckOf L.T L.gl L.hid l17.d) l17.d.scope l17.d.fn.body l17.d.body = true := by kernel_rfl
theorem bs17_0 {K : PySem.W.Frag} {fa : Addr} {fd : FuncData} (F : FunD K l17.d.fi.name l17.d.qual l17.d.args l17.d.body l17.d.scope (l17.defD.dvs K) [] fa fd) : BindSh K fd l17.ps 2 [] [.at 0, .at 1] :=
  BindSh.ofA F (by decide) rfl (by decide) (fun _ _ _ _ _ _ => fun _ _ => rfl)
theorem ok17 : LdOk l17 := ⟨sc17, rfl, by decide, fun K fa fd F sh hs => by
  rcases List.mem_cons.mp hs with rfl | hs
  · exact bs17_0 F
  cases hs⟩
theorem sc18 : FnScope l18.d.N l18.ps l18.d.scope := ⟨rfl, rfl, rfl, by decide +kernel, rfl, by decide +kernel, by decide +kernel⟩
theorem ck18 : chkSs (ckOf L.T L.gl L.hid l18.d) l18.d.scope l18.d.fn.body l18.d.body = true := by kernel_rfl
theorem bs18_0 {K : PySem.W.Frag} {fa : Addr} {fd : FuncData} (F : FunD K l18.d.fi.name l18.d.qual l18.d.args l18.d.body l18.d.scope (l18.defD.dvs K) [] fa fd) : BindSh K fd l18.ps 3 [] [.at 0, .at 1, .at 2] :=
  BindSh.ofA F (by decide) rfl (by decide) (fun _ _ _ _ _ _ => fun _ _ _ => rfl)
theorem ok18 : LdOk l18 := ⟨sc18, rfl, by decide, fun K fa fd F sh hs => by
  rcases List.mem_cons.mp hs with rfl | hs
  · exact bs18_0 F
  cases hs⟩
theorem sc19 : FnScope l19.d.N l19.ps l19.d.scope := ⟨rfl, rfl, rfl, by decide +kernel, rfl, by decide +kernel, by decide +kernel⟩
theorem ck19 : chkSs (ckOf L.T L.gl L.hid l19.d) l19.d.scope l19.d.fn.body l19.d.body = true := by kernel_rfl
theorem bs19_0 {K : PySem.W.Frag} {fa : Addr} {fd : FuncData} (F : FunD K l19.d.fi.name l19.d.qual l19.d.args l19.d.body l19.d.scope (l19.defD.dvs K) [] fa fd) : BindSh K fd l19.ps 3 [] [.at 0, .at 1, .at 2] :=
  BindSh.ofA F (by decide) rfl (by decide) (fun _ _ _ _ _ _ => fun _ _ _ => rfl)
theorem ok19 : LdOk l19 := ⟨sc19, rfl, by decide, fun K fa fd F sh hs => by
  rcases List.mem_cons.mp hs with rfl | hs
  · exact bs19_0 F
  cases hs⟩
theorem sc20 : FnScope l20.d.N l20.ps l20.d.scope := ⟨rfl, rfl, rfl, by decide +kernel, rfl, by decide +kernel, by decide +kernel⟩
theorem ck20 : chkSs (ckOf L.T L.gl L.hid l20.d) l20.d.scope l20.d.fn.body l20.d.body = true := by kernel_rfl
theorem bs20_0 {K : PySem.W.Frag} {fa : Addr} {fd : FuncData} (F : FunD K l20.d.fi.name l20.d.qual l20.d.args l20.d.body l20.d.scope (l20.defD.dvs K) [] fa fd) : BindSh K fd l20.ps 4 [] [.at 0, .at 1, .at 2, .at 3] :=
  BindSh.ofA F (by decide) rfl (by decide) (fun _ _ _ _ _ _ => fun _ _ _ _ => rfl)
theorem ok20 : LdOk l20 := ⟨sc20, rfl, by decide, fun K fa fd F sh hs => by
  rcases List.mem_cons.mp hs with rfl | hs
  · exact bs20_0 F
  cases hs⟩
theorem sc21 : FnScope l21.d.N l21.ps l21.d.scope := ⟨rfl, rfl, rfl, by decide +kernel, rfl, by decide +kernel, by decide +kernel⟩
theorem ck21 : chkSs (ckOf L.T L.gl L.hid l21.d) l21.d.scope l21.d.fn.body l21.d.body = true := by kernel_rfl
theorem bs21_0 {K : PySem.W.Frag} {fa : Addr} {fd : FuncData} (F : FunD K l21.d.fi.name l21.d.qual l21.d.args l21.d.body l21.d.scope (l21.defD.dvs K) [] fa fd) : BindSh K fd l21.ps 1 [] [.at 0] :=
  BindSh.ofA F (by decide) rfl (by decide) (fun _ _ _ _ _ _ => fun _ => rfl)
theorem ok21 : LdOk l21 := ⟨sc21, rfl, by decide, fun K fa fd F sh hs => by
  rcases List.mem_cons.mp hs with rfl | hs
  · exact bs21_0 F
  cases hs⟩
theorem sc22 : FnScope l22.d.N l22.ps l22.d.scope := ⟨rfl, rfl, rfl, by decide +kernel, rfl, by decide +kernel, by decide +kernel⟩
theorem ck22 : chkSs (ckOf L.T L.gl L.hid l22.d) l22.d.scope l22.d.fn.body l22.d.body = true := by kernel_rfl
theorem bs22_0 {K : PySem.W.Frag} {fa : Addr} {fd : FuncData} (F : FunD K l22.d.fi.name l22.d.qual l22.d.args l22.d.body l22.d.scope (l22.defD.dvs K) [] fa fd) : BindSh K fd l22.ps 2 [] [.at 0, .at 1] :=
  BindSh.ofA F (by decide) rfl (by decide) (fun _ _ _ _ _ _ => fun _ _ => rfl)
theorem ok22 : LdOk l22 := ⟨sc22, rfl, by decide, fun K fa fd F sh hs => by
  rcases List.mem_cons.mp hs with rfl | hs
  · exact bs22_0 F
  cases hs⟩
theorem sc23 : FnScope l23.d.N l23.ps l23.d.scope := ⟨rfl, rfl, rfl, by decide +kernel, rfl, by decide +kernel, by decide +kernel⟩
theorem ck23 : chkSs (ckOf L.T L.gl L.hid l23.d) l23.d.scope l23.d.fn.body l23.d.body = true := by kernel_rfl
theorem bs23_0 {K : PySem.W.Frag} {fa : Addr} {fd : FuncData} (F : FunD K l23.d.fi.name l23.d.qual l23.d.args l23.d.body l23.d.scope (l23.defD.dvs K) [] fa fd) : BindSh K fd l23.ps 4 [] [.at 0, .at 1, .at 2, .at 3] :=
  BindSh.ofA F (by decide) rfl (by decide) (fun _ _ _ _ _ _ => fun _ _ _ _ => rfl)
theorem ok23 : LdOk l23 := ⟨sc23, rfl, by decide, fun K fa fd F sh hs => by
  rcases List.mem_cons.mp hs with rfl | hs
  · exact bs23_0 F
  cases hs⟩
theorem sc24 : FnScope l24.d.N l24.ps l24.d.scope := ⟨rfl, rfl, rfl, by decide +kernel, rfl, by decide +kernel, by decide +kernel⟩
theorem ck24 : chkSs (ckOf L.T L.gl L.hid l24.d) l24.d.scope l24.d.fn.body l24.d.body = true := by kernel_rfl
theorem bs24_0 {K : PySem.W.Frag} {fa : Addr} {fd : FuncData} (F : FunD K l24.d.fi.name l24.d.qual l24.d.args l24.d.body l24.d.scope (l24.defD.dvs K) [] fa fd) : BindSh K fd l24.ps 1 [] [.at 0] :=
  BindSh.ofA F (by decide) rfl (by decide) (fun _ _ _ _ _ _ => fun _ => rfl)
theorem ok24 : LdOk l24 := ⟨sc24, rfl, by decide, fun K fa fd F sh hs => by
  rcases List.mem_cons.mp hs with rfl | hs
  · exact bs24_0 F
  cases hs⟩
theorem sc25 : FnScope l25.d.N l25.ps l25.d.scope := ⟨rfl, rfl, rfl, by decide +kernel, rfl, by decide +kernel, by decide +kernel⟩
theorem ck25 : chkSs (ckOf L.T L.gl L.hid l25.d) l25.d.scope l25.d.fn.body l25.d.body = true := by kernel_rfl
theorem bs25_0 {K : PySem.W.Frag} {fa : Addr} {fd : FuncData} (F : FunD K l25.d.fi.name l25.d.qual l25.d.args l25.d.body l25.d.scope (l25.defD.dvs K) [] fa fd) : BindSh K fd l25.ps 1 [] [.at 0] :=
  BindSh.ofA F (by decide) rfl (by decide) (fun _ _ _ _ _ _ => fun _ => rfl)
theorem ok25 : LdOk l25 := ⟨sc25, rfl, by decide, fun K fa fd F sh hs => by
  rcases List.mem_cons.mp hs with rfl | hs
  · exact bs25_0 F
  cases hs⟩
theorem oks : ∀ l ∈ L.ls, LdOk l := by
  intro l h
  rcases List.mem_cons.mp h with rfl | h
  · exact ok0
  rcases List.mem_cons.mp h with rfl | h
  · exact ok1
  rcases List.mem_cons.mp h with rfl | h
  · exact ok2
  rcases List.mem_cons.mp h with rfl | h
  · exact ok3
  rcases List.mem_cons.mp h with rfl | h
  · exact ok4
  rcases List.mem_cons.mp h with rfl | h
  · exact ok5
  rcases List.mem_cons.mp h with rfl | h
  · exact ok6
  rcases List.mem_cons.mp h with rfl | h
  · exact ok7
  rcases List.mem_cons.mp h with rfl | h
  · exact ok8
  rcases List.mem_cons.mp h with rfl | h
  · exact ok9
  rcases List.mem_cons.mp h with rfl | h
  · exact ok10
  rcases List.mem_cons.mp h with rfl | h
  · exact ok11
  rcases List.mem_cons.mp h with rfl | h
  · exact ok12
  rcases List.mem_cons.mp h with rfl | h
  · exact ok13
  rcases List.mem_cons.mp h with rfl | h
  · exact ok14
  rcases List.mem_cons.mp h with rfl | h
  · exact ok15
  rcases List.mem_cons.mp h with rfl | h
  · exact ok16
  rcases List.mem_cons.mp h with rfl | h
  · exact ok17
  rcases List.mem_cons.mp h with rfl | h
  · exact ok18
  rcases List.mem_cons.mp h with rfl | h
  · exact ok19
  rcases List.mem_cons.mp h with rfl | h
  · exact ok20
  rcases List.mem_cons.mp h with rfl | h
  · exact ok21
  rcases List.mem_cons.mp h with rfl | h
  · exact ok22
  rcases List.mem_cons.mp h with rfl | h
  · exact ok23
  rcases List.mem_cons.mp h with rfl | h
  · exact ok24
  rcases List.mem_cons.mp h with rfl | h
  · exact ok25
  cases h
theorem cks : ∀ l ∈ L.ls, chkSs (ckOf L.T L.gl L.hid l.d) l.d.scope l.d.fn.body l.d.body = true := by
  intro l h
  rcases List.mem_cons.mp h with rfl | h
  · exact ck0
  rcases List.mem_cons.mp h with rfl | h
  · exact ck1
  rcases List.mem_cons.mp h with rfl | h
  · exact ck2
  rcases List.mem_cons.mp h with rfl | h
  · exact ck3
  rcases List.mem_cons.mp h with rfl | h
  · exact ck4
  rcases List.mem_cons.mp h with rfl | h
  · exact ck5
  rcases List.mem_cons.mp h with rfl | h
  · exact ck6
  rcases List.mem_cons.mp h with rfl | h
  · exact ck7
  rcases List.mem_cons.mp h with rfl | h
  · exact ck8
  rcases List.mem_cons.mp h with rfl | h
  · exact ck9
  rcases List.mem_cons.mp h with rfl | h
  · exact ck10
  rcases List.mem_cons.mp h with rfl | h
  · exact ck11
  rcases List.mem_cons.mp h with rfl | h
  · exact ck12
  rcases List.mem_cons.mp h with rfl | h
  · exact ck13
  rcases List.mem_cons.mp h with rfl | h
  · exact ck14
  rcases List.mem_cons.mp h with rfl | h
  · exact ck15
  rcases List.mem_cons.mp h with rfl | h
  · exact ck16
  rcases List.mem_cons.mp h with rfl | h
  · exact ck17
  rcases List.mem_cons.mp h with rfl | h
  · exact ck18
  rcases List.mem_cons.mp h with rfl | h
  · exact ck19
  rcases List.mem_cons.mp h with rfl | h
  · exact ck20
  rcases List.mem_cons.mp h with rfl | h
  · exact ck21
  rcases List.mem_cons.mp h with rfl | h
  · exact ck22
  rcases List.mem_cons.mp h with rfl | h
  · exact ck23
  rcases List.mem_cons.mp h with rfl | h
  · exact ck24
  rcases List.mem_cons.mp h with rfl | h
  · exact ck25
  cases h
abbrev R : PySem.W.OpenRow := PySem.W.OpenLaw.row PySem.Challenge.rw_feastrobes_k10_a_great_house
abbrev hk : PySem.W.Hook := He.hookD 6 L.fa L.fn
def ob (s : PySem.W.SharedT) : He.AlD := He.obsDG 6 L.fa L.fn (HandSHeadRun.getT s)
theorem ob_eq (s : PySem.W.SharedT) : ob s = hk.obs s.abs := He.obsDG_eq (HandSHeadRun.getT_eq s)
def loose : List PySem.Str := ["placed", "holders_of", "matching", "left_over", "is_whole", "bounds", "window", "fits", "able_robes", "robing", "short", "is_pair", "are_rising", "lets_robing", "is_lot", "lets_lot", "_law_pen", "_law_take", "_law_fits", "_law_able", "_law_seated", "_law_held", "_law_whole", "_law_right", "_law_great"]
theorem run (w : World) : HandSHeadRun.RunEq R (PySem.W.view R.prog [30]) hk ob 20000 loose w := by
  intro os
  kernel_rfl
end Lw0
namespace Lw0
open PySem L2 Vi
set_option hygiene false in
local macro_rules
  | `(tactic| simp! only [$ls,*] $[$l:location]?) => `(tactic| simp only [q_e_var, q_e_non, q_e_bl, q_e_int, q_e_str, q_e_glo, q_e_bin, q_e_neg, q_e_cmp, q_e_cmp2, q_e_and, q_e_or, q_e_not, q_e_ite, q_e_tup, q_e_lst, q_e_dct, q_e_idx, q_e_slc, q_e_rev, q_e_call, q_e_bi, q_e_op, q_op_cons, q_e_isi, q_e_mut, q_e_comp, q_d_nil, q_d_cons, q_o_nil, q_o_cons, q_a_nil, q_a_var, q_oP_non, q_ob_non, q_al_non, q_am_non, q_af_non, q_oP_bl, q_ob_bl, q_al_bl, q_am_bl, q_af_bl, q_oP_int, q_ob_int, q_al_int, q_am_int, q_af_int, q_oP_str, q_ob_str, q_al_str, q_am_str, q_af_str, q_oP_glo, q_ob_glo, q_al_glo, q_am_glo, q_af_glo, q_oP_bin, q_ob_bin, q_al_bin, q_am_bin, q_af_bin, q_oP_neg, q_ob_neg, q_al_neg, q_am_neg, q_af_neg, q_oP_cmp, q_ob_cmp, q_al_cmp, q_am_cmp, q_af_cmp, q_oP_cmp2, q_ob_cmp2, q_al_cmp2, q_am_cmp2, q_af_cmp2, q_oP_and, q_ob_and, q_al_and, q_am_and, q_af_and, q_oP_or, q_ob_or, q_al_or, q_am_or, q_af_or, q_oP_not, q_ob_not, q_al_not, q_am_not, q_af_not, q_oP_ite, q_ob_ite, q_al_ite, q_am_ite, q_af_ite, q_oP_tup, q_ob_tup, q_al_tup, q_am_tup, q_af_tup, q_oP_lst, q_ob_lst, q_al_lst, q_am_lst, q_af_lst, q_oP_dct, q_ob_dct, q_al_dct, q_am_dct, q_af_dct, q_oP_idx, q_ob_idx, q_al_idx, q_am_idx, q_af_idx, q_oP_slc, q_ob_slc, q_al_slc, q_am_slc, q_af_slc, q_oP_rev, q_ob_rev, q_al_rev, q_am_rev, q_af_rev, q_oP_call, q_ob_call, q_al_call, q_am_call, q_af_call, q_oP_bi, q_ob_bi, q_al_bi, q_am_bi, q_af_bi, q_oP_isi, q_ob_isi, q_al_isi, q_am_isi, q_af_isi, q_oP_mut, q_ob_mut, q_al_mut, q_am_mut, q_af_mut, q_oP_op, q_ob_op, q_al_op, q_am_op, q_af_op, q_oP_comp, q_ob_comp, q_al_comp, q_am_comp, q_af_comp, q_c_nil, q_c_cons, q_s_lst, q_s_tup, q_s_range, q_s_enum, q_s_zip, q_s_items, q_s_keys, q_s_vals, q_t_ex, q_t_asg, q_t_asgP, q_t_asgT, q_t_aug, q_t_setI, q_t_setI2, q_t_whl, q_t_ifs, q_t_for, q_t_retv, q_tr_non, q_tr_bl, q_tr_int, q_tr_str, q_tr_glo, q_tr_bin, q_tr_neg, q_tr_cmp, q_tr_cmp2, q_tr_and, q_tr_or, q_tr_not, q_tr_ite, q_tr_tup, q_tr_lst, q_tr_dct, q_tr_idx, q_tr_slc, q_tr_rev, q_tr_call, q_tr_bi, q_tr_isi, q_tr_mut, q_tr_op, q_tr_comp, q_t_retN, q_t_brk, q_t_cont, q_t_pass, q_ss_n, P_bind, P_ok, lc_P, f_slcl, f_slcs, f_slct, part0, part1, P_boolOf, bk_b, P_d, br_t, br_f, sq_n, sq_r, sq_b, sq_c, rv_, rv_val, rv_lst, rv_dct, rt_, rt_val, rt_own, rt_io, op_, op_val, op_own, av_, av_val, av_own, rd_v, rd_, rd_sv, rd_sl, rd_sd, lo_v, lo_, lo_val, lo_own, lo_lk, or_n, or_a, or_d, au_i, au_ii, au_add, au_sub, pb_n, pb_v, pb_s, p1_oo, p1_ov, p1_v, rds_n, rds_c, sv_val, sv_own, ss_, ss_no, ss_val, ss_own, oa_, oa_own, dd_val, dd_lst, dd_dct, bo_ok, bin2_c, cmp2_c, idx2_c, neg1_c, rev1_c, svs_n, svs_c, sps_n, sps_i, sps_t, untup_c, unlst_c, unseq_l, unseq_t, sel_t, sel_f, undct_c, untwo_c, b_ok, b_no, l_some, l_none, frz_val, frz_lst, frz_dct, f_add, f_addl, f_addt, f_sub, f_mulL, f_mulR, f_fdiv, f_mod, f_pow, f_lt, f_le, f_gt, f_ge, f_eq, f_ne, f_eqb, f_eqT2, f_isn, f_isni, f_isnb, f_isnl, f_isnt, f_nisn, f_nisni, f_nisnl, f_nisnt, f_neb, f_isb, f_nisb, f_nenil, f_lenl, f_lent, f_abs, f_min, f_max, f_min3, f_max3, f_intb, f_int, f_listl, f_listt, f_tupl, f_tupt, f_set, isl_l, pre_lenSet, pre_sortSet, pre_inVals, pre_ninVals, pre_lr1, pre_lr2, pre_dictOf, pre_min1, pre_max1, rest_n, rest_c, rst_s, pre_repr, f_neshw, f_eqshw, pre_get1, pre_get2, f_lenSet, f_sortSet, f_get1, f_get2, f_get2b, f_inVals, f_ninVals, f_lr1, f_min1, f_max1, f_sort, f_sum, f_anyb, f_allb, f_meml, f_nmeml, f_memd, f_nmemd, f_ixd, f_lend, f_setd, f_dct0, f_ins, isl_d, f_app, f_mkT, f_mkL, sm64_of, ix0, ix1, ix2, ix3, ixm1, f_isi1, f_isi2, f_isi3, f_isi4, f_isi5, f_isi6, f_isi7, f_isi8, f_isi9, f_isi10, f_isi11, f_isi12, f_isi13, f_isi14, f_isi15, f_isi16, f_isi17, f_isi18, f_isi19, f_isi20, f_isi21, f_isi22, f_isi23, f_isi24, f_isi25, f_isi26, f_isi27, f_isi28, f_isi29, f_isi30, List.getElem?_cons_zero, List.getElem?_cons_succ, List.set_cons_zero, List.set_cons_succ, List.map_cons, List.map_nil, List.cons_append, List.nil_append, List.replicate, Option.bind_some, Option.map_some, List.length_cons, List.length_nil, inOf, outOf, C.toD, Cst.d, Nat.reduceAdd, Int.reduceNeg, Bool.not_true, Bool.not_false, decide_true, decide_false, List.isEmpty_nil, List.isEmpty_cons, Bool.and_true, Bool.true_and, if_true, if_false, true_and, and_true, Bool.false_eq_true, Int.reduceLT, Nat.reduceLT, Nat.reduceLeDiff, Int.reduceLE, Nat.zero_le, ne_eq, not_false_eq_true, not_true_eq_false, Int.reduceEq, Nat.reducePow, Int.reducePow, Int.reduceToNat, Int.cast_ofNat_Int, Int.reduceBEq, beq_self_eq_true, Int.reduceAdd, Int.reduceSub, Int.reduceMul, $ls,*] $[$l]?)
abbrev T : Nat → Option Fn := L.tab
theorem fit {n : Nat} : FitsOk T (n + 3) 7 := fits_Q (n := n) (b := 5) (w := 6) rfl rfl rfl
/-- a slot without an object of one's own -/
def Fv (x : Sl) : Prop := x = .no ∨ ∃ d, x = .val false d
theorem Fv.fr {x : Sl} (h : Fv x) : Fr x := by
  rcases h with rfl | ⟨d, rfl⟩
  · exact Fr.no
  · exact Fr.val
def sml (g : Robe) : Prop := -1000 ≤ g.1 ∧ g.1 ≤ 1000 ∧ -1000 ≤ g.2.1 ∧ g.2.1 ≤ 1000 ∧ -1000 ≤ g.2.2 ∧ g.2.2 ≤ 1000
theorem great_Q {n : Nat} {cells : List Int} {at_ great : Int} {cs : List C} (h0 : 0 ≤ at_) (h1 : at_ ≤ 100) : (dCall T (n + 2) 24 [.own (pen cells at_ great)] cs).Q fun v outs cs' => ∃ crowd stock loose at' gr', v = .val (.tup [crowdD crowd, stockD stock, .int loose]) ∧ crowd.length ≤ 12 ∧ (∀ c ∈ crowd, 1 ≤ c ∧ c ≤ 500) ∧ stock.length ≤ 100 ∧ (∀ g ∈ stock, sml g) ∧ 0 ≤ loose ∧ loose ≤ 9 ∧ outs = [.own (pen cells at' gr')] ∧ cs' = cs := by
  refine call_Q (fn := ⟨1, 6, b24⟩) rfl rfl ?_
  simp only [b24]
  simp! only [q_ss_c]
  refine do_P rfl rfl ((take_Q (T := T) (f := 17) rfl _ _ _ _ _ (by omega) (by omega) (by first | decide | omega | ((repeat' split) <;> omega)) (by first | decide | omega | ((repeat' split) <;> omega))).mono ?_)
  rintro v_ q_ c_ ⟨n1, at_a1, gr_a1, rfl, hn1, hn1', ha1, ha1', rfl, rfl⟩
  simp! only [q_ss_c]
  have hr1 := rng1 (j := 12 - n1) (by omega) (by omega)
  simp! only [q_ss_c, hr1]
  refine lcG_P (fun j acc wr c2 => ∃ ws : List Int, ∃ at' gr', wr = [.own true false (pen cells at' gr'), .no, .no, .no, .no, .no] ∧ acc = ws.map .int ∧ ws.length = j ∧ (∀ c ∈ ws, 1 ≤ c ∧ c ≤ 500) ∧ at_a1 ≤ at' ∧ at' ≤ at_a1 + (j : Int) ∧ c2 = c_) rfl ⟨[], _, _, rfl, rfl, rfl, (fun _ h => nomatch h), by omega, by omega, rfl⟩ ?_ ?_ ?_
  · rintro j d acc wr c2 hj ⟨ws, at2, gr2, rfl, rfl, hl, hw, ha, hb, rfl⟩
    obtain ⟨hjl, rfl⟩ := rangeD_get hj
    refine ⟨[.own true false (pen cells at2 gr2), .no, .no, .no, .val false (.int (0 + (j : Int))), .no], rfl, ?_⟩
    simp! only [q_ss_c]
    refine do_P rfl rfl ((take_Q (T := T) (f := 17) rfl _ _ _ _ _ (by omega) (by omega) (by first | decide | omega | ((repeat' split) <;> omega)) (by first | decide | omega | ((repeat' split) <;> omega))).mono ?_)
    rintro v_ q_ c_ ⟨z, at_b, gr_b, rfl, hz, hz', hb, hb', rfl, rfl⟩
    simp! only [q_ss_c]
    exact ⟨by rw [List.length_map]; omega, ws ++ [1 + z], _, _, rfl, by rw [List.map_append]; rfl, by rw [List.length_append, hl]; rfl, fun c h => by
      rcases List.mem_append.mp h with h | h
      · exact hw c h
      · rw [List.mem_singleton.mp h]; omega, by omega, by omega⟩
  · rintro a wr c2 hwl ⟨ws, at2, gr2, rfl, rfl, hl, hw, ha, hb, rfl⟩
    rw [rangeD_len] at hl hb
    simp! only [q_ss_c, List.length_map]
    refine do_P rfl rfl ((take_Q (T := T) (f := 17) rfl _ _ _ _ _ (by omega) (by omega) (by first | decide | omega | ((repeat' split) <;> omega)) (by first | decide | omega | ((repeat' split) <;> omega))).mono ?_)
    rintro v_ q_ c_ ⟨n2, at_a2, gr_a2, rfl, hn2, hn2', ha2, ha2', rfl, rfl⟩
    simp! only [q_ss_c]
    have hr2 := rng1 (j := 1 + n2) (by omega) (by omega)
    simp! only [q_ss_c, hr2]
    refine lcG_P (fun j acc wr c3 => ∃ us : List Int, ∃ at' gr', wr = [.own true false (pen cells at' gr'), .own false false (.lst (ws.map .int)), .no, .no, .no, .no] ∧ acc = us.map .int ∧ us.length = j ∧ (∀ c ∈ us, 1 ≤ c ∧ c ≤ 500) ∧ at_a2 ≤ at' ∧ at' ≤ at_a2 + (j : Int) ∧ c3 = c_) rfl ⟨[], _, _, rfl, rfl, rfl, (fun _ h => nomatch h), by omega, by omega, rfl⟩ ?_ ?_ ?_
    · rintro j d acc wr c3 hj ⟨us, at3, gr3, rfl, rfl, hl3, hu, ha3, hb3, rfl⟩
      obtain ⟨hjl, rfl⟩ := rangeD_get hj
      refine ⟨[.own true false (pen cells at3 gr3), .own false false (.lst (ws.map .int)), .no, .no, .val false (.int (0 + (j : Int))), .no], rfl, ?_⟩
      simp! only [q_ss_c, List.length_map]
      refine do_P rfl rfl ((take_Q (T := T) (f := 17) rfl _ _ _ _ _ (by omega) (by omega) (by first | decide | omega | ((repeat' split) <;> omega)) (by first | decide | omega | ((repeat' split) <;> omega))).mono ?_)
      rintro v_ q_ c_ ⟨z, at_b, gr_b, rfl, hz, hz', hb, hb', rfl, rfl⟩
      simp! only [q_ss_c]
      obtain ⟨c, hc⟩ : ∃ c, ws[z.toNat]? = some c := ⟨_, List.getElem?_eq_getElem (by omega)⟩
      have hix : idxD (.lst (ws.map .int)) (.int z) = some (.int c) := ix_l hz (by rw [List.length_map]; omega) (by rw [List.getElem?_map, hc]; rfl)
      simp! only [q_ss_c, hix]
      exact ⟨by omega, us ++ [c], _, _, rfl, by rw [List.map_append]; rfl, by rw [List.length_append, hl3]; rfl, fun x h => by
        rcases List.mem_append.mp h with h | h
        · exact hu x h
        · rw [List.mem_singleton.mp h]; exact hw c (List.mem_of_getElem? hc), by omega, by omega⟩
    · rintro a wr c3 hwl ⟨us, at3, gr3, rfl, rfl, hl3, hu, ha3, hb3, rfl⟩
      rw [rangeD_len] at hl3 hb3
      simp! only [q_ss_c]
      refine do_P rfl rfl ((take_Q (T := T) (f := 17) rfl _ _ _ _ _ (by omega) (by omega) (by first | decide | omega | ((repeat' split) <;> omega)) (by first | decide | omega | ((repeat' split) <;> omega))).mono ?_)
      rintro v_ q_ c_ ⟨n3, at_a3, gr_a3, rfl, hn3, hn3', ha3, ha3', rfl, rfl⟩
      simp! only [q_ss_c]
      refine lixJ_P (lo := 0) (hi := 100) hn3 (by exact hn3') (by repeat (first | exact MI.nil | refine MI.cons (by first | omega | ((repeat' split) <;> omega)) (by first | omega | ((repeat' split) <;> omega)) ?_)) fun m3 hm3 hm3' => ?_
      simp! only [q_ss_c]
      have hr3 := rng1 (j := m3) hm3 (by omega)
      simp! only [q_ss_c, hr3]
      refine for0_P (fun j r cs' => ∃ at' gr' stock y4 y5, r = [.own true false (pen cells at' gr'), .own false false (.lst (ws.map .int)), .own false false (.lst (us.map .int)), .own false false (.lst (stock.map robeD)), y4, y5] ∧ (Fv y4 ∧ Fr y5) ∧ stock.length = j ∧ (∀ g ∈ stock, sml g) ∧ at_a3 ≤ at' ∧ at' ≤ at_a3 + 5 * (j : Int) ∧ cs' = c_) ⟨_, _, [], _, _, rfl, ⟨.inl rfl, Fr.no⟩, rfl, (fun c h => nomatch h), by omega, by omega, rfl⟩ ?_ ?_
      · rintro j d r cs' hj ⟨at4, gr4, stock, y4, y5, rfl, ⟨f4, f5⟩, hl4, hs, ha4, hb4, rfl⟩
        obtain ⟨hjl, rfl⟩ := rangeD_get hj
        refine ⟨_, by show setS _ _ _ = some _; rw [ss_]; exact f4.fr.st _ _ _, ?_⟩
        simp! only [q_ss_c, List.length_map]
        refine do_P rfl rfl ((take_Q (T := T) (f := 17) rfl _ _ _ _ _ (by omega) (by omega) (by first | decide | omega | ((repeat' split) <;> omega)) (by first | decide | omega | ((repeat' split) <;> omega))).mono ?_)
        rintro v_ q_ c_ ⟨z1, at_b1, gr_b1, rfl, hz1, hz1', hb1, hb1', rfl, rfl⟩
        simp! only [q_ss_c]
        obtain ⟨c, hc⟩ : ∃ c, us[z1.toNat]? = some c := ⟨_, List.getElem?_eq_getElem (by omega)⟩
        have hix : idxD (.lst (us.map .int)) (.int z1) = some (.int c) := ix_l hz1 (by rw [List.length_map]; omega) (by rw [List.getElem?_map, hc]; rfl)
        have hcb := hu c (List.mem_of_getElem? hc)
        simp! only [q_ss_c, hix]
        refine do_P rfl rfl ((take_Q (T := T) (f := 17) rfl _ _ _ _ _ (by omega) (by omega) (by first | decide | omega | ((repeat' split) <;> omega)) (by first | decide | omega | ((repeat' split) <;> omega))).mono ?_)
        rintro v_ q_ c_ ⟨z2, at_b2, gr_b2, rfl, hz2, hz2', hb2, hb2', rfl, rfl⟩
        simp! only [q_ss_c]
        simp! only [q_ss_c, f5.st]
        refine do_P rfl rfl ((take_Q (T := T) (f := 17) rfl _ _ _ _ _ (by omega) (by omega) (by first | decide | omega | ((repeat' split) <;> omega)) (by first | decide | omega | ((repeat' split) <;> omega))).mono ?_)
        rintro v_ q_ c_ ⟨z3, at_b3, gr_b3, rfl, hz3, hz3', hb3, hb3', rfl, rfl⟩
        simp! only [q_ss_c]
        refine do_P rfl rfl ((take_Q (T := T) (f := 17) rfl _ _ _ _ _ (by omega) (by omega) (by first | decide | omega | ((repeat' split) <;> omega)) (by first | decide | omega | ((repeat' split) <;> omega))).mono ?_)
        rintro v_ q_ c_ ⟨z4, at_b4, gr_b4, rfl, hz4, hz4', hb4, hb4', rfl, rfl⟩
        simp! only [q_ss_c]
        have hsm : small64 z3 = true := sm64_of (by omega) (by omega)
        simp! only [q_ss_c, hsm]
        refine do_P rfl rfl ((take_Q (T := T) (f := 17) rfl _ _ _ _ _ (by omega) (by omega) (by first | decide | omega | ((repeat' split) <;> omega)) (by first | decide | omega | ((repeat' split) <;> omega))).mono ?_)
        rintro v_ q_ c_ ⟨z5, at_b5, gr_b5, rfl, hz5, hz5', hb5, hb5', rfl, rfl⟩
        simp! only [q_ss_c]
        have hll : (stock.map robeD).length < 16777216 := by rw [List.length_map]; omega
        have h34 : 0 ≤ z3 * z4 ∧ z3 * z4 ≤ 99 := by
          have : z3 = 0 ∨ z3 = 1 := by omega
          rcases this with rfl | rfl <;> omega
        simp! only [q_ss_c, hll]
        refine ⟨_, _, stock ++ [(c + z2, (if z3 * z4 < c + z2 - 1 then z3 * z4 else c + z2 - 1), z5)], _, _, by rw [List.map_append]; rfl, ⟨.inr ⟨_, rfl⟩, Fr.val⟩, by rw [List.length_append, hl4]; rfl, fun g h => ?_, by omega, by omega⟩
        rcases List.mem_append.mp h with h | h
        · exact hs g h
        · rw [List.mem_singleton.mp h]
          refine ⟨?_, ?_, ?_, ?_, ?_, ?_⟩ <;> dsimp only <;> (repeat' split) <;> omega
      · rintro r cs' ⟨at4, gr4, stock, y4, y5, rfl, ⟨f4, f5⟩, hl4, hs, ha4, hb4, rfl⟩
        rw [rangeD_len] at hl4 hb4
        simp! only [q_ss_c]
        refine do_P rfl rfl ((take_Q (T := T) (f := 17) rfl _ _ _ _ _ (by omega) (by omega) (by first | decide | omega | ((repeat' split) <;> omega)) (by first | decide | omega | ((repeat' split) <;> omega))).mono ?_)
        rintro v_ q_ c_ ⟨n5, at_a5, gr_a5, rfl, hn5, hn5', ha5, ha5', rfl, rfl⟩
        simp! only [q_ss_c]
        refine P_br (fun h5 => ?_) (fun h5 => ?_)
        · have hr9 : rngD [D.int 99] = some ((List.range 99).map fun (i : Nat) => D.int (0 + (i : Int))) := rfl
          have hno : ∀ a b c d e, noOwn [4] [a, b, c, d, y4, e] = true := fun a b c d e => by
            rcases f4 with rfl | ⟨d, rfl⟩ <;> rfl
          simp! only [q_ss_c, hr9]
          refine lcX_P (wr := [.own true false (pen cells at_a5 gr_a5), .own false false (.lst (ws.map .int)), .own false false (.lst (us.map .int)), .own false false (.lst (stock.map robeD)), .no, y5]) (List.range 99) (fun (i : Nat) => D.int (0 + (i : Int))) (fun _ => true) (fun _ => robeD (900, 99, 99)) rfl (by decide) (hno _ _ _ _ _) (fun j hj => nomatch hj) rfl (fun x hx => ⟨[.own true false (pen cells at_a5 gr_a5), .own false false (.lst (ws.map .int)), .own false false (.lst (us.map .int)), .own false false (.lst (stock.map robeD)), .val false (.int (0 + (x : Int))), y5], rfl, ?_⟩) ?_
          · simp! only [q_ss_c]
            first | rfl | exact ⟨rfl, rfl⟩
          · have e9 : (List.range 99).map (fun _ => robeD (900, 99, 99)) = (List.replicate 99 ((900, 99, 99) : Robe)).map robeD := by rw [List.map_const', List.length_range, List.map_replicate]
            obtain ⟨l, c, rfl⟩ : ∃ l c, ws = l ++ [c] := ⟨ws.dropLast, ws.getLast (fun z => by rw [z] at hl; simp at hl; omega), (List.dropLast_concat_getLast _).symm⟩
            have hix : idxD (.lst ((l ++ [c]).map .int)) (.int (-1)) = some (.int c) := by
              show (ixN ((l ++ [c]).map D.int).length (-1)).bind _ = _
              rw [List.length_map, List.length_append, List.length_singleton, ixN_last]
              show ((l ++ [c]).map D.int)[l.length]? = _
              rw [List.getElem?_map, List.getElem?_append_right (Nat.le_refl _), Nat.sub_self]; rfl
            have hcb := hw c (List.mem_append_right _ List.mem_cons_self)
            rw [filt_true, e9]
            simp! only [q_ss_c, hix]
            refine do_P rfl rfl ((take_Q (T := T) (f := 17) rfl _ _ _ _ _ (by omega) (by omega) (by first | decide | omega | ((repeat' split) <;> omega)) (by first | decide | omega | ((repeat' split) <;> omega))).mono ?_)
            rintro v_ q_ c_ ⟨z6, at_b6, gr_b6, rfl, hz6, hz6', hb6, hb6', rfl, rfl⟩
            simp! only [q_ss_c]
            have hsm : small64 99 = true := by decide
            have hadd : binD .add (.lst ((List.replicate 99 ((900, 99, 99) : Robe)).map robeD)) (.lst [robeD (c, 0, 99 * z6)]) = some (.own (.lst ((List.replicate 99 ((900, 99, 99) : Robe) ++ [(c, 0, 99 * z6)]).map robeD))) := addl_map (a := List.replicate 99 ((900, 99, 99) : Robe)) (b := [(c, 0, 99 * z6)]) (by rw [List.length_replicate, List.length_singleton]; decide)
            simp! only [q_ss_c, hsm, hadd]
            refine do_P rfl rfl ((take_Q (T := T) (f := 17) rfl _ _ _ _ _ (by omega) (by omega) (by first | decide | omega | ((repeat' split) <;> omega)) (by first | decide | omega | ((repeat' split) <;> omega))).mono ?_)
            rintro v_ q_ c_ ⟨z7, at_b7, gr_b7, rfl, hz7, hz7', hb7, hb7', rfl, rfl⟩
            simp! only [q_ss_c]
            refine lixJ_P (lo := 0) (hi := 9) hz7 (by exact hz7') (by repeat (first | exact MI.nil | refine MI.cons (by first | omega | ((repeat' split) <;> omega)) (by first | omega | ((repeat' split) <;> omega)) ?_)) fun loose hloose hloose' => ?_
            simp! only [q_ss_c]
            refine ⟨_, List.replicate 99 ((900, 99, 99) : Robe) ++ [(c, 0, 99 * z6)], loose, _, _, rfl, by omega, hw, by rw [List.length_append, List.length_replicate, List.length_singleton]; decide, fun g hg => ?_, hloose, hloose', rfl⟩
            rcases List.mem_append.mp hg with h | h
            · rw [List.eq_of_mem_replicate h]
              refine ⟨?_, ?_, ?_, ?_, ?_, ?_⟩ <;> decide
            · rw [List.mem_singleton.mp h]
              refine ⟨?_, ?_, ?_, ?_, ?_, ?_⟩ <;> dsimp only <;> omega
        · simp! only [q_ss_c]
          refine do_P rfl rfl ((take_Q (T := T) (f := 17) rfl _ _ _ _ _ (by omega) (by omega) (by first | decide | omega | ((repeat' split) <;> omega)) (by first | decide | omega | ((repeat' split) <;> omega))).mono ?_)
          rintro v_ q_ c_ ⟨z7, at_b7, gr_b7, rfl, hz7, hz7', hb7, hb7', rfl, rfl⟩
          simp! only [q_ss_c]
          refine lixJ_P (lo := 0) (hi := 9) hz7 (by exact hz7') (by repeat (first | exact MI.nil | refine MI.cons (by first | omega | ((repeat' split) <;> omega)) (by first | omega | ((repeat' split) <;> omega)) ?_)) fun loose hloose hloose' => ?_
          simp! only [q_ss_c]
          exact ⟨_, stock, loose, _, _, rfl, by omega, hw, by omega, hs, hloose, hloose', rfl⟩
    · rintro j a wr c3 ⟨us, at3, gr3, rfl, _⟩
      rfl
  · rintro j a wr c2 ⟨ws, at2, gr2, rfl, _⟩
    rfl
theorem rok_both {crowd : List Int} {stock : List Robe} (hc : ∀ c ∈ crowd, 1 ≤ c ∧ c ≤ 500) (hs : ∀ g ∈ stock, sml g) (hl : crowd.length ≤ 100) (hl2 : stock.length ≤ 1000) : opD .repr [.tup [crowdD crowd, stockD stock]] = some (.val (shw (.tup [crowdD crowd, stockD stock]))) := by
  have h1 : (crowdD crowd).rok 49 = true := rok_ints fun i hi => by have := hc i hi; omega
  have h2 : (stockD stock).rok 49 = true := by
    show (D.lst (stock.map robeD)).rok 49 = true
    rw [D.rok]
    refine roks_map fun g hg => ?_
    obtain ⟨a1, a2, a3, a4, a5, a6⟩ := hs g hg
    rw [D.rok, D.roks, D.roks, D.roks, D.roks, D.rok, D.rok, D.rok, decide_eq_true (sml_of (by omega) (by omega)), decide_eq_true (sml_of (by omega) (by omega)), decide_eq_true (sml_of (by omega) (by omega))]; rfl
  have h3 : (crowdD crowd).sz ≤ 604 * crowd.length + 3 := sz_ints
  have h4 : (stockD stock).sz ≤ stock.length * 2000 + 3 := by
    show (D.lst (stock.map robeD)).sz ≤ _
    rw [D.sz]
    have := szs_map (f := robeD) (k := 1998) (l := stock) fun g _ => by
      rw [D.sz, D.szs, D.szs, D.szs, D.szs, D.sz, D.sz, D.sz]
      decide
    omega
  refine f_repr ?_ ?_
  · rw [D.rok, D.roks, D.roks, D.roks, h1, h2]; rfl
  · rw [D.sz, D.szs, D.szs, D.szs]
    omega
theorem tells : Tells T 110 25 := by
  intro ns hl
  apply Rc.Q.tells
  refine call_Q (fn := ⟨1, 12, b25⟩) rfl rfl ?_
  simp only [b25]
  simp! only [q_ss_c, f_ixl, f_ixt]
  refine do_P rfl rfl ((pen_Q (T := T) (f := 16) rfl ns hl []).mono ?_)
  rintro v_ q_ c_ ⟨rfl, rfl, rfl⟩
  simp! only [q_ss_c, f_ixl, f_ixt]
  refine do_P rfl rfl ((great_Q (n := 107) (by decide) (by decide)).mono ?_)
  rintro v_ q_ c_ ⟨crowd, stock, loose, at1, gr1, rfl, hcl, hcr, hsl, hsr, hl0, hl9, rfl, rfl⟩
  simp! only [q_ss_c, f_ixl, f_ixt]
  refine do_P rfl rfl ((able_Q (T := T) (f := 19) (ff := 18) (n := 108) rfl (lfits_Q (n := 107) rfl) crowd stock loose _ (by omega) (by omega)).mono ?_)
  rintro v_ q_ c_ ⟨rfl, rfl, rfl⟩
  simp! only [q_ss_c, f_ixl, f_ixt]
  have hal := able_len (crowd := crowd) (stock := stock) (loose := loose)
  have hed : ∀ s p, edge (ableF crowd stock loose) s p → s ∈ spotsU stock.length := fun s p h => (edge_U h).1
  have hld : ∀ (rows : Rows) (cs : List C), rows.length ≤ 63 → (∀ s p, edge rows s p → s ∈ spotsU stock.length) → (dCall T 109 21 [.own (.lst (rowsL rows))] cs).Q fun v outs cs' => ∃ hs, Best rows hs ∧ v = .own (hC hs) ∧ outs = [.own (.lst (rowsL rows))] ∧ cs' = cs := fun rows cs h1 h2 =>
    holders_Q (T := T) (fh := 21) (f := 20) rfl rfl rows (spotsU stock.length) (by rw [spotsU_len]; omega) h2 (by omega) (.inr rfl) 108 (by rw [spotsU_len]; omega) cs
  have hro := fun cs => robing_Q (T := T) (fr := 9) (fa := 8) (ff := 7) (fm := 2) (fh := 1) (f := 0) (k := 106) rfl rfl rfl rfl rfl fit crowd stock loose cs (by omega) (by omega) (by omega)
  have hsh := fun cs => short_Q (T := T) (fr := 10) (fa := 8) (ff := 7) (fl := 3) (fh := 1) (f := 0) (k := 106) rfl rfl rfl rfl rfl fit crowd stock loose cs (by omega) (by omega) (by omega)
  have hrt := fun ms g hm cs => right_Q (T := T) (f := 23) (wh := 22) (lf := 18) (n := 107) rfl rfl rfl crowd stock loose ms g hm cs
  have hlr := fun ds a b cs => letsRobO_Q (T := T) (n := 106) (fl := 13) (fp := 11) (fr := 12) (ff := 7) (fw := 4) rfl rfl rfl rfl fit crowd stock loose ds a b cs
  have hll := fun many ds a b cs => letsLotO_Q (T := T) (n := 106) (f := 15) (l := 14) (w := 4) (r := 12) (ff := 7) rfl rfl rfl rfl fit crowd stock many loose ds a b (by omega) cs
  have hsw := fun ms (t : Told (ableF crowd stock loose) ms) zs (z : Short (ableF crowd stock loose) zs) many => z.shows t many
  have hgd := fun ms (t : Told (ableF crowd stock loose) ms) => t.good
  generalize ableF crowd stock loose = rows at *
  refine do_P rfl rfl ((hld rows _ (by omega) hed).mono ?_)
  rintro v_ q_ c_ ⟨hs0, bst, rfl, rfl, rfl⟩
  simp! only [q_ss_c, f_ixl, f_ixt, rok_both hcr hsr (by omega) (by omega)]
  refine do_P rfl rfl ((hro _).mono ?_)
  rintro v_ q_ c_ ⟨ms, t, rfl, rfl, rfl⟩
  have hml := told_len t
  simp! only [q_ss_c, f_ixl, f_ixt]
  refine do_P rfl rfl ((hrt ms (hgd ms t) (by omega) _).mono ?_)
  rintro v_ q_ c_ ⟨rfl, rfl, rfl⟩
  have hrg : rngD [D.int (rows.length : Int)] = some ((spotsU rows.length).map .int) := by
    rw [rng1 (by omega) (by omega), ← rangeD_spots]; rfl
  simp! only [q_ss_c, f_ixl, f_ixt, List.length_map, t.lenB bst, hrg]
  refine lcX_P (wr := [.val false (.scr (ns.map .int)), .own false false (pen ns at1 gr1), .own false false (.lst (rowsL rows)), .val false (.int (hs0.length : Int)), .val false (shw (.tup [crowdD crowd, stockD stock])), .own false false (.lst (ms.map pairD)), .no, .no, .val false (crowdD crowd), .val false (stockD stock), .val false (.int loose), .no]) (spotsU rows.length) D.int (freeB rows hs0) D.int rfl (by rw [spotsU_len]; omega) rfl (fun j hj => nomatch hj) rfl (fun p hp => ⟨[.val false (.scr (ns.map .int)), .own false false (pen ns at1 gr1), .own false false (.lst (rowsL rows)), .val false (.int (hs0.length : Int)), .val false (shw (.tup [crowdD crowd, stockD stock])), .own false false (.lst (ms.map pairD)), .no, .no, .val false (crowdD crowd), .val false (stockD stock), .val false (.int loose), .val false (.int p)], rfl, ?_⟩) ?_
  · obtain ⟨p0, p1⟩ := mem_spotsU.mp hp
    have e1 : cutD (rowsL rows) none (some p) = (rowsL rows).take p.toNat := cut_to p0
    have e2 : cutD (rowsL rows) (some (p + 1)) none = (rowsL rows).drop (p.toNat + 1) := by
      rw [cut_from (by omega)]
      congr 1
      omega
    have e3 : binD .add (.lst ((rowsL rows).take p.toNat)) (.lst [.lst []]) = some (.own (.lst ((rowsL rows).take p.toNat ++ [.lst []]))) := f_addl (by rw [List.length_take, List.length_map, List.length_singleton]; omega)
    have e4 : binD .add (.lst ((rowsL rows).take p.toNat ++ [.lst []])) (.lst ((rowsL rows).drop (p.toNat + 1))) = some (.own (.lst (rowsL (wo rows p)))) := by
      rw [rowsL_wo]
      exact f_addl (by rw [List.length_append, List.length_take, List.length_drop, List.length_map, List.length_singleton]; omega)
    simp! only [q_ss_c, f_ixl, f_ixt, e1, e2, e3, e4]
    refine do_P rfl rfl ((hld (wo rows p) _ (by rw [wo_len p0 p1]; omega) (fun s q h => hed s q ((edge_wo p0 p1).mp h).1)).mono ?_)
    rintro v_ q_ c_ ⟨hs1, bs1, rfl, rfl, rfl⟩
    have hfb := freeB_of (hs := hs0) bs1
    simp! only [q_ss_c, f_ixl, f_ixt, List.length_map]
    have hdd : decide ((hs1.length : Int) = (hs0.length : Int)) = freeB rows hs0 p := by
      rw [hfb]
      congr 1
      apply propext
      omega
    rw [hdd]
    refine ⟨rfl, ?_⟩
    by_cases hk : freeB rows hs0 p = true
    · rw [if_pos hk]
      first | rfl | exact ⟨rfl, rfl⟩
    · rw [if_neg hk]
      rfl
  · have ef : ((spotsU rows.length).filter (freeB rows hs0)).map D.int = (freeL rows hs0 rows.length).map .int := rfl
    rw [ef]
    simp! only [q_ss_c, f_ixl, f_ixt]
    refine do_P rfl rfl ((hsh _).mono ?_)
    rintro v_ q_ c_ ⟨zs, z, rfl, rfl, rfl⟩
    have hz := z.free bst fun p h0 h1 => best_ex _
    rw [hz]
    have zb := z.bd
    simp! only [q_ss_c, f_ixl, f_ixt, f_nel]
    refine do_P rfl rfl ((hlr (ms.map pairD) (rok_pairs fun q hq => by have := (hgd ms t).bd q hq; omega) (by rw [List.length_map]; omega) _).mono ?_)
    rintro v_ q_ c_ ⟨rfl, rfl, rfl⟩
    simp! only [q_ss_c, f_ixl, f_ixt, (hgd ms t).rob]
    refine do_P rfl rfl ((hll (hs0.length : Int) (zs.map .int) (rok_ints fun i hi => by have := zb.1 i hi; omega) (by rw [List.length_map]; omega) _).mono ?_)
    rintro v_ q_ c_ ⟨rfl, rfl, rfl⟩
    have d1 : decide ((ms.length : Int) ≤ (hs0.length : Int)) = true := by rw [t.lenB bst]; exact decide_eq_true (Int.le_refl _)
    have d2 : decide ((ms.length : Int) ≤ (hs0.length : Int) - 1) = false := by rw [t.lenB bst]; exact decide_eq_false (by omega)
    simp! only [q_ss_c, f_ixl, f_ixt, hsw ms t zs z, d1, rok_both hcr hsr (by omega) (by omega)]
    refine P_br (fun h => ?_) (fun h => ?_)
    · simp! only [q_ss_c, f_ixl, f_ixt]
    · simp! only [q_ss_c, f_ixl, f_ixt]
      refine do_P rfl rfl ((hll ((hs0.length : Int) - 1) (zs.map .int) (rok_ints fun i hi => by have := zb.1 i hi; omega) (by rw [List.length_map]; omega) _).mono ?_)
      rintro v_ q_ c_ ⟨rfl, rfl, rfl⟩
      simp! only [q_ss_c, f_ixl, f_ixt, hsw ms t zs z, d2]
end Lw0
open PySem PySem.W PySem.Calls PyProof.Rows
theorem PySem.Challenge.cw_feastrobes_k10_a_great_house_holds : PySem.Challenge.rw_feastrobes_k10_a_great_house.Holds := by
  w_on; o_law
  refine HandSHeadRun.head_any (r := OpenLaw.row PySem.Challenge.rw_feastrobes_k10_a_great_house) (q := view (OpenLaw.row PySem.Challenge.rw_feastrobes_k10_a_great_house).prog [30]) (H := Lw0.hk) (ob := Lw0.ob) (M := 20000) (loose := Lw0.loose) (d := HandSHeadRun.topDef (OpenLaw.row PySem.Challenge.rw_feastrobes_k10_a_great_house).prog 30) (kwd := []) Lw0.ob_eq
    (by kernel_rfl) (fun s => by kernel_rfl) Lw0.run (by kernel_rfl) (by kernel_rfl) (by kernel_rfl) (by rfl) (by first | assumption | decide +kernel) (by decide +kernel) ⟨rfl, rfl, rfl, rfl, rfl, by decide +kernel⟩ ?hw ?hc
  case hw => w_witness2
  case hc =>
    refine Vi.walkG (l := PySem.Challenge.rw_feastrobes_k10_a_great_house) (n := 63) (k := 110) (x := "_law_script") (CX := Vi.CXA (PySem.Challenge.rw_feastrobes_k10_a_great_house).prog) rfl (by decide) (by kernel_rfl) ⟨rfl, by decide, by decide⟩ ?F Vi.CXA.no
    intro w mg fa h Y G hmg0
    obtain ⟨K, KX, c⟩ := Y
    have hmg : mg ("law" : PySem.Str) = some (.ref fa) := by
      have e : (HandSHeadRun.topDef (OpenLaw.row PySem.Challenge.rw_feastrobes_k10_a_great_house).prog 30).name = ("law" : PySem.Str) := by kernel_rfl
      rw [← e]
      exact hmg0
    obtain ⟨fd, F, hF⟩ := Vi.Lw.facts (P := (PySem.Challenge.rw_feastrobes_k10_a_great_house).prog) (w := w) Lw0.oks (by decide) Lw0.cks KX G c 110 25 Lw0.l25 rfl hmg
    refine ⟨K, fd, _, KX, fun s v => ?_, fun H a ns hl _ hS => Lw0.tells.sp hl hS, fun base _ _ => Vi.FnG.any (hF base)⟩
    have F : L2.FunD K "law" "law" (L2.defArgs (Lw0.top 30)) (L2.defBody (Lw0.top 30)) (L2.defScope (Lw0.top 30)) [] [] fa fd := F
    exact L2.FunD.bindsA (ps := ["_law_script"]) F (fun _ _ _ _ _ _ us hl => match us, hl with | [_], _ => rfl) s [v] rfl
